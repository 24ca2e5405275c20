import PyProof.Rows.All
import Wide.All
import OpenK.AllK
import Wide.FinOn
import KE.KStateDown
import KE.KDictKeyed
import KE.KDictDisplayH
import HandS.ForMost
import HandS.Exc
import HandS.TryOnly
import HandS.TryMany
import HandS.ExcOwn
import HandS.WordsExc
import HandS.Defaults
import HandS.IsInst
import HandS.Deep
import HandS.TupAny
import HandS.Flow
import HandS.Strs
import HandS.DictComp
import HandS.TupSets
import HandS.Codes
import HandS.CallRecv
import HandS.Conv
import HandS.SortInts
import HandS.Head0
import HandS.Head1
import HandS.Head2
import HandS.HeadEnd
import HandS.HeadHook1
import HandS.HeadHook2
import HandS.HeadHook3
import HandS.HeadHook4
import HandS.Flt
import PySem.Challenge.RW_fixworlds_k22_whole_machines_of_statemen
set_option Elab.async false
set_option linter.all false
set_option maxRecDepth 100000
set_option maxHeartbeats 4000000
namespace K22
open PySem PySem.Spec PyProof.Rows L2
/-! ### the text by names (printed by genhead.py) -/
def top (i : Nat) : Stmt := PySem.Challenge.pw_fixworlds_k22_whole_machines_of_statemen.main.body.getD i (.Pass ⟨0, 0, 0, 0⟩)
abbrev s_Solver_init : Stmt := inClass (top 8) 0
abbrev s_Solver_attracted : Stmt := inClass (top 8) 1
abbrev s_Solver_give : Stmt := inClass (top 8) 2
abbrev s_Solver_solve : Stmt := inClass (top 8) 3
abbrev s_parts_in : Stmt := top 12
abbrev s_add_free : Stmt := top 13
abbrev s_free_variables : Stmt := top 14
abbrev s_check_closed : Stmt := top 15
abbrev s_Renamer_init : Stmt := inClass (top 16) 0
abbrev s_Renamer_renamed : Stmt := inClass (top 16) 1
abbrev s_tidy : Stmt := top 17
abbrev s_dual : Stmt := top 18
abbrev s_substituted : Stmt := top 19
abbrev s_unfolded : Stmt := top 20
abbrev s_next_in_closure : Stmt := top 21
abbrev s_closure : Stmt := top 22
abbrev s_ascend : Stmt := top 25
abbrev s_right_steps : Stmt := top 26
abbrev s_World_init : Stmt := inClass (top 27) 0
abbrev s_followers : Stmt := top 28
abbrev s_is_plain_true : Stmt := top 30
abbrev s_has_open : Stmt := top 32
abbrev s_is_guarded : Stmt := top 33
abbrev s_is_row : Stmt := top 38
abbrev s_Machine_init : Stmt := inClass (top 39) 0
abbrev s_Run_init : Stmt := inClass (top 40) 0
abbrev s_Run_number : Stmt := inClass (top 40) 1
abbrev s_Run_add : Stmt := inClass (top 40) 2
abbrev s_accepted : Stmt := top 41
abbrev s_Builder_init : Stmt := inClass (top 42) 0
abbrev s_Builder_number : Stmt := inClass (top 42) 1
abbrev s_Builder_row : Stmt := inClass (top 42) 2
abbrev s_Builder_priorities : Stmt := inClass (top 42) 3
abbrev s_machine_of : Stmt := top 43
abbrev s_other_machine : Stmt := top 44
abbrev s_moved_row : Stmt := top 45
abbrev s_joined_machine : Stmt := top 46
abbrev s_law_draws : Stmt := top 48
abbrev s_law_take : Stmt := top 49
abbrev s_law_inner : Stmt := top 50
abbrev s_law_size : Stmt := top 51
abbrev s_law_atom : Stmt := top 52
abbrev s_law_statement : Stmt := top 53
abbrev s_law_closed : Stmt := top 54
abbrev s_law_guarded : Stmt := top 55
abbrev s_law_open_inside : Stmt := top 56
abbrev s_law_is_guarded : Stmt := top 57
abbrev s_law_put : Stmt := top 58
abbrev s_law_tidy_from : Stmt := top 59
abbrev s_law_tidy : Stmt := top 60
abbrev s_law_following : Stmt := top 61
abbrev s_law_closure : Stmt := top 62
abbrev s_law_world : Stmt := top 63
abbrev s_law_made : Stmt := top 64
abbrev s_law_behind : Stmt := top 65
abbrev s_law_value : Stmt := top 66
abbrev s_law_truth : Stmt := top 67
abbrev s_law_is_list : Stmt := top 68
abbrev s_law_outcome : Stmt := top 69
abbrev s_law : Stmt := top 70
def d_Solver_init : He.DefD := ⟨("Solver", some "__init__"), "__init__", "Solver.__init__", defArgs s_Solver_init, defBody s_Solver_init, defScope s_Solver_init, [], []⟩
def d_Solver_attracted : He.DefD := ⟨("Solver", some "attracted"), "attracted", "Solver.attracted", defArgs s_Solver_attracted, defBody s_Solver_attracted, defScope s_Solver_attracted, [], []⟩
def d_Solver_give : He.DefD := ⟨("Solver", some "give"), "give", "Solver.give", defArgs s_Solver_give, defBody s_Solver_give, defScope s_Solver_give, [], []⟩
def d_Solver_solve : He.DefD := ⟨("Solver", some "solve"), "solve", "Solver.solve", defArgs s_Solver_solve, defBody s_Solver_solve, defScope s_Solver_solve, [], []⟩
def d_parts_in : He.DefD := ⟨("parts_in", none), "parts_in", "parts_in", defArgs s_parts_in, defBody s_parts_in, defScope s_parts_in, [], []⟩
def d_add_free : He.DefD := ⟨("add_free", none), "add_free", "add_free", defArgs s_add_free, defBody s_add_free, defScope s_add_free, [], []⟩
def d_free_variables : He.DefD := ⟨("free_variables", none), "free_variables", "free_variables", defArgs s_free_variables, defBody s_free_variables, defScope s_free_variables, [], []⟩
def d_check_closed : He.DefD := ⟨("check_closed", none), "check_closed", "check_closed", defArgs s_check_closed, defBody s_check_closed, defScope s_check_closed, [], []⟩
def d_Renamer_init : He.DefD := ⟨("Renamer", some "__init__"), "__init__", "Renamer.__init__", defArgs s_Renamer_init, defBody s_Renamer_init, defScope s_Renamer_init, [], []⟩
def d_Renamer_renamed : He.DefD := ⟨("Renamer", some "renamed"), "renamed", "Renamer.renamed", defArgs s_Renamer_renamed, defBody s_Renamer_renamed, defScope s_Renamer_renamed, [], []⟩
def d_tidy : He.DefD := ⟨("tidy", none), "tidy", "tidy", defArgs s_tidy, defBody s_tidy, defScope s_tidy, [], []⟩
def d_dual : He.DefD := ⟨("dual", none), "dual", "dual", defArgs s_dual, defBody s_dual, defScope s_dual, [], []⟩
def d_substituted : He.DefD := ⟨("substituted", none), "substituted", "substituted", defArgs s_substituted, defBody s_substituted, defScope s_substituted, [], []⟩
def d_unfolded : He.DefD := ⟨("unfolded", none), "unfolded", "unfolded", defArgs s_unfolded, defBody s_unfolded, defScope s_unfolded, [], []⟩
def d_next_in_closure : He.DefD := ⟨("next_in_closure", none), "next_in_closure", "next_in_closure", defArgs s_next_in_closure, defBody s_next_in_closure, defScope s_next_in_closure, [], []⟩
def d_closure : He.DefD := ⟨("closure", none), "closure", "closure", defArgs s_closure, defBody s_closure, defScope s_closure, [], []⟩
def d_ascend : He.DefD := ⟨("ascend", none), "ascend", "ascend", defArgs s_ascend, defBody s_ascend, defScope s_ascend, [], []⟩
def d_right_steps : He.DefD := ⟨("right_steps", none), "right_steps", "right_steps", defArgs s_right_steps, defBody s_right_steps, defScope s_right_steps, [], []⟩
def d_World_init : He.DefD := ⟨("World", some "__init__"), "__init__", "World.__init__", defArgs s_World_init, defBody s_World_init, defScope s_World_init, [], []⟩
def d_followers : He.DefD := ⟨("followers", none), "followers", "followers", defArgs s_followers, defBody s_followers, defScope s_followers, [], []⟩
def d_is_plain_true : He.DefD := ⟨("is_plain_true", none), "is_plain_true", "is_plain_true", defArgs s_is_plain_true, defBody s_is_plain_true, defScope s_is_plain_true, [], []⟩
def d_has_open : He.DefD := ⟨("has_open", none), "has_open", "has_open", defArgs s_has_open, defBody s_has_open, defScope s_has_open, [], []⟩
def d_is_guarded : He.DefD := ⟨("is_guarded", none), "is_guarded", "is_guarded", defArgs s_is_guarded, defBody s_is_guarded, defScope s_is_guarded, [], []⟩
def d_is_row : He.DefD := ⟨("is_row", none), "is_row", "is_row", defArgs s_is_row, defBody s_is_row, defScope s_is_row, [], []⟩
def d_Machine_init : He.DefD := ⟨("Machine", some "__init__"), "__init__", "Machine.__init__", defArgs s_Machine_init, defBody s_Machine_init, defScope s_Machine_init, [], []⟩
def d_Run_init : He.DefD := ⟨("Run", some "__init__"), "__init__", "Run.__init__", defArgs s_Run_init, defBody s_Run_init, defScope s_Run_init, [], []⟩
def d_Run_number : He.DefD := ⟨("Run", some "number"), "number", "Run.number", defArgs s_Run_number, defBody s_Run_number, defScope s_Run_number, [], []⟩
def d_Run_add : He.DefD := ⟨("Run", some "add"), "add", "Run.add", defArgs s_Run_add, defBody s_Run_add, defScope s_Run_add, [], []⟩
def d_accepted : He.DefD := ⟨("accepted", none), "accepted", "accepted", defArgs s_accepted, defBody s_accepted, defScope s_accepted, [], []⟩
def d_Builder_init : He.DefD := ⟨("Builder", some "__init__"), "__init__", "Builder.__init__", defArgs s_Builder_init, defBody s_Builder_init, defScope s_Builder_init, [], []⟩
def d_Builder_number : He.DefD := ⟨("Builder", some "number"), "number", "Builder.number", defArgs s_Builder_number, defBody s_Builder_number, defScope s_Builder_number, [], []⟩
def d_Builder_row : He.DefD := ⟨("Builder", some "row"), "row", "Builder.row", defArgs s_Builder_row, defBody s_Builder_row, defScope s_Builder_row, [], []⟩
def d_Builder_priorities : He.DefD := ⟨("Builder", some "priorities"), "priorities", "Builder.priorities", defArgs s_Builder_priorities, defBody s_Builder_priorities, defScope s_Builder_priorities, [], []⟩
def d_machine_of : He.DefD := ⟨("machine_of", none), "machine_of", "machine_of", defArgs s_machine_of, defBody s_machine_of, defScope s_machine_of, [], []⟩
def d_other_machine : He.DefD := ⟨("other_machine", none), "other_machine", "other_machine", defArgs s_other_machine, defBody s_other_machine, defScope s_other_machine, [], []⟩
def d_moved_row : He.DefD := ⟨("moved_row", none), "moved_row", "moved_row", defArgs s_moved_row, defBody s_moved_row, defScope s_moved_row, [], []⟩
def d_joined_machine : He.DefD := ⟨("joined_machine", none), "joined_machine", "joined_machine", defArgs s_joined_machine, defBody s_joined_machine, defScope s_joined_machine, [], []⟩
def d_law_draws : He.DefD := ⟨("_law_draws", none), "_law_draws", "_law_draws", defArgs s_law_draws, defBody s_law_draws, defScope s_law_draws, [], []⟩
def d_law_take : He.DefD := ⟨("_law_take", none), "_law_take", "_law_take", defArgs s_law_take, defBody s_law_take, defScope s_law_take, [], []⟩
def d_law_inner : He.DefD := ⟨("_law_inner", none), "_law_inner", "_law_inner", defArgs s_law_inner, defBody s_law_inner, defScope s_law_inner, [], []⟩
def d_law_size : He.DefD := ⟨("_law_size", none), "_law_size", "_law_size", defArgs s_law_size, defBody s_law_size, defScope s_law_size, [], []⟩
def d_law_atom : He.DefD := ⟨("_law_atom", none), "_law_atom", "_law_atom", defArgs s_law_atom, defBody s_law_atom, defScope s_law_atom, [], []⟩
def d_law_statement : He.DefD := ⟨("_law_statement", none), "_law_statement", "_law_statement", defArgs s_law_statement, defBody s_law_statement, defScope s_law_statement, [], []⟩
def d_law_closed : He.DefD := ⟨("_law_closed", none), "_law_closed", "_law_closed", defArgs s_law_closed, defBody s_law_closed, defScope s_law_closed, [], []⟩
def d_law_guarded : He.DefD := ⟨("_law_guarded", none), "_law_guarded", "_law_guarded", defArgs s_law_guarded, defBody s_law_guarded, defScope s_law_guarded, [], []⟩
def d_law_open_inside : He.DefD := ⟨("_law_open_inside", none), "_law_open_inside", "_law_open_inside", defArgs s_law_open_inside, defBody s_law_open_inside, defScope s_law_open_inside, [], []⟩
def d_law_is_guarded : He.DefD := ⟨("_law_is_guarded", none), "_law_is_guarded", "_law_is_guarded", defArgs s_law_is_guarded, defBody s_law_is_guarded, defScope s_law_is_guarded, [], []⟩
def d_law_put : He.DefD := ⟨("_law_put", none), "_law_put", "_law_put", defArgs s_law_put, defBody s_law_put, defScope s_law_put, [], []⟩
def d_law_tidy_from : He.DefD := ⟨("_law_tidy_from", none), "_law_tidy_from", "_law_tidy_from", defArgs s_law_tidy_from, defBody s_law_tidy_from, defScope s_law_tidy_from, [], []⟩
def d_law_tidy : He.DefD := ⟨("_law_tidy", none), "_law_tidy", "_law_tidy", defArgs s_law_tidy, defBody s_law_tidy, defScope s_law_tidy, [], []⟩
def d_law_following : He.DefD := ⟨("_law_following", none), "_law_following", "_law_following", defArgs s_law_following, defBody s_law_following, defScope s_law_following, [], []⟩
def d_law_closure : He.DefD := ⟨("_law_closure", none), "_law_closure", "_law_closure", defArgs s_law_closure, defBody s_law_closure, defScope s_law_closure, [], []⟩
def d_law_world : He.DefD := ⟨("_law_world", none), "_law_world", "_law_world", defArgs s_law_world, defBody s_law_world, defScope s_law_world, [], []⟩
def d_law_made : He.DefD := ⟨("_law_made", none), "_law_made", "_law_made", defArgs s_law_made, defBody s_law_made, defScope s_law_made, [], []⟩
def d_law_behind : He.DefD := ⟨("_law_behind", none), "_law_behind", "_law_behind", defArgs s_law_behind, defBody s_law_behind, defScope s_law_behind, [], []⟩
def d_law_value : He.DefD := ⟨("_law_value", none), "_law_value", "_law_value", defArgs s_law_value, defBody s_law_value, defScope s_law_value, [], []⟩
def d_law_truth : He.DefD := ⟨("_law_truth", none), "_law_truth", "_law_truth", defArgs s_law_truth, defBody s_law_truth, defScope s_law_truth, [], []⟩
def d_law_is_list : He.DefD := ⟨("_law_is_list", none), "_law_is_list", "_law_is_list", defArgs s_law_is_list, defBody s_law_is_list, defScope s_law_is_list, [], []⟩
def d_law_outcome : He.DefD := ⟨("_law_outcome", none), "_law_outcome", "_law_outcome", defArgs s_law_outcome, defBody s_law_outcome, defScope s_law_outcome, [], []⟩
def d_law : He.DefD := ⟨("law", none), "law", "law", defArgs s_law, defBody s_law, defScope s_law, [], []⟩
def fn : List He.DefD := [d_Solver_init, d_Solver_attracted, d_Solver_give, d_Solver_solve, d_parts_in, d_add_free, d_free_variables, d_check_closed, d_Renamer_init, d_Renamer_renamed, d_tidy, d_dual, d_substituted, d_unfolded, d_next_in_closure, d_closure, d_ascend, d_right_steps, d_World_init, d_followers, d_is_plain_true, d_has_open, d_is_guarded, d_is_row, d_Machine_init, d_Run_init, d_Run_number, d_Run_add, d_accepted, d_Builder_init, d_Builder_number, d_Builder_row, d_Builder_priorities, d_machine_of, d_other_machine, d_moved_row, d_joined_machine, d_law_draws, d_law_take, d_law_inner, d_law_size, d_law_atom, d_law_statement, d_law_closed, d_law_guarded, d_law_open_inside, d_law_is_guarded, d_law_put, d_law_tidy_from, d_law_tidy, d_law_following, d_law_closure, d_law_world, d_law_made, d_law_behind, d_law_value, d_law_truth, d_law_is_list, d_law_outcome, d_law]
def fa : List He.Fa := [.glo "parts_in", .glo "add_free", .glo "free_variables", .glo "check_closed", .glo "tidy", .glo "dual", .glo "substituted", .glo "unfolded", .glo "next_in_closure", .glo "closure", .glo "ascend", .glo "right_steps", .glo "followers", .glo "is_plain_true", .glo "has_open", .glo "is_guarded", .glo "is_row", .glo "accepted", .glo "machine_of", .glo "other_machine", .glo "moved_row", .glo "joined_machine", .glo "_law_draws", .glo "_law_take", .glo "_law_inner", .glo "_law_size", .glo "_law_atom", .glo "_law_statement", .glo "_law_closed", .glo "_law_guarded", .glo "_law_open_inside", .glo "_law_is_guarded", .glo "_law_put", .glo "_law_tidy_from", .glo "_law_tidy", .glo "_law_following", .glo "_law_closure", .glo "_law_world", .glo "_law_made", .glo "_law_behind", .glo "_law_value", .glo "_law_truth", .glo "_law_is_list", .glo "_law_outcome", .glo "law", .glo "FixError", .glo "InvalidWorld", .glo "InvalidMachine", .glo "NotClosed", .glo "NotGuarded", .glo "TooLarge", .glo "Solver", .glo "Renamer", .glo "World", .glo "Machine", .glo "Run", .glo "Builder", .glo "BINDERS", .glo "OPPOSITES", .free "len", .free "isinstance", .free "tuple", .free "sorted", .free "dict", .free "range", .free "max", .free "min", .free "int", .free "sum", .free "set", .free "list", .int "MOST_STATES_worlds" 400, .int "MOST_STATES_machines" 400, .int "MOST_PRIORITY" 200, .int "MOST_CLOSURE" 15, .cls "Solver", .mkr "Solver", .noat "Solver" "owners", .noat "Solver" "priorities", .noat "Solver" "moves", .noat "Solver" "count", .noat "Solver" "coming", .noat "Solver" "winner", .noat "Solver" "choice", .cls "Renamer", .mkr "Renamer", .noat "Renamer" "count", .cls "World", .mkr "World", .noat "World" "labels", .noat "World" "facts", .noat "World" "states", .noat "World" "steps", .cls "Machine", .mkr "Machine", .noat "Machine" "start", .noat "Machine" "rows", .noat "Machine" "priorities", .cls "Run", .mkr "Run", .noat "Run" "machine", .noat "Run" "world", .noat "Run" "positions", .noat "Run" "numbers", .noat "Run" "owners", .noat "Run" "priorities", .noat "Run" "moves", .cls "Builder", .mkr "Builder", .noat "Builder" "parts", .noat "Builder" "states", .noat "Builder" "numbers", .noat "Builder" "rows", .meth "Solver" "attracted", .meth "Solver" "give", .meth "Solver" "solve", .meth "Renamer" "renamed", .meth "Run" "number", .meth "Run" "add", .meth "Builder" "number", .meth "Builder" "row", .meth "Builder" "priorities", .exc "InvalidWorld", .exc "InvalidMachine", .exc "NotClosed", .exc "NotGuarded", .exc "TooLarge", .exm "NotGuarded" "NotGuarded" true, .exm "NotGuarded" "TooLarge" false, .exm "TooLarge" "NotGuarded" false, .exm "TooLarge" "TooLarge" true]
def oppT : List (Str × He.Dv) := [("true", .str "false"), ("false", .str "true"), ("has", .str "lacks"), ("lacks", .str "has"), ("and", .str "or"), ("or", .str "and"), ("some", .str "all"), ("all", .str "some"), ("least", .str "most"), ("most", .str "least"), ("var", .str "var")]
def ts : List He.Tab := [(fun K => He.ga K "OPPOSITES", oppT.map (·.1))]
def isiB (K : PySem.W.Frag) (C : Addr) : Bool := decide (PySem.W.findIn K (.ref C) "__class__" = some (some (.builtin "object.__class__"))) && (decide (PySem.W.specialIn K (.builtin "object.__class__") "__get__" = some (some (.builtin "getset_descriptor.__get__"))) && (decide (PySem.W.takesIn K (.builtin "object.__class__") = some true) && (decide (PySem.W.mroIn K C (.type "object") = some true) && decide (PySem.W.kitOne K (.ref C) (.ref C) = some true))))
def ex (K : PySem.W.Frag) : Bool := He.tupB K "BINDERS" [.str "least", .str "most"] && (He.valsB K (He.ga K "OPPOSITES") oppT && isiB K (He.ga K "Machine"))
def loose : List Str := (["__name__", "FixError", "InvalidWorld", "InvalidMachine", "NotClosed", "NotGuarded", "TooLarge", "Solver", "BINDERS", "OPPOSITES", "parts_in", "add_free"] : List Str) ++ ((["free_variables", "check_closed", "Renamer", "tidy", "dual", "substituted", "unfolded", "next_in_closure", "closure", "MOST_STATES_worlds", "ascend", "right_steps"] : List Str) ++ ((["World", "followers", "is_plain_true", "has_open", "is_guarded", "MOST_STATES_machines", "MOST_PRIORITY", "MOST_CLOSURE", "is_row", "Machine", "Run", "accepted"] : List Str) ++ ((["Builder", "machine_of", "other_machine", "moved_row", "joined_machine", "_law_draws", "_law_take", "_law_inner", "_law_size", "_law_atom", "_law_statement", "_law_closed"] : List Str) ++ ((["_law_guarded", "_law_open_inside", "_law_is_guarded", "_law_put", "_law_tidy_from", "_law_tidy", "_law_following", "_law_closure", "_law_world", "_law_made", "_law_behind", "_law_value"] : List Str) ++ ((["_law_truth", "_law_is_list", "_law_outcome"] : List Str))))))
/-! ### what the top leaves -/
structure Top (w : World) (K : PySem.W.Frag) (mg : Str → Option Value) : Prop where
  hX : ∃ h : Heap, K.In h ∧ h.Ns mainGlobals mg
  c : He.SaysT fa fn ts w K
  e : ex K = true
def fdOf (K : PySem.W.Frag) (p : Str × Option Str) : FuncData := match K.lookup (He.fAd K p) with
  | some ⟨_, _, .func fd, _⟩ => fd
  | _ => PySem.W.fnOf "" "" ⟨[], [], none, [], [], none, []⟩ [] ⟨.function, [], false, false, []⟩ .none .none .none .none none .none .none
theorem fd_of {K : PySem.W.Frag} {x q : Str} {ar : Arguments} {bd : List Stmt} {sc : Scope} {p : Str × Option Str} (h : ∃ fd, FunD K x q ar bd sc [] [] (He.fAd K p) fd) : FunD K x q ar bd sc [] [] (He.fAd K p) (fdOf K p) := by
  obtain ⟨fd, F⟩ := h
  obtain ⟨oc, od, dV, kV, doc, pm, an, cdv, ct, osl, e1, lk, r⟩ := F.ex
  have e : fdOf K p = fd := by
    unfold fdOf
    rw [lk]
  rw [e]
  exact F
abbrev Ok (P : Program) (w : World) (K : PySem.W.Frag) (mg : Str → Option Value) (base : Heap) (k : Nat) (p : Str × Option Str) (ps : List Str) (sp : Sp) : Prop := FnOk P w K mg base CX0 k (He.fAd K p) (fdOf K p) ps sp
abbrev ExcT (K : PySem.W.Frag) (C : Addr) : Prop := PySem.W.excIn K C He.veBase "ValueError.__new__" = true ∧ PySem.W.keepIn K (.ref C) = true ∧ PySem.W.subIn K (.ref C) (.type "BaseException") = some true ∧ PySem.W.typeIn K (.ref C) = some (.type "type")
section
variable {w : World} {K : PySem.W.Frag} {mg : Str → Option Value}
theorem glo_T (T : Top w K mg) {x : Str} (c : (He.Fa.glo x).ok K = true) : mg x = some (.ref (He.ga K x)) := let ⟨_, X, G⟩ := T.hX; He.glo_ok X G c
theorem free_T (T : Top w K mg) {x : Str} (c : (He.Fa.free x).ok K = true) : mg x = none := let ⟨_, X, G⟩ := T.hX; He.free_ok X G c
theorem int_T (T : Top w K mg) {x : Str} {i : Int} (c : (He.Fa.int x i).ok K = true) : ∃ t, mg x = some (.int i t) := let ⟨_, X, G⟩ := T.hX; He.int_ok X G c
theorem isi_machine (T : Top w K mg) {H : Hp} {a dx : Addr} {fs : List (Str × V)} (h : H a = some (.ins (He.ga K "Machine") dx fs)) (c : Cls K (He.ga K "Machine")) : TyX K H (.ref a) (.ref (He.ga K "Machine")) ∧ PySem.W.kitOne K (.ref (He.ga K "Machine")) (.ref (He.ga K "Machine")) = some true := by
  have e := (He.ba (He.ba T.e).2).2
  unfold isiB at e
  obtain ⟨h1, e⟩ := He.ba e
  obtain ⟨h2, e⟩ := He.ba e
  obtain ⟨h3, e⟩ := He.ba e
  obtain ⟨h4, h5⟩ := He.ba e
  exact ⟨.base (.ins h c (of_decide_eq_true h1) (of_decide_eq_true h2) (of_decide_eq_true h3) (of_decide_eq_true h4)), of_decide_eq_true h5⟩

abbrev a_Solver_init : Str × Option Str := ("Solver", some "__init__")
abbrev p_Solver_init : List Str := ["self", "owners", "priorities", "moves"]
theorem Top.F_Solver_init (T : Top w K mg) : FunD K "__init__" "Solver.__init__" (defArgs s_Solver_init) (defBody s_Solver_init) (defScope s_Solver_init) [] [] (He.fAd K a_Solver_init) (fdOf K a_Solver_init) := fd_of (T.c.d.def_ 0 (d := d_Solver_init) rfl)
theorem Top.b_Solver_init (T : Top w K mg) : Binds K (fdOf K a_Solver_init) p_Solver_init [] := T.F_Solver_init.bindsN fun _ _ _ _ _ _ us hl => match us, hl with | [_, _, _, _], _ => rfl
abbrev a_Solver_attracted : Str × Option Str := ("Solver", some "attracted")
abbrev p_Solver_attracted : List Str := ["self", "inside", "player", "targets"]
theorem Top.F_Solver_attracted (T : Top w K mg) : FunD K "attracted" "Solver.attracted" (defArgs s_Solver_attracted) (defBody s_Solver_attracted) (defScope s_Solver_attracted) [] [] (He.fAd K a_Solver_attracted) (fdOf K a_Solver_attracted) := fd_of (T.c.d.def_ 1 (d := d_Solver_attracted) rfl)
theorem Top.b_Solver_attracted (T : Top w K mg) : Binds K (fdOf K a_Solver_attracted) p_Solver_attracted [] := T.F_Solver_attracted.bindsN fun _ _ _ _ _ _ us hl => match us, hl with | [_, _, _, _], _ => rfl
abbrev a_Solver_give : Str × Option Str := ("Solver", some "give")
abbrev p_Solver_give : List Str := ["self", "inside", "player", "positions"]
theorem Top.F_Solver_give (T : Top w K mg) : FunD K "give" "Solver.give" (defArgs s_Solver_give) (defBody s_Solver_give) (defScope s_Solver_give) [] [] (He.fAd K a_Solver_give) (fdOf K a_Solver_give) := fd_of (T.c.d.def_ 2 (d := d_Solver_give) rfl)
theorem Top.b_Solver_give (T : Top w K mg) : Binds K (fdOf K a_Solver_give) p_Solver_give [] := T.F_Solver_give.bindsN fun _ _ _ _ _ _ us hl => match us, hl with | [_, _, _, _], _ => rfl
abbrev a_Solver_solve : Str × Option Str := ("Solver", some "solve")
abbrev p_Solver_solve : List Str := ["self", "inside"]
theorem Top.F_Solver_solve (T : Top w K mg) : FunD K "solve" "Solver.solve" (defArgs s_Solver_solve) (defBody s_Solver_solve) (defScope s_Solver_solve) [] [] (He.fAd K a_Solver_solve) (fdOf K a_Solver_solve) := fd_of (T.c.d.def_ 3 (d := d_Solver_solve) rfl)
theorem Top.b_Solver_solve (T : Top w K mg) : Binds K (fdOf K a_Solver_solve) p_Solver_solve [] := T.F_Solver_solve.bindsN fun _ _ _ _ _ _ us hl => match us, hl with | [_, _], _ => rfl
abbrev a_parts_in : Str × Option Str := ("parts_in", none)
abbrev p_parts_in : List Str := ["statement"]
theorem Top.F_parts_in (T : Top w K mg) : FunD K "parts_in" "parts_in" (defArgs s_parts_in) (defBody s_parts_in) (defScope s_parts_in) [] [] (He.fAd K a_parts_in) (fdOf K a_parts_in) := fd_of (T.c.d.def_ 4 (d := d_parts_in) rfl)
theorem Top.b_parts_in (T : Top w K mg) : Binds K (fdOf K a_parts_in) p_parts_in [] := T.F_parts_in.bindsN fun _ _ _ _ _ _ us hl => match us, hl with | [_], _ => rfl
abbrev a_add_free : Str × Option Str := ("add_free", none)
abbrev p_add_free : List Str := ["statement", "bound", "found"]
theorem Top.F_add_free (T : Top w K mg) : FunD K "add_free" "add_free" (defArgs s_add_free) (defBody s_add_free) (defScope s_add_free) [] [] (He.fAd K a_add_free) (fdOf K a_add_free) := fd_of (T.c.d.def_ 5 (d := d_add_free) rfl)
theorem Top.b_add_free (T : Top w K mg) : Binds K (fdOf K a_add_free) p_add_free [] := T.F_add_free.bindsN fun _ _ _ _ _ _ us hl => match us, hl with | [_, _, _], _ => rfl
abbrev a_free_variables : Str × Option Str := ("free_variables", none)
abbrev p_free_variables : List Str := ["statement"]
theorem Top.F_free_variables (T : Top w K mg) : FunD K "free_variables" "free_variables" (defArgs s_free_variables) (defBody s_free_variables) (defScope s_free_variables) [] [] (He.fAd K a_free_variables) (fdOf K a_free_variables) := fd_of (T.c.d.def_ 6 (d := d_free_variables) rfl)
theorem Top.b_free_variables (T : Top w K mg) : Binds K (fdOf K a_free_variables) p_free_variables [] := T.F_free_variables.bindsN fun _ _ _ _ _ _ us hl => match us, hl with | [_], _ => rfl
abbrev a_check_closed : Str × Option Str := ("check_closed", none)
abbrev p_check_closed : List Str := ["statement"]
theorem Top.F_check_closed (T : Top w K mg) : FunD K "check_closed" "check_closed" (defArgs s_check_closed) (defBody s_check_closed) (defScope s_check_closed) [] [] (He.fAd K a_check_closed) (fdOf K a_check_closed) := fd_of (T.c.d.def_ 7 (d := d_check_closed) rfl)
theorem Top.b_check_closed (T : Top w K mg) : Binds K (fdOf K a_check_closed) p_check_closed [] := T.F_check_closed.bindsN fun _ _ _ _ _ _ us hl => match us, hl with | [_], _ => rfl
abbrev a_Renamer_init : Str × Option Str := ("Renamer", some "__init__")
abbrev p_Renamer_init : List Str := ["self"]
theorem Top.F_Renamer_init (T : Top w K mg) : FunD K "__init__" "Renamer.__init__" (defArgs s_Renamer_init) (defBody s_Renamer_init) (defScope s_Renamer_init) [] [] (He.fAd K a_Renamer_init) (fdOf K a_Renamer_init) := fd_of (T.c.d.def_ 8 (d := d_Renamer_init) rfl)
theorem Top.b_Renamer_init (T : Top w K mg) : Binds K (fdOf K a_Renamer_init) p_Renamer_init [] := T.F_Renamer_init.bindsN fun _ _ _ _ _ _ us hl => match us, hl with | [_], _ => rfl
abbrev a_Renamer_renamed : Str × Option Str := ("Renamer", some "renamed")
abbrev p_Renamer_renamed : List Str := ["self", "statement", "names"]
theorem Top.F_Renamer_renamed (T : Top w K mg) : FunD K "renamed" "Renamer.renamed" (defArgs s_Renamer_renamed) (defBody s_Renamer_renamed) (defScope s_Renamer_renamed) [] [] (He.fAd K a_Renamer_renamed) (fdOf K a_Renamer_renamed) := fd_of (T.c.d.def_ 9 (d := d_Renamer_renamed) rfl)
theorem Top.b_Renamer_renamed (T : Top w K mg) : Binds K (fdOf K a_Renamer_renamed) p_Renamer_renamed [] := T.F_Renamer_renamed.bindsN fun _ _ _ _ _ _ us hl => match us, hl with | [_, _, _], _ => rfl
abbrev a_tidy : Str × Option Str := ("tidy", none)
abbrev p_tidy : List Str := ["statement"]
theorem Top.F_tidy (T : Top w K mg) : FunD K "tidy" "tidy" (defArgs s_tidy) (defBody s_tidy) (defScope s_tidy) [] [] (He.fAd K a_tidy) (fdOf K a_tidy) := fd_of (T.c.d.def_ 10 (d := d_tidy) rfl)
theorem Top.b_tidy (T : Top w K mg) : Binds K (fdOf K a_tidy) p_tidy [] := T.F_tidy.bindsN fun _ _ _ _ _ _ us hl => match us, hl with | [_], _ => rfl
abbrev a_dual : Str × Option Str := ("dual", none)
abbrev p_dual : List Str := ["statement"]
theorem Top.F_dual (T : Top w K mg) : FunD K "dual" "dual" (defArgs s_dual) (defBody s_dual) (defScope s_dual) [] [] (He.fAd K a_dual) (fdOf K a_dual) := fd_of (T.c.d.def_ 11 (d := d_dual) rfl)
theorem Top.b_dual (T : Top w K mg) : Binds K (fdOf K a_dual) p_dual [] := T.F_dual.bindsN fun _ _ _ _ _ _ us hl => match us, hl with | [_], _ => rfl
abbrev a_substituted : Str × Option Str := ("substituted", none)
abbrev p_substituted : List Str := ["statement", "variable", "other"]
theorem Top.F_substituted (T : Top w K mg) : FunD K "substituted" "substituted" (defArgs s_substituted) (defBody s_substituted) (defScope s_substituted) [] [] (He.fAd K a_substituted) (fdOf K a_substituted) := fd_of (T.c.d.def_ 12 (d := d_substituted) rfl)
theorem Top.b_substituted (T : Top w K mg) : Binds K (fdOf K a_substituted) p_substituted [] := T.F_substituted.bindsN fun _ _ _ _ _ _ us hl => match us, hl with | [_, _, _], _ => rfl
abbrev a_unfolded : Str × Option Str := ("unfolded", none)
abbrev p_unfolded : List Str := ["statement"]
theorem Top.F_unfolded (T : Top w K mg) : FunD K "unfolded" "unfolded" (defArgs s_unfolded) (defBody s_unfolded) (defScope s_unfolded) [] [] (He.fAd K a_unfolded) (fdOf K a_unfolded) := fd_of (T.c.d.def_ 13 (d := d_unfolded) rfl)
theorem Top.b_unfolded (T : Top w K mg) : Binds K (fdOf K a_unfolded) p_unfolded [] := T.F_unfolded.bindsN fun _ _ _ _ _ _ us hl => match us, hl with | [_], _ => rfl
abbrev a_next_in_closure : Str × Option Str := ("next_in_closure", none)
abbrev p_next_in_closure : List Str := ["statement"]
theorem Top.F_next_in_closure (T : Top w K mg) : FunD K "next_in_closure" "next_in_closure" (defArgs s_next_in_closure) (defBody s_next_in_closure) (defScope s_next_in_closure) [] [] (He.fAd K a_next_in_closure) (fdOf K a_next_in_closure) := fd_of (T.c.d.def_ 14 (d := d_next_in_closure) rfl)
theorem Top.b_next_in_closure (T : Top w K mg) : Binds K (fdOf K a_next_in_closure) p_next_in_closure [] := T.F_next_in_closure.bindsN fun _ _ _ _ _ _ us hl => match us, hl with | [_], _ => rfl
abbrev a_closure : Str × Option Str := ("closure", none)
abbrev p_closure : List Str := ["statement"]
theorem Top.F_closure (T : Top w K mg) : FunD K "closure" "closure" (defArgs s_closure) (defBody s_closure) (defScope s_closure) [] [] (He.fAd K a_closure) (fdOf K a_closure) := fd_of (T.c.d.def_ 15 (d := d_closure) rfl)
theorem Top.b_closure (T : Top w K mg) : Binds K (fdOf K a_closure) p_closure [] := T.F_closure.bindsN fun _ _ _ _ _ _ us hl => match us, hl with | [_], _ => rfl
abbrev a_ascend : Str × Option Str := ("ascend", none)
abbrev p_ascend : List Str := ["numbers", "limit"]
theorem Top.F_ascend (T : Top w K mg) : FunD K "ascend" "ascend" (defArgs s_ascend) (defBody s_ascend) (defScope s_ascend) [] [] (He.fAd K a_ascend) (fdOf K a_ascend) := fd_of (T.c.d.def_ 16 (d := d_ascend) rfl)
theorem Top.b_ascend (T : Top w K mg) : Binds K (fdOf K a_ascend) p_ascend [] := T.F_ascend.bindsN fun _ _ _ _ _ _ us hl => match us, hl with | [_, _], _ => rfl
abbrev a_right_steps : Str × Option Str := ("right_steps", none)
abbrev p_right_steps : List Str := ["labels", "count", "steps"]
theorem Top.F_right_steps (T : Top w K mg) : FunD K "right_steps" "right_steps" (defArgs s_right_steps) (defBody s_right_steps) (defScope s_right_steps) [] [] (He.fAd K a_right_steps) (fdOf K a_right_steps) := fd_of (T.c.d.def_ 17 (d := d_right_steps) rfl)
theorem Top.b_right_steps (T : Top w K mg) : Binds K (fdOf K a_right_steps) p_right_steps [] := T.F_right_steps.bindsN fun _ _ _ _ _ _ us hl => match us, hl with | [_, _, _], _ => rfl
abbrev a_World_init : Str × Option Str := ("World", some "__init__")
abbrev p_World_init : List Str := ["self", "labels", "facts", "states", "steps"]
theorem Top.F_World_init (T : Top w K mg) : FunD K "__init__" "World.__init__" (defArgs s_World_init) (defBody s_World_init) (defScope s_World_init) [] [] (He.fAd K a_World_init) (fdOf K a_World_init) := fd_of (T.c.d.def_ 18 (d := d_World_init) rfl)
theorem Top.b_World_init (T : Top w K mg) : Binds K (fdOf K a_World_init) p_World_init [] := T.F_World_init.bindsN fun _ _ _ _ _ _ us hl => match us, hl with | [_, _, _, _, _], _ => rfl
abbrev a_followers : Str × Option Str := ("followers", none)
abbrev p_followers : List Str := ["world", "state", "label"]
theorem Top.F_followers (T : Top w K mg) : FunD K "followers" "followers" (defArgs s_followers) (defBody s_followers) (defScope s_followers) [] [] (He.fAd K a_followers) (fdOf K a_followers) := fd_of (T.c.d.def_ 19 (d := d_followers) rfl)
theorem Top.b_followers (T : Top w K mg) : Binds K (fdOf K a_followers) p_followers [] := T.F_followers.bindsN fun _ _ _ _ _ _ us hl => match us, hl with | [_, _, _], _ => rfl
abbrev a_is_plain_true : Str × Option Str := ("is_plain_true", none)
abbrev p_is_plain_true : List Str := ["world", "state", "part"]
theorem Top.F_is_plain_true (T : Top w K mg) : FunD K "is_plain_true" "is_plain_true" (defArgs s_is_plain_true) (defBody s_is_plain_true) (defScope s_is_plain_true) [] [] (He.fAd K a_is_plain_true) (fdOf K a_is_plain_true) := fd_of (T.c.d.def_ 20 (d := d_is_plain_true) rfl)
theorem Top.b_is_plain_true (T : Top w K mg) : Binds K (fdOf K a_is_plain_true) p_is_plain_true [] := T.F_is_plain_true.bindsN fun _ _ _ _ _ _ us hl => match us, hl with | [_, _, _], _ => rfl
abbrev a_has_open : Str × Option Str := ("has_open", none)
abbrev p_has_open : List Str := ["statement", "variable"]
theorem Top.F_has_open (T : Top w K mg) : FunD K "has_open" "has_open" (defArgs s_has_open) (defBody s_has_open) (defScope s_has_open) [] [] (He.fAd K a_has_open) (fdOf K a_has_open) := fd_of (T.c.d.def_ 21 (d := d_has_open) rfl)
theorem Top.b_has_open (T : Top w K mg) : Binds K (fdOf K a_has_open) p_has_open [] := T.F_has_open.bindsN fun _ _ _ _ _ _ us hl => match us, hl with | [_, _], _ => rfl
abbrev a_is_guarded : Str × Option Str := ("is_guarded", none)
abbrev p_is_guarded : List Str := ["statement"]
theorem Top.F_is_guarded (T : Top w K mg) : FunD K "is_guarded" "is_guarded" (defArgs s_is_guarded) (defBody s_is_guarded) (defScope s_is_guarded) [] [] (He.fAd K a_is_guarded) (fdOf K a_is_guarded) := fd_of (T.c.d.def_ 22 (d := d_is_guarded) rfl)
theorem Top.b_is_guarded (T : Top w K mg) : Binds K (fdOf K a_is_guarded) p_is_guarded [] := T.F_is_guarded.bindsN fun _ _ _ _ _ _ us hl => match us, hl with | [_], _ => rfl
abbrev a_is_row : Str × Option Str := ("is_row", none)
abbrev p_is_row : List Str := ["statement", "count", "inside"]
theorem Top.F_is_row (T : Top w K mg) : FunD K "is_row" "is_row" (defArgs s_is_row) (defBody s_is_row) (defScope s_is_row) [] [] (He.fAd K a_is_row) (fdOf K a_is_row) := fd_of (T.c.d.def_ 23 (d := d_is_row) rfl)
theorem Top.b_is_row (T : Top w K mg) : Binds K (fdOf K a_is_row) p_is_row [] := T.F_is_row.bindsN fun _ _ _ _ _ _ us hl => match us, hl with | [_, _, _], _ => rfl
abbrev a_Machine_init : Str × Option Str := ("Machine", some "__init__")
abbrev p_Machine_init : List Str := ["self", "start", "rows", "priorities"]
theorem Top.F_Machine_init (T : Top w K mg) : FunD K "__init__" "Machine.__init__" (defArgs s_Machine_init) (defBody s_Machine_init) (defScope s_Machine_init) [] [] (He.fAd K a_Machine_init) (fdOf K a_Machine_init) := fd_of (T.c.d.def_ 24 (d := d_Machine_init) rfl)
theorem Top.b_Machine_init (T : Top w K mg) : Binds K (fdOf K a_Machine_init) p_Machine_init [] := T.F_Machine_init.bindsN fun _ _ _ _ _ _ us hl => match us, hl with | [_, _, _, _], _ => rfl
abbrev a_Run_init : Str × Option Str := ("Run", some "__init__")
abbrev p_Run_init : List Str := ["self", "machine", "world"]
theorem Top.F_Run_init (T : Top w K mg) : FunD K "__init__" "Run.__init__" (defArgs s_Run_init) (defBody s_Run_init) (defScope s_Run_init) [] [] (He.fAd K a_Run_init) (fdOf K a_Run_init) := fd_of (T.c.d.def_ 25 (d := d_Run_init) rfl)
theorem Top.b_Run_init (T : Top w K mg) : Binds K (fdOf K a_Run_init) p_Run_init [] := T.F_Run_init.bindsN fun _ _ _ _ _ _ us hl => match us, hl with | [_, _, _], _ => rfl
abbrev a_Run_number : Str × Option Str := ("Run", some "number")
abbrev p_Run_number : List Str := ["self", "state", "part"]
theorem Top.F_Run_number (T : Top w K mg) : FunD K "number" "Run.number" (defArgs s_Run_number) (defBody s_Run_number) (defScope s_Run_number) [] [] (He.fAd K a_Run_number) (fdOf K a_Run_number) := fd_of (T.c.d.def_ 26 (d := d_Run_number) rfl)
theorem Top.b_Run_number (T : Top w K mg) : Binds K (fdOf K a_Run_number) p_Run_number [] := T.F_Run_number.bindsN fun _ _ _ _ _ _ us hl => match us, hl with | [_, _, _], _ => rfl
abbrev a_Run_add : Str × Option Str := ("Run", some "add")
abbrev p_Run_add : List Str := ["self", "state", "part"]
theorem Top.F_Run_add (T : Top w K mg) : FunD K "add" "Run.add" (defArgs s_Run_add) (defBody s_Run_add) (defScope s_Run_add) [] [] (He.fAd K a_Run_add) (fdOf K a_Run_add) := fd_of (T.c.d.def_ 27 (d := d_Run_add) rfl)
theorem Top.b_Run_add (T : Top w K mg) : Binds K (fdOf K a_Run_add) p_Run_add [] := T.F_Run_add.bindsN fun _ _ _ _ _ _ us hl => match us, hl with | [_, _, _], _ => rfl
abbrev a_accepted : Str × Option Str := ("accepted", none)
abbrev p_accepted : List Str := ["machine", "world"]
theorem Top.F_accepted (T : Top w K mg) : FunD K "accepted" "accepted" (defArgs s_accepted) (defBody s_accepted) (defScope s_accepted) [] [] (He.fAd K a_accepted) (fdOf K a_accepted) := fd_of (T.c.d.def_ 28 (d := d_accepted) rfl)
theorem Top.b_accepted (T : Top w K mg) : Binds K (fdOf K a_accepted) p_accepted [] := T.F_accepted.bindsN fun _ _ _ _ _ _ us hl => match us, hl with | [_, _], _ => rfl
abbrev a_Builder_init : Str × Option Str := ("Builder", some "__init__")
abbrev p_Builder_init : List Str := ["self", "statement"]
theorem Top.F_Builder_init (T : Top w K mg) : FunD K "__init__" "Builder.__init__" (defArgs s_Builder_init) (defBody s_Builder_init) (defScope s_Builder_init) [] [] (He.fAd K a_Builder_init) (fdOf K a_Builder_init) := fd_of (T.c.d.def_ 29 (d := d_Builder_init) rfl)
theorem Top.b_Builder_init (T : Top w K mg) : Binds K (fdOf K a_Builder_init) p_Builder_init [] := T.F_Builder_init.bindsN fun _ _ _ _ _ _ us hl => match us, hl with | [_, _], _ => rfl
abbrev a_Builder_number : Str × Option Str := ("Builder", some "number")
abbrev p_Builder_number : List Str := ["self", "state"]
theorem Top.F_Builder_number (T : Top w K mg) : FunD K "number" "Builder.number" (defArgs s_Builder_number) (defBody s_Builder_number) (defScope s_Builder_number) [] [] (He.fAd K a_Builder_number) (fdOf K a_Builder_number) := fd_of (T.c.d.def_ 30 (d := d_Builder_number) rfl)
theorem Top.b_Builder_number (T : Top w K mg) : Binds K (fdOf K a_Builder_number) p_Builder_number [] := T.F_Builder_number.bindsN fun _ _ _ _ _ _ us hl => match us, hl with | [_, _], _ => rfl
abbrev a_Builder_row : Str × Option Str := ("Builder", some "row")
abbrev p_Builder_row : List Str := ["self", "part", "least"]
theorem Top.F_Builder_row (T : Top w K mg) : FunD K "row" "Builder.row" (defArgs s_Builder_row) (defBody s_Builder_row) (defScope s_Builder_row) [] [] (He.fAd K a_Builder_row) (fdOf K a_Builder_row) := fd_of (T.c.d.def_ 31 (d := d_Builder_row) rfl)
theorem Top.b_Builder_row (T : Top w K mg) : Binds K (fdOf K a_Builder_row) p_Builder_row [] := T.F_Builder_row.bindsN fun _ _ _ _ _ _ us hl => match us, hl with | [_, _, _], _ => rfl
abbrev a_Builder_priorities : Str × Option Str := ("Builder", some "priorities")
abbrev p_Builder_priorities : List Str := ["self"]
theorem Top.F_Builder_priorities (T : Top w K mg) : FunD K "priorities" "Builder.priorities" (defArgs s_Builder_priorities) (defBody s_Builder_priorities) (defScope s_Builder_priorities) [] [] (He.fAd K a_Builder_priorities) (fdOf K a_Builder_priorities) := fd_of (T.c.d.def_ 32 (d := d_Builder_priorities) rfl)
theorem Top.b_Builder_priorities (T : Top w K mg) : Binds K (fdOf K a_Builder_priorities) p_Builder_priorities [] := T.F_Builder_priorities.bindsN fun _ _ _ _ _ _ us hl => match us, hl with | [_], _ => rfl
abbrev a_machine_of : Str × Option Str := ("machine_of", none)
abbrev p_machine_of : List Str := ["statement"]
theorem Top.F_machine_of (T : Top w K mg) : FunD K "machine_of" "machine_of" (defArgs s_machine_of) (defBody s_machine_of) (defScope s_machine_of) [] [] (He.fAd K a_machine_of) (fdOf K a_machine_of) := fd_of (T.c.d.def_ 33 (d := d_machine_of) rfl)
theorem Top.b_machine_of (T : Top w K mg) : Binds K (fdOf K a_machine_of) p_machine_of [] := T.F_machine_of.bindsN fun _ _ _ _ _ _ us hl => match us, hl with | [_], _ => rfl
abbrev a_other_machine : Str × Option Str := ("other_machine", none)
abbrev p_other_machine : List Str := ["machine"]
theorem Top.F_other_machine (T : Top w K mg) : FunD K "other_machine" "other_machine" (defArgs s_other_machine) (defBody s_other_machine) (defScope s_other_machine) [] [] (He.fAd K a_other_machine) (fdOf K a_other_machine) := fd_of (T.c.d.def_ 34 (d := d_other_machine) rfl)
theorem Top.b_other_machine (T : Top w K mg) : Binds K (fdOf K a_other_machine) p_other_machine [] := T.F_other_machine.bindsN fun _ _ _ _ _ _ us hl => match us, hl with | [_], _ => rfl
abbrev a_moved_row : Str × Option Str := ("moved_row", none)
abbrev p_moved_row : List Str := ["row", "shift"]
theorem Top.F_moved_row (T : Top w K mg) : FunD K "moved_row" "moved_row" (defArgs s_moved_row) (defBody s_moved_row) (defScope s_moved_row) [] [] (He.fAd K a_moved_row) (fdOf K a_moved_row) := fd_of (T.c.d.def_ 35 (d := d_moved_row) rfl)
theorem Top.b_moved_row (T : Top w K mg) : Binds K (fdOf K a_moved_row) p_moved_row [] := T.F_moved_row.bindsN fun _ _ _ _ _ _ us hl => match us, hl with | [_, _], _ => rfl
abbrev a_joined_machine : Str × Option Str := ("joined_machine", none)
abbrev p_joined_machine : List Str := ["kind", "first", "second"]
theorem Top.F_joined_machine (T : Top w K mg) : FunD K "joined_machine" "joined_machine" (defArgs s_joined_machine) (defBody s_joined_machine) (defScope s_joined_machine) [] [] (He.fAd K a_joined_machine) (fdOf K a_joined_machine) := fd_of (T.c.d.def_ 36 (d := d_joined_machine) rfl)
theorem Top.b_joined_machine (T : Top w K mg) : Binds K (fdOf K a_joined_machine) p_joined_machine [] := T.F_joined_machine.bindsN fun _ _ _ _ _ _ us hl => match us, hl with | [_, _, _], _ => rfl
abbrev a_law_draws : Str × Option Str := ("_law_draws", none)
abbrev p_law_draws : List Str := ["_law_script", "_law_count"]
theorem Top.F_law_draws (T : Top w K mg) : FunD K "_law_draws" "_law_draws" (defArgs s_law_draws) (defBody s_law_draws) (defScope s_law_draws) [] [] (He.fAd K a_law_draws) (fdOf K a_law_draws) := fd_of (T.c.d.def_ 37 (d := d_law_draws) rfl)
theorem Top.b_law_draws (T : Top w K mg) : Binds K (fdOf K a_law_draws) p_law_draws [] := T.F_law_draws.bindsN fun _ _ _ _ _ _ us hl => match us, hl with | [_, _], _ => rfl
abbrev a_law_take : Str × Option Str := ("_law_take", none)
abbrev p_law_take : List Str := ["_law_draws_here", "_law_limit"]
theorem Top.F_law_take (T : Top w K mg) : FunD K "_law_take" "_law_take" (defArgs s_law_take) (defBody s_law_take) (defScope s_law_take) [] [] (He.fAd K a_law_take) (fdOf K a_law_take) := fd_of (T.c.d.def_ 38 (d := d_law_take) rfl)
theorem Top.b_law_take (T : Top w K mg) : Binds K (fdOf K a_law_take) p_law_take [] := T.F_law_take.bindsN fun _ _ _ _ _ _ us hl => match us, hl with | [_, _], _ => rfl
abbrev a_law_inner : Str × Option Str := ("_law_inner", none)
abbrev p_law_inner : List Str := ["_law_statement_here"]
theorem Top.F_law_inner (T : Top w K mg) : FunD K "_law_inner" "_law_inner" (defArgs s_law_inner) (defBody s_law_inner) (defScope s_law_inner) [] [] (He.fAd K a_law_inner) (fdOf K a_law_inner) := fd_of (T.c.d.def_ 39 (d := d_law_inner) rfl)
theorem Top.b_law_inner (T : Top w K mg) : Binds K (fdOf K a_law_inner) p_law_inner [] := T.F_law_inner.bindsN fun _ _ _ _ _ _ us hl => match us, hl with | [_], _ => rfl
abbrev a_law_size : Str × Option Str := ("_law_size", none)
abbrev p_law_size : List Str := ["_law_statement_here"]
theorem Top.F_law_size (T : Top w K mg) : FunD K "_law_size" "_law_size" (defArgs s_law_size) (defBody s_law_size) (defScope s_law_size) [] [] (He.fAd K a_law_size) (fdOf K a_law_size) := fd_of (T.c.d.def_ 40 (d := d_law_size) rfl)
theorem Top.b_law_size (T : Top w K mg) : Binds K (fdOf K a_law_size) p_law_size [] := T.F_law_size.bindsN fun _ _ _ _ _ _ us hl => match us, hl with | [_], _ => rfl
abbrev a_law_atom : Str × Option Str := ("_law_atom", none)
abbrev p_law_atom : List Str := ["_law_draws_here", "_law_ready"]
theorem Top.F_law_atom (T : Top w K mg) : FunD K "_law_atom" "_law_atom" (defArgs s_law_atom) (defBody s_law_atom) (defScope s_law_atom) [] [] (He.fAd K a_law_atom) (fdOf K a_law_atom) := fd_of (T.c.d.def_ 41 (d := d_law_atom) rfl)
theorem Top.b_law_atom (T : Top w K mg) : Binds K (fdOf K a_law_atom) p_law_atom [] := T.F_law_atom.bindsN fun _ _ _ _ _ _ us hl => match us, hl with | [_, _], _ => rfl
abbrev a_law_statement : Str × Option Str := ("_law_statement", none)
abbrev p_law_statement : List Str := ["_law_draws_here", "_law_depth", "_law_waiting", "_law_ready", "_law_loose"]
theorem Top.F_law_statement (T : Top w K mg) : FunD K "_law_statement" "_law_statement" (defArgs s_law_statement) (defBody s_law_statement) (defScope s_law_statement) [] [] (He.fAd K a_law_statement) (fdOf K a_law_statement) := fd_of (T.c.d.def_ 42 (d := d_law_statement) rfl)
theorem Top.b_law_statement (T : Top w K mg) : Binds K (fdOf K a_law_statement) p_law_statement [] := T.F_law_statement.bindsN fun _ _ _ _ _ _ us hl => match us, hl with | [_, _, _, _, _], _ => rfl
abbrev a_law_closed : Str × Option Str := ("_law_closed", none)
abbrev p_law_closed : List Str := ["_law_draws_here", "_law_depth"]
theorem Top.F_law_closed (T : Top w K mg) : FunD K "_law_closed" "_law_closed" (defArgs s_law_closed) (defBody s_law_closed) (defScope s_law_closed) [] [] (He.fAd K a_law_closed) (fdOf K a_law_closed) := fd_of (T.c.d.def_ 43 (d := d_law_closed) rfl)
theorem Top.b_law_closed (T : Top w K mg) : Binds K (fdOf K a_law_closed) p_law_closed [] := T.F_law_closed.bindsN fun _ _ _ _ _ _ us hl => match us, hl with | [_, _], _ => rfl
abbrev a_law_guarded : Str × Option Str := ("_law_guarded", none)
abbrev p_law_guarded : List Str := ["_law_draws_here", "_law_depth"]
theorem Top.F_law_guarded (T : Top w K mg) : FunD K "_law_guarded" "_law_guarded" (defArgs s_law_guarded) (defBody s_law_guarded) (defScope s_law_guarded) [] [] (He.fAd K a_law_guarded) (fdOf K a_law_guarded) := fd_of (T.c.d.def_ 44 (d := d_law_guarded) rfl)
theorem Top.b_law_guarded (T : Top w K mg) : Binds K (fdOf K a_law_guarded) p_law_guarded [] := T.F_law_guarded.bindsN fun _ _ _ _ _ _ us hl => match us, hl with | [_, _], _ => rfl
abbrev a_law_open_inside : Str × Option Str := ("_law_open_inside", none)
abbrev p_law_open_inside : List Str := ["_law_statement_here", "_law_variable"]
theorem Top.F_law_open_inside (T : Top w K mg) : FunD K "_law_open_inside" "_law_open_inside" (defArgs s_law_open_inside) (defBody s_law_open_inside) (defScope s_law_open_inside) [] [] (He.fAd K a_law_open_inside) (fdOf K a_law_open_inside) := fd_of (T.c.d.def_ 45 (d := d_law_open_inside) rfl)
theorem Top.b_law_open_inside (T : Top w K mg) : Binds K (fdOf K a_law_open_inside) p_law_open_inside [] := T.F_law_open_inside.bindsN fun _ _ _ _ _ _ us hl => match us, hl with | [_, _], _ => rfl
abbrev a_law_is_guarded : Str × Option Str := ("_law_is_guarded", none)
abbrev p_law_is_guarded : List Str := ["_law_statement_here"]
theorem Top.F_law_is_guarded (T : Top w K mg) : FunD K "_law_is_guarded" "_law_is_guarded" (defArgs s_law_is_guarded) (defBody s_law_is_guarded) (defScope s_law_is_guarded) [] [] (He.fAd K a_law_is_guarded) (fdOf K a_law_is_guarded) := fd_of (T.c.d.def_ 46 (d := d_law_is_guarded) rfl)
theorem Top.b_law_is_guarded (T : Top w K mg) : Binds K (fdOf K a_law_is_guarded) p_law_is_guarded [] := T.F_law_is_guarded.bindsN fun _ _ _ _ _ _ us hl => match us, hl with | [_], _ => rfl
abbrev a_law_put : Str × Option Str := ("_law_put", none)
abbrev p_law_put : List Str := ["_law_statement_here", "_law_variable", "_law_other"]
theorem Top.F_law_put (T : Top w K mg) : FunD K "_law_put" "_law_put" (defArgs s_law_put) (defBody s_law_put) (defScope s_law_put) [] [] (He.fAd K a_law_put) (fdOf K a_law_put) := fd_of (T.c.d.def_ 47 (d := d_law_put) rfl)
theorem Top.b_law_put (T : Top w K mg) : Binds K (fdOf K a_law_put) p_law_put [] := T.F_law_put.bindsN fun _ _ _ _ _ _ us hl => match us, hl with | [_, _, _], _ => rfl
abbrev a_law_tidy_from : Str × Option Str := ("_law_tidy_from", none)
abbrev p_law_tidy_from : List Str := ["_law_statement_here", "_law_names", "_law_number"]
theorem Top.F_law_tidy_from (T : Top w K mg) : FunD K "_law_tidy_from" "_law_tidy_from" (defArgs s_law_tidy_from) (defBody s_law_tidy_from) (defScope s_law_tidy_from) [] [] (He.fAd K a_law_tidy_from) (fdOf K a_law_tidy_from) := fd_of (T.c.d.def_ 48 (d := d_law_tidy_from) rfl)
theorem Top.b_law_tidy_from (T : Top w K mg) : Binds K (fdOf K a_law_tidy_from) p_law_tidy_from [] := T.F_law_tidy_from.bindsN fun _ _ _ _ _ _ us hl => match us, hl with | [_, _, _], _ => rfl
abbrev a_law_tidy : Str × Option Str := ("_law_tidy", none)
abbrev p_law_tidy : List Str := ["_law_statement_here"]
theorem Top.F_law_tidy (T : Top w K mg) : FunD K "_law_tidy" "_law_tidy" (defArgs s_law_tidy) (defBody s_law_tidy) (defScope s_law_tidy) [] [] (He.fAd K a_law_tidy) (fdOf K a_law_tidy) := fd_of (T.c.d.def_ 49 (d := d_law_tidy) rfl)
theorem Top.b_law_tidy (T : Top w K mg) : Binds K (fdOf K a_law_tidy) p_law_tidy [] := T.F_law_tidy.bindsN fun _ _ _ _ _ _ us hl => match us, hl with | [_], _ => rfl
abbrev a_law_following : Str × Option Str := ("_law_following", none)
abbrev p_law_following : List Str := ["_law_statement_here"]
theorem Top.F_law_following (T : Top w K mg) : FunD K "_law_following" "_law_following" (defArgs s_law_following) (defBody s_law_following) (defScope s_law_following) [] [] (He.fAd K a_law_following) (fdOf K a_law_following) := fd_of (T.c.d.def_ 50 (d := d_law_following) rfl)
theorem Top.b_law_following (T : Top w K mg) : Binds K (fdOf K a_law_following) p_law_following [] := T.F_law_following.bindsN fun _ _ _ _ _ _ us hl => match us, hl with | [_], _ => rfl
abbrev a_law_closure : Str × Option Str := ("_law_closure", none)
abbrev p_law_closure : List Str := ["_law_statement_here"]
theorem Top.F_law_closure (T : Top w K mg) : FunD K "_law_closure" "_law_closure" (defArgs s_law_closure) (defBody s_law_closure) (defScope s_law_closure) [] [] (He.fAd K a_law_closure) (fdOf K a_law_closure) := fd_of (T.c.d.def_ 51 (d := d_law_closure) rfl)
theorem Top.b_law_closure (T : Top w K mg) : Binds K (fdOf K a_law_closure) p_law_closure [] := T.F_law_closure.bindsN fun _ _ _ _ _ _ us hl => match us, hl with | [_], _ => rfl
abbrev a_law_world : Str × Option Str := ("_law_world", none)
abbrev p_law_world : List Str := ["_law_draws_here", "_law_most", "_law_facts"]
theorem Top.F_law_world (T : Top w K mg) : FunD K "_law_world" "_law_world" (defArgs s_law_world) (defBody s_law_world) (defScope s_law_world) [] [] (He.fAd K a_law_world) (fdOf K a_law_world) := fd_of (T.c.d.def_ 52 (d := d_law_world) rfl)
theorem Top.b_law_world (T : Top w K mg) : Binds K (fdOf K a_law_world) p_law_world [] := T.F_law_world.bindsN fun _ _ _ _ _ _ us hl => match us, hl with | [_, _, _], _ => rfl
abbrev a_law_made : Str × Option Str := ("_law_made", none)
abbrev p_law_made : List Str := ["_law_world_here", "_law_labels", "_law_facts"]
theorem Top.F_law_made (T : Top w K mg) : FunD K "_law_made" "_law_made" (defArgs s_law_made) (defBody s_law_made) (defScope s_law_made) [] [] (He.fAd K a_law_made) (fdOf K a_law_made) := fd_of (T.c.d.def_ 53 (d := d_law_made) rfl)
theorem Top.b_law_made (T : Top w K mg) : Binds K (fdOf K a_law_made) p_law_made [] := T.F_law_made.bindsN fun _ _ _ _ _ _ us hl => match us, hl with | [_, _, _], _ => rfl
abbrev a_law_behind : Str × Option Str := ("_law_behind", none)
abbrev p_law_behind : List Str := ["_law_world_here", "_law_state", "_law_label"]
theorem Top.F_law_behind (T : Top w K mg) : FunD K "_law_behind" "_law_behind" (defArgs s_law_behind) (defBody s_law_behind) (defScope s_law_behind) [] [] (He.fAd K a_law_behind) (fdOf K a_law_behind) := fd_of (T.c.d.def_ 54 (d := d_law_behind) rfl)
theorem Top.b_law_behind (T : Top w K mg) : Binds K (fdOf K a_law_behind) p_law_behind [] := T.F_law_behind.bindsN fun _ _ _ _ _ _ us hl => match us, hl with | [_, _, _], _ => rfl
abbrev a_law_value : Str × Option Str := ("_law_value", none)
abbrev p_law_value : List Str := ["_law_world_here", "_law_statement_here", "_law_sets"]
theorem Top.F_law_value (T : Top w K mg) : FunD K "_law_value" "_law_value" (defArgs s_law_value) (defBody s_law_value) (defScope s_law_value) [] [] (He.fAd K a_law_value) (fdOf K a_law_value) := fd_of (T.c.d.def_ 55 (d := d_law_value) rfl)
theorem Top.b_law_value (T : Top w K mg) : Binds K (fdOf K a_law_value) p_law_value [] := T.F_law_value.bindsN fun _ _ _ _ _ _ us hl => match us, hl with | [_, _, _], _ => rfl
abbrev a_law_truth : Str × Option Str := ("_law_truth", none)
abbrev p_law_truth : List Str := ["_law_world_here", "_law_statement_here"]
theorem Top.F_law_truth (T : Top w K mg) : FunD K "_law_truth" "_law_truth" (defArgs s_law_truth) (defBody s_law_truth) (defScope s_law_truth) [] [] (He.fAd K a_law_truth) (fdOf K a_law_truth) := fd_of (T.c.d.def_ 56 (d := d_law_truth) rfl)
theorem Top.b_law_truth (T : Top w K mg) : Binds K (fdOf K a_law_truth) p_law_truth [] := T.F_law_truth.bindsN fun _ _ _ _ _ _ us hl => match us, hl with | [_, _], _ => rfl
abbrev a_law_is_list : Str × Option Str := ("_law_is_list", none)
abbrev p_law_is_list : List Str := ["_law_actual", "_law_expected"]
theorem Top.F_law_is_list (T : Top w K mg) : FunD K "_law_is_list" "_law_is_list" (defArgs s_law_is_list) (defBody s_law_is_list) (defScope s_law_is_list) [] [] (He.fAd K a_law_is_list) (fdOf K a_law_is_list) := fd_of (T.c.d.def_ 57 (d := d_law_is_list) rfl)
theorem Top.b_law_is_list (T : Top w K mg) : Binds K (fdOf K a_law_is_list) p_law_is_list [] := T.F_law_is_list.bindsN fun _ _ _ _ _ _ us hl => match us, hl with | [_, _], _ => rfl
abbrev a_law_outcome : Str × Option Str := ("_law_outcome", none)
abbrev p_law_outcome : List Str := ["_law_statement_here"]
theorem Top.F_law_outcome (T : Top w K mg) : FunD K "_law_outcome" "_law_outcome" (defArgs s_law_outcome) (defBody s_law_outcome) (defScope s_law_outcome) [] [] (He.fAd K a_law_outcome) (fdOf K a_law_outcome) := fd_of (T.c.d.def_ 58 (d := d_law_outcome) rfl)
theorem Top.b_law_outcome (T : Top w K mg) : Binds K (fdOf K a_law_outcome) p_law_outcome [] := T.F_law_outcome.bindsN fun _ _ _ _ _ _ us hl => match us, hl with | [_], _ => rfl
abbrev a_law : Str × Option Str := ("law", none)
abbrev p_law : List Str := ["_law_script"]
theorem Top.F_law (T : Top w K mg) : FunD K "law" "law" (defArgs s_law) (defBody s_law) (defScope s_law) [] [] (He.fAd K a_law) (fdOf K a_law) := fd_of (T.c.d.def_ 59 (d := d_law) rfl)
theorem Top.b_law (T : Top w K mg) : Binds K (fdOf K a_law) p_law [] := T.F_law.bindsN fun _ _ _ _ _ _ us hl => match us, hl with | [_], _ => rfl
theorem Top.g_parts_in (T : Top w K mg) : mg "parts_in" = some (.ref (He.ga K "parts_in")) := glo_T T (T.c.d.fact 0 rfl)
theorem Top.g_add_free (T : Top w K mg) : mg "add_free" = some (.ref (He.ga K "add_free")) := glo_T T (T.c.d.fact 1 rfl)
theorem Top.g_free_variables (T : Top w K mg) : mg "free_variables" = some (.ref (He.ga K "free_variables")) := glo_T T (T.c.d.fact 2 rfl)
theorem Top.g_check_closed (T : Top w K mg) : mg "check_closed" = some (.ref (He.ga K "check_closed")) := glo_T T (T.c.d.fact 3 rfl)
theorem Top.g_tidy (T : Top w K mg) : mg "tidy" = some (.ref (He.ga K "tidy")) := glo_T T (T.c.d.fact 4 rfl)
theorem Top.g_dual (T : Top w K mg) : mg "dual" = some (.ref (He.ga K "dual")) := glo_T T (T.c.d.fact 5 rfl)
theorem Top.g_substituted (T : Top w K mg) : mg "substituted" = some (.ref (He.ga K "substituted")) := glo_T T (T.c.d.fact 6 rfl)
theorem Top.g_unfolded (T : Top w K mg) : mg "unfolded" = some (.ref (He.ga K "unfolded")) := glo_T T (T.c.d.fact 7 rfl)
theorem Top.g_next_in_closure (T : Top w K mg) : mg "next_in_closure" = some (.ref (He.ga K "next_in_closure")) := glo_T T (T.c.d.fact 8 rfl)
theorem Top.g_closure (T : Top w K mg) : mg "closure" = some (.ref (He.ga K "closure")) := glo_T T (T.c.d.fact 9 rfl)
theorem Top.g_ascend (T : Top w K mg) : mg "ascend" = some (.ref (He.ga K "ascend")) := glo_T T (T.c.d.fact 10 rfl)
theorem Top.g_right_steps (T : Top w K mg) : mg "right_steps" = some (.ref (He.ga K "right_steps")) := glo_T T (T.c.d.fact 11 rfl)
theorem Top.g_followers (T : Top w K mg) : mg "followers" = some (.ref (He.ga K "followers")) := glo_T T (T.c.d.fact 12 rfl)
theorem Top.g_is_plain_true (T : Top w K mg) : mg "is_plain_true" = some (.ref (He.ga K "is_plain_true")) := glo_T T (T.c.d.fact 13 rfl)
theorem Top.g_has_open (T : Top w K mg) : mg "has_open" = some (.ref (He.ga K "has_open")) := glo_T T (T.c.d.fact 14 rfl)
theorem Top.g_is_guarded (T : Top w K mg) : mg "is_guarded" = some (.ref (He.ga K "is_guarded")) := glo_T T (T.c.d.fact 15 rfl)
theorem Top.g_is_row (T : Top w K mg) : mg "is_row" = some (.ref (He.ga K "is_row")) := glo_T T (T.c.d.fact 16 rfl)
theorem Top.g_accepted (T : Top w K mg) : mg "accepted" = some (.ref (He.ga K "accepted")) := glo_T T (T.c.d.fact 17 rfl)
theorem Top.g_machine_of (T : Top w K mg) : mg "machine_of" = some (.ref (He.ga K "machine_of")) := glo_T T (T.c.d.fact 18 rfl)
theorem Top.g_other_machine (T : Top w K mg) : mg "other_machine" = some (.ref (He.ga K "other_machine")) := glo_T T (T.c.d.fact 19 rfl)
theorem Top.g_moved_row (T : Top w K mg) : mg "moved_row" = some (.ref (He.ga K "moved_row")) := glo_T T (T.c.d.fact 20 rfl)
theorem Top.g_joined_machine (T : Top w K mg) : mg "joined_machine" = some (.ref (He.ga K "joined_machine")) := glo_T T (T.c.d.fact 21 rfl)
theorem Top.g_law_draws (T : Top w K mg) : mg "_law_draws" = some (.ref (He.ga K "_law_draws")) := glo_T T (T.c.d.fact 22 rfl)
theorem Top.g_law_take (T : Top w K mg) : mg "_law_take" = some (.ref (He.ga K "_law_take")) := glo_T T (T.c.d.fact 23 rfl)
theorem Top.g_law_inner (T : Top w K mg) : mg "_law_inner" = some (.ref (He.ga K "_law_inner")) := glo_T T (T.c.d.fact 24 rfl)
theorem Top.g_law_size (T : Top w K mg) : mg "_law_size" = some (.ref (He.ga K "_law_size")) := glo_T T (T.c.d.fact 25 rfl)
theorem Top.g_law_atom (T : Top w K mg) : mg "_law_atom" = some (.ref (He.ga K "_law_atom")) := glo_T T (T.c.d.fact 26 rfl)
theorem Top.g_law_statement (T : Top w K mg) : mg "_law_statement" = some (.ref (He.ga K "_law_statement")) := glo_T T (T.c.d.fact 27 rfl)
theorem Top.g_law_closed (T : Top w K mg) : mg "_law_closed" = some (.ref (He.ga K "_law_closed")) := glo_T T (T.c.d.fact 28 rfl)
theorem Top.g_law_guarded (T : Top w K mg) : mg "_law_guarded" = some (.ref (He.ga K "_law_guarded")) := glo_T T (T.c.d.fact 29 rfl)
theorem Top.g_law_open_inside (T : Top w K mg) : mg "_law_open_inside" = some (.ref (He.ga K "_law_open_inside")) := glo_T T (T.c.d.fact 30 rfl)
theorem Top.g_law_is_guarded (T : Top w K mg) : mg "_law_is_guarded" = some (.ref (He.ga K "_law_is_guarded")) := glo_T T (T.c.d.fact 31 rfl)
theorem Top.g_law_put (T : Top w K mg) : mg "_law_put" = some (.ref (He.ga K "_law_put")) := glo_T T (T.c.d.fact 32 rfl)
theorem Top.g_law_tidy_from (T : Top w K mg) : mg "_law_tidy_from" = some (.ref (He.ga K "_law_tidy_from")) := glo_T T (T.c.d.fact 33 rfl)
theorem Top.g_law_tidy (T : Top w K mg) : mg "_law_tidy" = some (.ref (He.ga K "_law_tidy")) := glo_T T (T.c.d.fact 34 rfl)
theorem Top.g_law_following (T : Top w K mg) : mg "_law_following" = some (.ref (He.ga K "_law_following")) := glo_T T (T.c.d.fact 35 rfl)
theorem Top.g_law_closure (T : Top w K mg) : mg "_law_closure" = some (.ref (He.ga K "_law_closure")) := glo_T T (T.c.d.fact 36 rfl)
theorem Top.g_law_world (T : Top w K mg) : mg "_law_world" = some (.ref (He.ga K "_law_world")) := glo_T T (T.c.d.fact 37 rfl)
theorem Top.g_law_made (T : Top w K mg) : mg "_law_made" = some (.ref (He.ga K "_law_made")) := glo_T T (T.c.d.fact 38 rfl)
theorem Top.g_law_behind (T : Top w K mg) : mg "_law_behind" = some (.ref (He.ga K "_law_behind")) := glo_T T (T.c.d.fact 39 rfl)
theorem Top.g_law_value (T : Top w K mg) : mg "_law_value" = some (.ref (He.ga K "_law_value")) := glo_T T (T.c.d.fact 40 rfl)
theorem Top.g_law_truth (T : Top w K mg) : mg "_law_truth" = some (.ref (He.ga K "_law_truth")) := glo_T T (T.c.d.fact 41 rfl)
theorem Top.g_law_is_list (T : Top w K mg) : mg "_law_is_list" = some (.ref (He.ga K "_law_is_list")) := glo_T T (T.c.d.fact 42 rfl)
theorem Top.g_law_outcome (T : Top w K mg) : mg "_law_outcome" = some (.ref (He.ga K "_law_outcome")) := glo_T T (T.c.d.fact 43 rfl)
theorem Top.g_law (T : Top w K mg) : mg "law" = some (.ref (He.ga K "law")) := glo_T T (T.c.d.fact 44 rfl)
theorem Top.g_FixError (T : Top w K mg) : mg "FixError" = some (.ref (He.ga K "FixError")) := glo_T T (T.c.d.fact 45 rfl)
theorem Top.g_InvalidWorld (T : Top w K mg) : mg "InvalidWorld" = some (.ref (He.ga K "InvalidWorld")) := glo_T T (T.c.d.fact 46 rfl)
theorem Top.g_InvalidMachine (T : Top w K mg) : mg "InvalidMachine" = some (.ref (He.ga K "InvalidMachine")) := glo_T T (T.c.d.fact 47 rfl)
theorem Top.g_NotClosed (T : Top w K mg) : mg "NotClosed" = some (.ref (He.ga K "NotClosed")) := glo_T T (T.c.d.fact 48 rfl)
theorem Top.g_NotGuarded (T : Top w K mg) : mg "NotGuarded" = some (.ref (He.ga K "NotGuarded")) := glo_T T (T.c.d.fact 49 rfl)
theorem Top.g_TooLarge (T : Top w K mg) : mg "TooLarge" = some (.ref (He.ga K "TooLarge")) := glo_T T (T.c.d.fact 50 rfl)
theorem Top.g_Solver (T : Top w K mg) : mg "Solver" = some (.ref (He.ga K "Solver")) := glo_T T (T.c.d.fact 51 rfl)
theorem Top.g_Renamer (T : Top w K mg) : mg "Renamer" = some (.ref (He.ga K "Renamer")) := glo_T T (T.c.d.fact 52 rfl)
theorem Top.g_World (T : Top w K mg) : mg "World" = some (.ref (He.ga K "World")) := glo_T T (T.c.d.fact 53 rfl)
theorem Top.g_Machine (T : Top w K mg) : mg "Machine" = some (.ref (He.ga K "Machine")) := glo_T T (T.c.d.fact 54 rfl)
theorem Top.g_Run (T : Top w K mg) : mg "Run" = some (.ref (He.ga K "Run")) := glo_T T (T.c.d.fact 55 rfl)
theorem Top.g_Builder (T : Top w K mg) : mg "Builder" = some (.ref (He.ga K "Builder")) := glo_T T (T.c.d.fact 56 rfl)
theorem Top.g_BINDERS (T : Top w K mg) : mg "BINDERS" = some (.ref (He.ga K "BINDERS")) := glo_T T (T.c.d.fact 57 rfl)
theorem Top.g_OPPOSITES (T : Top w K mg) : mg "OPPOSITES" = some (.ref (He.ga K "OPPOSITES")) := glo_T T (T.c.d.fact 58 rfl)
theorem Top.z_len (T : Top w K mg) : mg "len" = none := free_T T (T.c.d.fact 59 rfl)
theorem Top.z_isinstance (T : Top w K mg) : mg "isinstance" = none := free_T T (T.c.d.fact 60 rfl)
theorem Top.z_tuple (T : Top w K mg) : mg "tuple" = none := free_T T (T.c.d.fact 61 rfl)
theorem Top.z_sorted (T : Top w K mg) : mg "sorted" = none := free_T T (T.c.d.fact 62 rfl)
theorem Top.z_dict (T : Top w K mg) : mg "dict" = none := free_T T (T.c.d.fact 63 rfl)
theorem Top.z_range (T : Top w K mg) : mg "range" = none := free_T T (T.c.d.fact 64 rfl)
theorem Top.z_max (T : Top w K mg) : mg "max" = none := free_T T (T.c.d.fact 65 rfl)
theorem Top.z_min (T : Top w K mg) : mg "min" = none := free_T T (T.c.d.fact 66 rfl)
theorem Top.z_int (T : Top w K mg) : mg "int" = none := free_T T (T.c.d.fact 67 rfl)
theorem Top.z_sum (T : Top w K mg) : mg "sum" = none := free_T T (T.c.d.fact 68 rfl)
theorem Top.z_set (T : Top w K mg) : mg "set" = none := free_T T (T.c.d.fact 69 rfl)
theorem Top.z_list (T : Top w K mg) : mg "list" = none := free_T T (T.c.d.fact 70 rfl)
theorem Top.i_MOST_STATES_worlds (T : Top w K mg) : ∃ t, mg "MOST_STATES_worlds" = some (.int 400 t) := int_T T (T.c.d.fact 71 rfl)
theorem Top.i_MOST_STATES_machines (T : Top w K mg) : ∃ t, mg "MOST_STATES_machines" = some (.int 400 t) := int_T T (T.c.d.fact 72 rfl)
theorem Top.i_MOST_PRIORITY (T : Top w K mg) : ∃ t, mg "MOST_PRIORITY" = some (.int 200 t) := int_T T (T.c.d.fact 73 rfl)
theorem Top.i_MOST_CLOSURE (T : Top w K mg) : ∃ t, mg "MOST_CLOSURE" = some (.int 15 t) := int_T T (T.c.d.fact 74 rfl)
theorem Top.c_Solver (T : Top w K mg) : Cls K (He.ga K "Solver") := He.cls_ok (T.c.d.fact 75 rfl)
theorem Top.m_Solver (T : Top w K mg) : Mk K (He.ga K "Solver") (He.fAd K a_Solver_init) := He.mkr_ok (T.c.d.fact 76 rfl)
theorem Top.n_Solver_owners (T : Top w K mg) : NoAttr K (He.ga K "Solver") "owners" := He.noat_ok (T.c.d.fact 77 rfl)
theorem Top.n_Solver_priorities (T : Top w K mg) : NoAttr K (He.ga K "Solver") "priorities" := He.noat_ok (T.c.d.fact 78 rfl)
theorem Top.n_Solver_moves (T : Top w K mg) : NoAttr K (He.ga K "Solver") "moves" := He.noat_ok (T.c.d.fact 79 rfl)
theorem Top.n_Solver_count (T : Top w K mg) : NoAttr K (He.ga K "Solver") "count" := He.noat_ok (T.c.d.fact 80 rfl)
theorem Top.n_Solver_coming (T : Top w K mg) : NoAttr K (He.ga K "Solver") "coming" := He.noat_ok (T.c.d.fact 81 rfl)
theorem Top.n_Solver_winner (T : Top w K mg) : NoAttr K (He.ga K "Solver") "winner" := He.noat_ok (T.c.d.fact 82 rfl)
theorem Top.n_Solver_choice (T : Top w K mg) : NoAttr K (He.ga K "Solver") "choice" := He.noat_ok (T.c.d.fact 83 rfl)
theorem Top.c_Renamer (T : Top w K mg) : Cls K (He.ga K "Renamer") := He.cls_ok (T.c.d.fact 84 rfl)
theorem Top.m_Renamer (T : Top w K mg) : Mk K (He.ga K "Renamer") (He.fAd K a_Renamer_init) := He.mkr_ok (T.c.d.fact 85 rfl)
theorem Top.n_Renamer_count (T : Top w K mg) : NoAttr K (He.ga K "Renamer") "count" := He.noat_ok (T.c.d.fact 86 rfl)
theorem Top.c_World (T : Top w K mg) : Cls K (He.ga K "World") := He.cls_ok (T.c.d.fact 87 rfl)
theorem Top.m_World (T : Top w K mg) : Mk K (He.ga K "World") (He.fAd K a_World_init) := He.mkr_ok (T.c.d.fact 88 rfl)
theorem Top.n_World_labels (T : Top w K mg) : NoAttr K (He.ga K "World") "labels" := He.noat_ok (T.c.d.fact 89 rfl)
theorem Top.n_World_facts (T : Top w K mg) : NoAttr K (He.ga K "World") "facts" := He.noat_ok (T.c.d.fact 90 rfl)
theorem Top.n_World_states (T : Top w K mg) : NoAttr K (He.ga K "World") "states" := He.noat_ok (T.c.d.fact 91 rfl)
theorem Top.n_World_steps (T : Top w K mg) : NoAttr K (He.ga K "World") "steps" := He.noat_ok (T.c.d.fact 92 rfl)
theorem Top.c_Machine (T : Top w K mg) : Cls K (He.ga K "Machine") := He.cls_ok (T.c.d.fact 93 rfl)
theorem Top.m_Machine (T : Top w K mg) : Mk K (He.ga K "Machine") (He.fAd K a_Machine_init) := He.mkr_ok (T.c.d.fact 94 rfl)
theorem Top.n_Machine_start (T : Top w K mg) : NoAttr K (He.ga K "Machine") "start" := He.noat_ok (T.c.d.fact 95 rfl)
theorem Top.n_Machine_rows (T : Top w K mg) : NoAttr K (He.ga K "Machine") "rows" := He.noat_ok (T.c.d.fact 96 rfl)
theorem Top.n_Machine_priorities (T : Top w K mg) : NoAttr K (He.ga K "Machine") "priorities" := He.noat_ok (T.c.d.fact 97 rfl)
theorem Top.c_Run (T : Top w K mg) : Cls K (He.ga K "Run") := He.cls_ok (T.c.d.fact 98 rfl)
theorem Top.m_Run (T : Top w K mg) : Mk K (He.ga K "Run") (He.fAd K a_Run_init) := He.mkr_ok (T.c.d.fact 99 rfl)
theorem Top.n_Run_machine (T : Top w K mg) : NoAttr K (He.ga K "Run") "machine" := He.noat_ok (T.c.d.fact 100 rfl)
theorem Top.n_Run_world (T : Top w K mg) : NoAttr K (He.ga K "Run") "world" := He.noat_ok (T.c.d.fact 101 rfl)
theorem Top.n_Run_positions (T : Top w K mg) : NoAttr K (He.ga K "Run") "positions" := He.noat_ok (T.c.d.fact 102 rfl)
theorem Top.n_Run_numbers (T : Top w K mg) : NoAttr K (He.ga K "Run") "numbers" := He.noat_ok (T.c.d.fact 103 rfl)
theorem Top.n_Run_owners (T : Top w K mg) : NoAttr K (He.ga K "Run") "owners" := He.noat_ok (T.c.d.fact 104 rfl)
theorem Top.n_Run_priorities (T : Top w K mg) : NoAttr K (He.ga K "Run") "priorities" := He.noat_ok (T.c.d.fact 105 rfl)
theorem Top.n_Run_moves (T : Top w K mg) : NoAttr K (He.ga K "Run") "moves" := He.noat_ok (T.c.d.fact 106 rfl)
theorem Top.c_Builder (T : Top w K mg) : Cls K (He.ga K "Builder") := He.cls_ok (T.c.d.fact 107 rfl)
theorem Top.m_Builder (T : Top w K mg) : Mk K (He.ga K "Builder") (He.fAd K a_Builder_init) := He.mkr_ok (T.c.d.fact 108 rfl)
theorem Top.n_Builder_parts (T : Top w K mg) : NoAttr K (He.ga K "Builder") "parts" := He.noat_ok (T.c.d.fact 109 rfl)
theorem Top.n_Builder_states (T : Top w K mg) : NoAttr K (He.ga K "Builder") "states" := He.noat_ok (T.c.d.fact 110 rfl)
theorem Top.n_Builder_numbers (T : Top w K mg) : NoAttr K (He.ga K "Builder") "numbers" := He.noat_ok (T.c.d.fact 111 rfl)
theorem Top.n_Builder_rows (T : Top w K mg) : NoAttr K (He.ga K "Builder") "rows" := He.noat_ok (T.c.d.fact 112 rfl)
theorem Top.t_Solver_attracted (T : Top w K mg) : Meth K (He.ga K "Solver") "attracted" (He.fAd K a_Solver_attracted) := He.meth_ok (T.c.d.fact 113 rfl)
theorem Top.t_Solver_give (T : Top w K mg) : Meth K (He.ga K "Solver") "give" (He.fAd K a_Solver_give) := He.meth_ok (T.c.d.fact 114 rfl)
theorem Top.t_Solver_solve (T : Top w K mg) : Meth K (He.ga K "Solver") "solve" (He.fAd K a_Solver_solve) := He.meth_ok (T.c.d.fact 115 rfl)
theorem Top.t_Renamer_renamed (T : Top w K mg) : Meth K (He.ga K "Renamer") "renamed" (He.fAd K a_Renamer_renamed) := He.meth_ok (T.c.d.fact 116 rfl)
theorem Top.t_Run_number (T : Top w K mg) : Meth K (He.ga K "Run") "number" (He.fAd K a_Run_number) := He.meth_ok (T.c.d.fact 117 rfl)
theorem Top.t_Run_add (T : Top w K mg) : Meth K (He.ga K "Run") "add" (He.fAd K a_Run_add) := He.meth_ok (T.c.d.fact 118 rfl)
theorem Top.t_Builder_number (T : Top w K mg) : Meth K (He.ga K "Builder") "number" (He.fAd K a_Builder_number) := He.meth_ok (T.c.d.fact 119 rfl)
theorem Top.t_Builder_row (T : Top w K mg) : Meth K (He.ga K "Builder") "row" (He.fAd K a_Builder_row) := He.meth_ok (T.c.d.fact 120 rfl)
theorem Top.t_Builder_priorities (T : Top w K mg) : Meth K (He.ga K "Builder") "priorities" (He.fAd K a_Builder_priorities) := He.meth_ok (T.c.d.fact 121 rfl)
theorem Top.x_InvalidWorld (T : Top w K mg) : ExcT K (He.ga K "InvalidWorld") := He.exc_ok (T.c.d.fact 122 rfl)
theorem Top.x_InvalidMachine (T : Top w K mg) : ExcT K (He.ga K "InvalidMachine") := He.exc_ok (T.c.d.fact 123 rfl)
theorem Top.x_NotClosed (T : Top w K mg) : ExcT K (He.ga K "NotClosed") := He.exc_ok (T.c.d.fact 124 rfl)
theorem Top.x_NotGuarded (T : Top w K mg) : ExcT K (He.ga K "NotGuarded") := He.exc_ok (T.c.d.fact 125 rfl)
theorem Top.x_TooLarge (T : Top w K mg) : ExcT K (He.ga K "TooLarge") := He.exc_ok (T.c.d.fact 126 rfl)
theorem Top.e_NotGuarded_NotGuarded (T : Top w K mg) : PySem.W.exmOne K (.ref (He.ga K "NotGuarded")) (.ref (He.ga K "NotGuarded")) = some true := He.exm_ok (T.c.d.fact 127 rfl)
theorem Top.e_NotGuarded_TooLarge (T : Top w K mg) : PySem.W.exmOne K (.ref (He.ga K "NotGuarded")) (.ref (He.ga K "TooLarge")) = some false := He.exm_ok (T.c.d.fact 128 rfl)
theorem Top.e_TooLarge_NotGuarded (T : Top w K mg) : PySem.W.exmOne K (.ref (He.ga K "TooLarge")) (.ref (He.ga K "NotGuarded")) = some false := He.exm_ok (T.c.d.fact 129 rfl)
theorem Top.e_TooLarge_TooLarge (T : Top w K mg) : PySem.W.exmOne K (.ref (He.ga K "TooLarge")) (.ref (He.ga K "TooLarge")) = some true := He.exm_ok (T.c.d.fact 130 rfl)
end
end K22

set_option Elab.async false
set_option linter.all false
set_option maxRecDepth 100000
set_option maxHeartbeats 0
namespace K22
open PySem PySem.Spec PyProof.Rows L2
/-! ### the head: the top is run -/
abbrev R : PySem.W.OpenRow := PySem.W.OpenLaw.row PySem.Challenge.rw_fixworlds_k22_whole_machines_of_statemen
abbrev hk : PySem.W.Hook := He.hookX 5 fa fn ts [] ex
def ob (s : PySem.W.SharedT) : He.AlX := He.obsX 5 fa fn ts [] ex (HandSHeadRun.getT s)
theorem ob_eq (s : PySem.W.SharedT) : ob s = hk.obs s.abs := He.obsX_eq (HandSHeadRun.getT_eq s)
def RunP (w : World) : Prop := HandSHeadRun.RunEq R (PySem.W.view R.prog [70]) hk ob 6000 loose w
theorem run0 (w : World) : RunP (w.withFollow "special-get-raises" false) := by
  intro os
  kernel_rfl
theorem run1 (w : World) : RunP (w.withFollow "special-get-raises" true) := by
  intro os
  kernel_rfl
theorem run (w : World) : RunP w := PySem.W.byRow2 "special-get-raises" (P := RunP) run0 run1 w
end K22

set_option Elab.async false
set_option linter.all false
set_option maxRecDepth 100000
set_option maxHeartbeats 4000000
namespace K22
open PySem PySem.Spec PyProof.Rows L2
/-! ### formulas -/
/-- const true: true; fact true: has; bin true: and; mod true: all; fix true: most -/
inductive F where
  | const (b : Bool)
  | fact (b : Bool) (p : Int)
  | var (x : Int)
  | bin (b : Bool) (f g : F)
  | mod (b : Bool) (l : Int) (f : F)
  | fix (b : Bool) (x : Int) (f : F)
  deriving DecidableEq
def kC (b : Bool) : Str := match b with
  | true => "true"
  | false => "false"
def kP (b : Bool) : Str := match b with
  | true => "has"
  | false => "lacks"
def kB (b : Bool) : Str := match b with
  | true => "and"
  | false => "or"
def kM (b : Bool) : Str := match b with
  | true => "all"
  | false => "some"
def kX (b : Bool) : Str := match b with
  | true => "most"
  | false => "least"
namespace F
def kind : F → Str
  | .const b => kC b
  | .fact b _ => kP b
  | .var _ => "var"
  | .bin b _ _ => kB b
  | .mod b _ _ => kM b
  | .fix b _ _ => kX b
def isVar : F → Bool
  | .var _ => true
  | _ => false
def isBin : F → Bool
  | .bin _ _ _ => true
  | _ => false
def isMod : F → Bool
  | .mod _ _ _ => true
  | _ => false
def isFix : F → Bool
  | .fix _ _ _ => true
  | _ => false
end F
/-- an item behind a statement's kind: an int or a statement -/
inductive It where
  | n (i : Int)
  | f (g : F)
def It.isF : It → Bool
  | .n _ => false
  | .f _ => true
def F.its : F → List It
  | .const _ => []
  | .fact _ p => [.n p]
  | .var x => [.n x]
  | .bin _ f g => [.f f, .f g]
  | .mod _ l f => [.n l, .f f]
  | .fix _ x f => [.n x, .f f]
def F.kids : F → List F
  | .bin _ f g => [f, g]
  | .mod _ _ f => [f]
  | .fix _ _ f => [f]
  | _ => []
theorem kk_var : ∀ b : Bool, decide (V.str (kC b) = V.str "var") = false ∧ decide (V.str (kP b) = V.str "var") = false ∧ decide (V.str (kB b) = V.str "var") = false ∧ decide (V.str (kM b) = V.str "var") = false ∧ decide (V.str (kX b) = V.str "var") = false := by decide +kernel
theorem k_var (f : F) : decide (V.str f.kind = V.str "var") = f.isVar := by
  cases f with
  | const b => exact (kk_var b).1
  | fact b p => exact (kk_var b).2.1
  | bin b f g => exact (kk_var b).2.2.1
  | mod b l f => exact (kk_var b).2.2.2.1
  | fix b x f => exact (kk_var b).2.2.2.2
  | var x => exact (by decide +kernel : decide (V.str "var" = V.str "var") = true)
theorem kk_fix : ∀ b : Bool, inV (V.str (kC b)) [V.str "least", V.str "most"] = false ∧ inV (V.str (kP b)) [V.str "least", V.str "most"] = false ∧ inV (V.str (kB b)) [V.str "least", V.str "most"] = false ∧ inV (V.str (kM b)) [V.str "least", V.str "most"] = false ∧ inV (V.str (kX b)) [V.str "least", V.str "most"] = true := by decide +kernel
theorem k_fix (f : F) : inV (V.str f.kind) [V.str "least", V.str "most"] = f.isFix := by
  cases f with
  | const b => exact (kk_fix b).1
  | fact b p => exact (kk_fix b).2.1
  | bin b f g => exact (kk_fix b).2.2.1
  | mod b l f => exact (kk_fix b).2.2.2.1
  | fix b x f => exact (kk_fix b).2.2.2.2
  | var x => exact (by decide +kernel : inV (V.str "var") [V.str "least", V.str "most"] = false)
theorem kk_mod : ∀ b : Bool, inV (V.str (kC b)) [V.str "some", V.str "all"] = false ∧ inV (V.str (kP b)) [V.str "some", V.str "all"] = false ∧ inV (V.str (kB b)) [V.str "some", V.str "all"] = false ∧ inV (V.str (kM b)) [V.str "some", V.str "all"] = true ∧ inV (V.str (kX b)) [V.str "some", V.str "all"] = false := by decide +kernel
theorem k_mod (f : F) : inV (V.str f.kind) [V.str "some", V.str "all"] = f.isMod := by
  cases f with
  | const b => exact (kk_mod b).1
  | fact b p => exact (kk_mod b).2.1
  | bin b f g => exact (kk_mod b).2.2.1
  | mod b l f => exact (kk_mod b).2.2.2.1
  | fix b x f => exact (kk_mod b).2.2.2.2
  | var x => exact (by decide +kernel : inV (V.str "var") [V.str "some", V.str "all"] = false)
theorem kk_bin : ∀ b : Bool, inV (V.str (kC b)) [V.str "and", V.str "or"] = false ∧ inV (V.str (kP b)) [V.str "and", V.str "or"] = false ∧ inV (V.str (kB b)) [V.str "and", V.str "or"] = true ∧ inV (V.str (kM b)) [V.str "and", V.str "or"] = false ∧ inV (V.str (kX b)) [V.str "and", V.str "or"] = false := by decide +kernel
theorem k_bin (f : F) : inV (V.str f.kind) [V.str "and", V.str "or"] = f.isBin := by
  cases f with
  | const b => exact (kk_bin b).1
  | fact b p => exact (kk_bin b).2.1
  | bin b f g => exact (kk_bin b).2.2.1
  | mod b l f => exact (kk_bin b).2.2.2.1
  | fix b x f => exact (kk_bin b).2.2.2.2
  | var x => exact (by decide +kernel : inV (V.str "var") [V.str "and", V.str "or"] = false)
/-! ### where a statement stands -/
def FA (H : Hp) : F → Addr → Prop
  | .const b, a => H a = some (.tup [.str (kC b)])
  | .fact b p, a => H a = some (.tup [.str (kP b), .int p])
  | .var x, a => H a = some (.tup [.str "var", .int x])
  | .bin b f g, a => ∃ u w, H a = some (.tup [.str (kB b), .ref u, .ref w]) ∧ FA H f u ∧ FA H g w
  | .mod b l f, a => ∃ u, H a = some (.tup [.str (kM b), .int l, .ref u]) ∧ FA H f u
  | .fix b x f, a => ∃ u, H a = some (.tup [.str (kX b), .int x, .ref u]) ∧ FA H f u
def ItV (H : Hp) : It → V → Prop
  | .n i, v => v = .int i
  | .f g, v => ∃ u, v = .ref u ∧ FA H g u
theorem FA.tup {H : Hp} {f : F} {a : Addr} (h : FA H f a) : ∃ ys, H a = some (.tup (.str f.kind :: ys)) ∧ Paired (ItV H) f.its ys := by
  cases f with
  | const b => exact ⟨[], h, .nil⟩
  | fact b p => exact ⟨[_], h, .cons rfl .nil⟩
  | var x => exact ⟨[_], h, .cons rfl .nil⟩
  | bin b f g =>
    obtain ⟨u, w, e, hf, hg⟩ := h
    exact ⟨[_, _], e, .cons ⟨u, rfl, hf⟩ (.cons ⟨w, rfl, hg⟩ .nil)⟩
  | mod b l f =>
    obtain ⟨u, e, hf⟩ := h
    exact ⟨[_, _], e, .cons rfl (.cons ⟨u, rfl, hf⟩ .nil)⟩
  | fix b x f =>
    obtain ⟨u, e, hf⟩ := h
    exact ⟨[_, _], e, .cons rfl (.cons ⟨u, rfl, hf⟩ .nil)⟩
theorem FA.of {H : Hp} {f : F} {a : Addr} {ys : List V} (e : H a = some (.tup (.str f.kind :: ys))) (h : Paired (ItV H) f.its ys) : FA H f a := by
  cases f with
  | const b =>
    cases h
    exact e
  | fact b p =>
    obtain _ | ⟨h1, h2⟩ := h
    cases h2
    cases h1
    exact e
  | var x =>
    obtain _ | ⟨h1, h2⟩ := h
    cases h2
    cases h1
    exact e
  | bin b f g =>
    obtain _ | ⟨⟨u, rfl, h1⟩, h2⟩ := h
    obtain _ | ⟨⟨w, rfl, h3⟩, h4⟩ := h2
    cases h4
    exact ⟨u, w, e, h1, h3⟩
  | mod b l f =>
    obtain _ | ⟨h1, h2⟩ := h
    obtain _ | ⟨⟨w, rfl, h3⟩, h4⟩ := h2
    cases h4
    cases h1
    exact ⟨w, e, h3⟩
  | fix b x f =>
    obtain _ | ⟨h1, h2⟩ := h
    obtain _ | ⟨⟨w, rfl, h3⟩, h4⟩ := h2
    cases h4
    cases h1
    exact ⟨w, e, h3⟩
/-- all tuples stand -/
def SameT (H H' : Hp) : Prop := ∀ b xs, H b = some (.tup xs) → H' b = some (.tup xs)
theorem _root_.L2.Same.t {H H' : Hp} (s : Same H H') : SameT H H' := fun b xs e => s b _ e
theorem SameT.trans {H H1 H2 : Hp} (a : SameT H H1) (b : SameT H1 H2) : SameT H H2 := fun c xs e => b c xs (a c xs e)
/-- a list, dict, instance .. changes -/
theorem SameT.upd {H : Hp} {p : Addr} {o o' : HO} (h : H p = some o) (n : ∀ xs, o ≠ .tup xs) : SameT H (upd H p o') := fun b xs e => by
  rw [upd_ne (ne_of e h fun z => n xs z.symm)]
  exact e
theorem SameT.lst {H : Hp} {p : Addr} {ys : List V} {o' : HO} (h : H p = some (.lst ys)) : SameT H (L2.upd H p o') := SameT.upd h fun _ z => nomatch z
theorem FA.monoT {H H' : Hp} (s : SameT H H') : ∀ {f : F} {a : Addr}, FA H f a → FA H' f a
  | .const b, a, h => s _ _ h
  | .fact b p, a, h => s _ _ h
  | .var x, a, h => s _ _ h
  | .bin b f g, a, ⟨u, w, e, h1, h2⟩ => ⟨u, w, s _ _ e, FA.monoT s h1, FA.monoT s h2⟩
  | .mod b l f, a, ⟨u, e, h1⟩ => ⟨u, s _ _ e, FA.monoT s h1⟩
  | .fix b x f, a, ⟨u, e, h1⟩ => ⟨u, s _ _ e, FA.monoT s h1⟩
theorem FA.mono {H H' : Hp} (s : Same H H') {f : F} {a : Addr} (h : FA H f a) : FA H' f a := h.monoT s.t
theorem ItV.monoT {H H' : Hp} (s : SameT H H') : ∀ {i : It} {v : V}, ItV H i v → ItV H' i v
  | .n _, _, h => h
  | .f _, _, ⟨u, e, h⟩ => ⟨u, e, h.monoT s⟩
theorem Its.monoT {H H' : Hp} (s : SameT H H') {is : List It} {vs : List V} (h : Paired (ItV H) is vs) : Paired (ItV H') is vs := Paired.mapP h fun _ _ q => q.monoT s
theorem Its.mono {H H' : Hp} (s : Same H H') {is : List It} {vs : List V} (h : Paired (ItV H) is vs) : Paired (ItV H') is vs := Its.monoT s.t h
/-- statements at addresses -/
abbrev FAs (H : Hp) (fs : List F) (as : List Addr) : Prop := Paired (fun f a => FA H f a) fs as
theorem FAs.monoT {H H' : Hp} (s : SameT H H') {fs : List F} {as : List Addr} (h : FAs H fs as) : FAs H' fs as := Paired.mapP h fun _ _ q => FA.monoT s q
theorem FAs.mono {H H' : Hp} (s : Same H H') {fs : List F} {as : List Addr} (h : FAs H fs as) : FAs H' fs as := FAs.monoT s.t h
theorem Pd.snoc {α β : Type} {R : α → β → Prop} {x : α} {y : β} (h : R x y) : ∀ {l : List α} {m : List β}, Paired R l m → Paired R (l ++ [x]) (m ++ [y])
  | _, _, .nil => .cons h .nil
  | _, _, .cons a b => .cons a (Pd.snoc h b)
theorem Pd.get {α β : Type} {R : α → β → Prop} : ∀ {l : List α} {m : List β} {i : Nat} {y : β}, Paired R l m → m[i]? = some y → ∃ x, l[i]? = some x ∧ R x y
  | _, _, i, y, .nil, e => by simp at e
  | _, _, 0, y, .cons a b, e => by
    simp at e
    subst e
    exact ⟨_, rfl, a⟩
  | _, _, i + 1, y, .cons a b, e => Pd.get (i := i) b (by simpa using e)
theorem Pd.get' {α β : Type} {R : α → β → Prop} : ∀ {l : List α} {m : List β} {i : Nat} {x : α}, Paired R l m → l[i]? = some x → ∃ y, m[i]? = some y ∧ R x y
  | _, _, i, y, .nil, e => by simp at e
  | _, _, 0, y, .cons a b, e => by
    simp at e
    subst e
    exact ⟨_, rfl, a⟩
  | _, _, i + 1, y, .cons a b, e => Pd.get' (i := i) b (by simpa using e)
theorem Pd.app {α β : Type} {R : α → β → Prop} : ∀ {l l2 : List α} {m m2 : List β}, Paired R l m → Paired R l2 m2 → Paired R (l ++ l2) (m ++ m2)
  | _, _, _, _, .nil, h => h
  | _, _, _, _, .cons a b, h => .cons a (Pd.app b h)
theorem take_snoc {α : Type} {l : List α} {i : Nat} {x : α} (h : l[i]? = some x) : l.take (i + 1) = l.take i ++ [x] := by
  rw [List.take_add_one, h]
  rfl
theorem its_len (f : F) : f.its.length ≤ 2 := by cases f <;> simp [F.its]
theorem kids_len (f : F) : f.kids.length ≤ 2 := by cases f <;> simp [F.kids]
theorem lt_line {n : Nat} (h : n ≤ 100000) : n < sizeLine := Nat.lt_of_le_of_lt h (by decide)
theorem le_line {n : Nat} (h : n ≤ 100000) : n ≤ sizeLine := Nat.le_of_lt (lt_line h)

/-! ### heaps -/
theorem same_new {H : Hp} {p : Addr} {o : HO} (h : H p = none) : Same H (upd H p o) := fun b u e => by rw [upd_ne (ne_of_none e h)]; exact e
theorem _root_.L2.Same.new {H0 H : Hp} {p : Addr} {o : HO} (s : Same H0 H) (h : H p = none) : Same H0 (upd H p o) := s.trans (same_new h)
/-- a thing that H0 doesn't know may change -/
theorem _root_.L2.Same.mut {H0 H : Hp} {p : Addr} {o : HO} (s : Same H0 H) (h : H0 p = none) : Same H0 (upd H p o) := fun b u e => by rw [upd_ne (ne_of_none e h)]; exact s b u e
theorem iteB {c c' : Bool} {A B : Prop} (e : c = c') (h1 : c' = true → A) (h2 : c' = false → B) : if c = true then A else B := by
  subst e
  cases c with
  | true => exact iteT (h1 rfl)
  | false => exact iteF (h2 rfl)
theorem small {n : Nat} (h : n ≤ 1000) : n ≤ sizeLine := Nat.le_of_lt (small1000 h)
/-! ### built-in names -/
theorem bt_len : bootBuiltins "len" = some (.builtin "len") := by decide +kernel
theorem bt_isinstance : bootBuiltins "isinstance" = some (.builtin "isinstance") := by decide +kernel
theorem bt_max : bootBuiltins "max" = some (.builtin "max") := by decide +kernel
theorem bt_min : bootBuiltins "min" = some (.builtin "min") := by decide +kernel
theorem bt_sum : bootBuiltins "sum" = some (.builtin "sum") := by decide +kernel
theorem bt_sorted : bootBuiltins "sorted" = some (.builtin "sorted") := by decide +kernel
theorem bt_tuple : bootBuiltins "tuple" = some (.type "tuple") := by decide +kernel
theorem bt_dict : bootBuiltins "dict" = some (.type "dict") := by decide +kernel
theorem bt_int : bootBuiltins "int" = some (.type "int") := by decide +kernel
theorem bt_list : bootBuiltins "list" = some (.type "list") := by decide +kernel
theorem bt_set : bootBuiltins "set" = some (.type "set") := by decide +kernel
theorem pe_tyn {X : Cx} {x : Str} {n : String} {pos : Pos} (hg : Gl X x) (hm : X.mg x = none) (hv : bootBuiltins x = some (.type n)) (hn : x ≠ "__name__" := by decide) (hd : (x == ("__debug__" : Str)) = false := by decide) : PE X (.Name x pos) (tC (.ty n)) := pe_bltn hg hm hv rfl hn hd
theorem pe_gref {X : Cx} {x : Str} {a : Addr} {pos : Pos} (hg : Gl X x) (hm : X.mg x = some (.ref a)) (hd : (x == ("__debug__" : Str)) = false := by decide) : PE X (.Name x pos) (tC (.ref a)) := pe_glob hg hm rfl hd
/-! ### the layer's rules with K by name (a comprehension's block has its own X) -/
section
variable {X : Cx}
theorem ki_list (K : PySem.W.Frag) (h : X.K = K := by rfl) : IxR X (rIxL K) := by subst h; exact ix_list
theorem ki_tup (K : PySem.W.Frag) (h : X.K = K := by rfl) : IxR X (rIxT K) := by subst h; exact ix_tup
theorem ks_tup (K : PySem.W.Frag) (h : X.K = K := by rfl) : SlR X (rSlT K) := by subst h; exact sl_tup
theorem ks_list (K : PySem.W.Frag) (h : X.K = K := by rfl) : SlR X (rSlL K) := by subst h; exact sl_list
theorem kc_isi (K : PySem.W.Frag) (h : X.K = K := by rfl) : CallR X (.builtin "isinstance") (rIsi K) := by subst h; exact call_isi
def rLenS (K : PySem.W.Frag) : List V → Hp → VK → Prop := fun xs H Q => ∃ p ys, xs = [.ref p] ∧ (SqL K H p ys ∨ SqT K H p ys) ∧ Q (.int ys.length) H
theorem kc_len (K : PySem.W.Frag) (h : X.K = K := by rfl) : CallR X (.builtin "len") (rLenS K) := by subst h; exact call_len_seq
def rListOf (K : PySem.W.Frag) : List V → Hp → VK → Prop := fun xs H Q => ∃ p ys, xs = [.ref p] ∧ (SqL K H p ys ∨ SqT K H p ys) ∧ ∀ l, H l = none → Q (.ref l) (upd H l (.lst ys))
theorem kc_list (K : PySem.W.Frag) (h : X.K = K := by rfl) : CallR X (.type "list") (rListOf K) := by subst h; exact call_list_of
def rTupOf (K : PySem.W.Frag) : List V → Hp → VK → Prop := fun xs H Q => ∃ p ys, xs = [.ref p] ∧ ((SqL K H p ys ∧ ∀ l, H l = none → Q (.ref l) (upd H l (.tup ys))) ∨ (SqT K H p ys ∧ Q (.ref p) H))
theorem kc_tuple (K : PySem.W.Frag) (h : X.K = K := by rfl) : CallR X (.type "tuple") (rTupOf K) := by subst h; exact call_tuple_of
theorem kc_sum (K : PySem.W.Frag) (hc : X.calm = true := by rfl) (h : X.K = K := by rfl) : CallR X (.builtin "sum") (rSum K) := by subst h; exact cr_sum hc
theorem kc_max (K : PySem.W.Frag) (hc : X.calm = true := by rfl) (h : X.K = K := by rfl) : CallR X (.builtin "max") (rMax K) := by subst h; exact cr_max hc
theorem ko_in (K : PySem.W.Frag) (h : X.K = K := by rfl) : OpR X (compareOp .In) (rIn K false) := by subst h; exact op_in_seq
theorem ko_notIn (K : PySem.W.Frag) (h : X.K = K := by rfl) : OpR X (compareOp .NotIn) (rIn K true) := by subst h; exact op_notIn_seq
theorem ko_catA (K : PySem.W.Frag) (h : X.K = K := by rfl) : OpR X (binaryOp .Add) (rCatA K) := by subst h; exact op_catA
theorem ko_eqD (K : PySem.W.Frag) (hu : X.A.units + 64 < cLine) (h : X.K = K := by rfl) : OpR X (compareOp .Eq) (rEqD K) := by subst h; exact op_eqD hu
theorem ko_neD (K : PySem.W.Frag) (hu : X.A.units + 64 < cLine) (h : X.K = K := by rfl) : OpR X (compareOp .NotEq) (rNeD K) := by subst h; exact op_neD hu
theorem ko_inD (K : PySem.W.Frag) (hu : X.A.units + 65 < cLine) (h : X.K = K := by rfl) : OpR X (compareOp .In) (rInD K) := by subst h; exact op_inD hu
theorem ko_notInD (K : PySem.W.Frag) (hu : X.A.units + 65 < cLine) (h : X.K = K := by rfl) : OpR X (compareOp .NotIn) (rNotInD K) := by subst h; exact op_notInD hu
theorem kpe_fld (K : PySem.W.Frag) {e : PySem.Expr} {ta : TE} {f : Str} {pos : Pos} (he : PE X e ta) (hb : attributeBase e f X.env (eval e X.env) = eval e X.env := by rfl) (h : X.K = K := by rfl) : PE X (.Attribute e f pos) (tFld K ta f) := by subst h; exact pe_fld he hb
theorem kpi_list (K : PySem.W.Frag) {tg l : PySem.Expr} {tl : TE} (hl : PE X l tl) (h : X.K = K := by rfl) : PI X tg l (iList K tl) := by subst h; exact pi_list hl
theorem kpi_tup (K : PySem.W.Frag) {tg l : PySem.Expr} {tl : TE} (hl : PE X l tl) (h : X.K = K := by rfl) : PI X tg l (iTup K tl) := by subst h; exact pi_tup hl
theorem kpe_app (K : PySem.W.Frag) {o e : PySem.Expr} {to te : TE} {apos cpos : Pos} (ho : PE X o to) (he : PE X e te) (hb : attributeBase o "append" X.env (eval o X.env) = eval o X.env := by rfl)
    (h1 : ((backTo cpos (starEach [e] X.env)).all (fun x => !x.1) && (backToKw cpos (keywordEach [] X.env)).all (fun x => x.1.isSome) && decide ([e].length + ([] : List Keyword).length + (if ([] : List Keyword).isEmpty then 0 else 1) < 30)) = true := by rfl)
    (h2 : (apos.endLine == cpos.line) = true := by rfl) (h3 : starEach [e] X.env = (false, eval e X.env) :: starEach [] X.env := by rfl)
    (h : X.K = K := by rfl) : PE X (.Call (.Attribute o "append" apos) [e] [] cpos) (tBM K "list" rAppend to (tCons te tNil)) := by
  subst h
  exact pe_bm PySem.F.plainAttrs_list PySem.F.slot_list_append PySem.F.type_list_append mt_append ho (pa_cons (hs := h3) he pa_nil) hb h1 h2 h3
end
theorem at0 {x : V} {ys : List V} : atI (x :: ys) 0 = some x := atI_nat (xs := x :: ys) (j := 0) rfl
theorem at1 {x y : V} {ys : List V} : atI (x :: y :: ys) 1 = some y := atI_nat (xs := x :: y :: ys) (j := 1) rfl
theorem at2 {x y z : V} {ys : List V} : atI (x :: y :: z :: ys) 2 = some z := atI_nat (xs := x :: y :: z :: ys) (j := 2) rfl
section
variable {K : PySem.W.Frag} {H : Hp}
/-- statement[1:] -/
theorem slice1 {a : Addr} {y : V} {ys : List V} {Q : VK} (h : H a = some (.tup (y :: ys))) (q : ∀ p, H p = none → Q (.ref p) (upd H p (.tup ys))) : rSlT K (.ref a) (some 1) none H Q := by
  have e1 : HT.sIx (y :: ys).length 0 (some 1) = 1 := by
    simp [HT.sIx]
  have e2 : HT.sIx (y :: ys).length (y :: ys).length none = (y :: ys).length := by simp [HT.sIx]
  have e : cutV (y :: ys) (some 1) none = ys := by
    unfold cutV
    rw [e1, e2]
    simp
  refine ⟨a, _, rfl, SqT.of h, fun z => ?_, fun p hp => ?_⟩
  · rw [e1] at z
    exact absurd z.1 (by decide)
  · rw [e]
    exact q p hp
/-- isinstance(item, tuple) -/
theorem isi_item {i : It} {v : V} {Q : VK} (h : ItV H i v) (q : Q (.bl i.isF) H) : rIsi K [v, .ty "tuple"] H Q := by
  cases i with
  | n i =>
    cases h
    exact ⟨_, _, _, _, false, rfl, .ty _, .base (.int i), kit_ty (by decide +kernel), q⟩
  | f g =>
    obtain ⟨u, rfl, hg⟩ := h
    obtain ⟨ys, e, _⟩ := hg.tup
    exact ⟨_, _, _, _, true, rfl, .ty _, .base (.tup e), kit_ty (by decide +kernel), q⟩
end
end K22

set_option Elab.async false
set_option linter.all false
set_option maxRecDepth 100000
set_option maxHeartbeats 4000000
namespace K22
open PySem PySem.Spec PyProof.Rows L2
/-! ### readings, one step at a time: each step's goal is its continuation; what wants an answer has a name of its own (rX) -/
section
variable {σ : L2.St} {H : Hp} {Q : VK} {D : Ends} {te ta tb tc : TE} {t u : TS} {tt tu : TT} {as bs : TA} {K : PySem.W.Frag} {v x y : V} {i j : Nat}
def rNewT (xs : List V) (H : Hp) (Q : VK) : Prop := xs.length ≤ sizeLine ∧ ∀ p, H p = none → Q (.ref p) (upd H p (.tup xs))
def rNewL (xs : List V) (H : Hp) (Q : VK) : Prop := xs.length ≤ sizeLine ∧ ∀ p, H p = none → Q (.ref p) (upd H p (.lst xs))
def rFld (K : PySem.W.Frag) (f : Str) (x : V) (H : Hp) (Q : VK) : Prop := ∃ a C dx fs v, x = .ref a ∧ H a = some (.ins C dx fs) ∧ Cls K C ∧ NoAttr K C f ∧ fs.lookup f = some v ∧ Q v H
def rPut (K : PySem.W.Frag) (f : Str) (y x : V) (H : Hp) (Q : Hp → Prop) : Prop := ∃ a C dx fs, x = .ref a ∧ H a = some (.ins C dx fs) ∧ Cls K C ∧ NoAttr K C f ∧ fs.length < 1000 ∧ Q (upd H a (.ins C dx (putF f y fs)))
def rDg (x y : V) (H : Hp) (Q : VK) : Prop := ∃ a v, x = .ref a ∧ DGet H a y (some v) ∧ Q v H
def rDi (y x : V) (H : Hp) (Q : VK) : Prop := ∃ a o, x = .ref a ∧ DGet H a y o ∧ Q (.bl o.isSome) H
def rDn (y x : V) (H : Hp) (Q : VK) : Prop := ∃ a o, x = .ref a ∧ DGet H a y o ∧ Q (.bl (!o.isSome)) H
def rDp (v x y : V) (H : Hp) (Q : Hp → Prop) : Prop := ∃ a H4, x = .ref a ∧ DPut H a y v H4 ∧ Q H4
def rM (C : Addr) (m : Str) (x : V) (H : Hp) (Q : Hp → Prop) : Prop := ∃ a dx fs, x = .ref a ∧ H a = some (.ins C dx fs) ∧ fs.lookup m = none ∧ Q H
def rTy (K : PySem.W.Frag) (T : String) (x : V) (H : Hp) (Q : Hp → Prop) : Prop := tyV K T x H ∧ Q H
def rBool (x : V) (H : Hp) (Q : Bool → Hp → Prop) : Prop := ∃ c, x = .bl c ∧ Q c H
def rInt (x : V) (H : Hp) (Q : Option Int → Hp → Prop) : Prop := ∃ i, x = .int i ∧ Q (some i) H
def rUn (K : PySem.W.Frag) (n : Nat) (v : V) (H : Hp) (Q : List V → Prop) : Prop := ∃ a xs, v = .ref a ∧ SqT K H a xs ∧ xs.length = n ∧ Q xs
-- expressions
theorem g_var (h : σ[i]? = some (some v)) (q : Q v H) : tVar i σ H Q := ⟨v, h, q⟩
theorem g_c (q : Q v H) : tC v σ H Q := q
theorem g_op {r : R2} (q : ta σ H fun x H1 => tb σ H1 fun y H2 => r x y H2 Q) : tOp r ta tb σ H Q := q
theorem g_un {r : V → Hp → VK → Prop} (q : ta σ H fun x H1 => r x H1 Q) : tUn r ta σ H Q := q
theorem g_cons {Qa : List V → Hp → Prop} (q : te σ H fun x H1 => as σ H1 fun xs H2 => Qa (x :: xs) H2) : tCons te as σ H Qa := q
theorem g_nil {Qa : List V → Hp → Prop} (q : Qa [] H) : tNil σ H Qa := q
theorem g_tup (q : as σ H fun xs H1 => rNewT xs H1 Q) : tTup as σ H Q := q
theorem g_lst (q : as σ H fun xs H1 => rNewL xs H1 Q) : tLst as σ H Q := q
theorem g_cb {r : List V → Hp → VK → Prop} (q : as σ H fun vs H1 => r vs H1 Q) : tCB r as σ H Q := q
theorem g_call {sp : Sp} {E : XK} (q : as σ H fun vs H1 => sp vs H1 Q E) : tCall sp [] E as σ H Q := by
  show as σ H fun vs H1 => sp (vs ++ []) H1 Q E
  simp only [List.append_nil]
  exact q
theorem g_meth {sp : Sp} {E : XK} {C : Addr} {m : Str} (q : ta σ H fun x H1 => rM C m x H1 fun H2 => as σ H2 fun vs H3 => sp (x :: vs) H3 Q E) : tMeth C m sp [] E ta as σ H Q := by
  show ta σ H fun x H1 => ∃ a dx fs, x = .ref a ∧ H1 a = some (.ins C dx fs) ∧ fs.lookup m = none ∧ as σ H1 fun vs H2 => sp (x :: (vs ++ [])) H2 Q E
  simp only [List.append_nil]
  exact q
theorem g_slice {r : V → Option Int → Option Int → Hp → VK → Prop} {tl th : TO} (q : te σ H fun x H1 => tl σ H1 fun l H2 => th σ H2 fun u H3 => r x l u H3 Q) : tSl r te tl th σ H Q := q
theorem g_nopart {Qo : Option Int → Hp → Prop} (q : Qo none H) : tNoPart σ H Qo := q
theorem g_part {Qo : Option Int → Hp → Prop} (q : te σ H fun x H1 => rInt x H1 Qo) : tPart te σ H Qo := q
theorem g_int {Qo : Option Int → Hp → Prop} {k : Int} (q : Qo (some k) H) : rInt (.int k) H Qo := ⟨k, rfl, q⟩
theorem g_fld {f : Str} (q : ta σ H fun x H1 => rFld K f x H1 Q) : tFld K ta f σ H Q := q
theorem g_dget (q : ta σ H fun x H1 => tb σ H1 fun y H2 => rDg x y H2 Q) : tDGet ta tb σ H Q := q
theorem g_din (q : ta σ H fun x H1 => tb σ H1 fun y H2 => rDi x y H2 Q) : tDIn ta tb σ H Q := q
theorem g_dnotin (q : ta σ H fun x H1 => tb σ H1 fun y H2 => rDn x y H2 Q) : tDNotIn ta tb σ H Q := q
theorem g_bm0 {T : String} {r : V → List V → Hp → VK → Prop} (q : ta σ H fun x H1 => rTy K T x H1 fun H2 => r x [] H2 Q) : tBM0 K T r ta σ H Q := q
theorem g_bm {T : String} {r : V → List V → Hp → VK → Prop} (q : ta σ H fun x H1 => rTy K T x H1 fun H2 => as σ H2 fun xs H3 => r x xs H3 Q) : tBM K T r ta as σ H Q := q
theorem g_ifexp (q : tt σ H fun c H1 => if c = true then ta σ H1 Q else tb σ H1 Q) : tIf tt ta tb σ H Q := q
theorem g_andv (q : ta σ H fun x H1 => rBool x H1 fun c H2 => if c = true then tb σ H2 Q else Q (.bl false) H2) : tAndV ta tb σ H Q := q
theorem g_orv (q : ta σ H fun x H1 => rBool x H1 fun c H2 => if c = true then Q (.bl true) H2 else tb σ H2 Q) : tOrV ta tb σ H Q := q
theorem g_notv (q : ta σ H fun x H1 => rBool x H1 fun c H2 => Q (.bl (!c)) H2) : tNotV ta σ H Q := q
theorem g_chain {r r' : R2} (q : ta σ H fun x H1 => tb σ H1 fun y H2 => r x y H2 fun z H3 => rBool z H3 fun k H3 => if k = true then tc σ H3 fun w' H4 => r' y w' H4 Q else Q (.bl false) H3) : tChain r r' ta tb tc σ H Q := by
  have e : (fun (x : V) (H1 : Hp) => tb σ H1 fun y H2 => r x y H2 fun z H3 => rBool z H3 fun k H3 => if k = true then tc σ H3 fun w' H4 => r' y w' H4 Q else Q (.bl false) H3) = fun x H1 => tb σ H1 fun y H2 => r x y H2 fun z H3 => ∃ k, z = .bl k ∧ (if k = true then tc σ H3 fun w' H4 => r' y w' H4 Q else Q (.bl false) H3) := rfl
  rw [e] at q
  exact q
-- tests
variable {Qb : Bool → Hp → Prop}
theorem g_tB (q : te σ H fun x H1 => rBool x H1 Qb) : tB te σ H Qb := q
theorem g_test (q : te σ H fun x H1 => rBool x H1 Qb) : tTest te σ H Qb := q
theorem g_bool {b : Bool} (q : Qb b H) : rBool (.bl b) H Qb := ⟨b, rfl, q⟩
theorem g_not (q : tt σ H fun c H1 => Qb (!c) H1) : tNot tt σ H Qb := q
theorem g_and (q : tt σ H fun c H1 => if c = true then tu σ H1 Qb else Qb false H1) : tAnd tt tu σ H Qb := q
theorem g_or (q : tt σ H fun c H1 => if c = true then Qb true H1 else tu σ H1 Qb) : tOr tt tu σ H Qb := q
theorem g_yes (q : Qb true H) : tYes σ H Qb := q
-- values
theorem g_I0 {g : Int → Int → V} {a b : Int} (q : Q (g a b) H) : rI0 g (.int a) (.int b) H Q := ⟨a, b, rfl, rfl, q⟩
theorem g_I {C : Int → Int → Prop} {g : Int → Int → V} {a b : Int} (c : C a b) (q : Q (g a b) H) : rI C g (.int a) (.int b) H Q := ⟨a, b, rfl, rfl, c, q⟩
theorem g_U {g : Int → V} {a : Int} (q : Q (g a) H) : rU g (.int a) H Q := ⟨a, rfl, q⟩
theorem g_eq (h : scal x y = true) (q : Q (.bl (decide (x = y))) H) : rEq x y H Q := ⟨h, q⟩
theorem g_ne (h : scal x y = true) (q : Q (.bl (!decide (x = y))) H) : rNe x y H Q := ⟨h, q⟩
theorem g_ixL {a : Addr} {xs : List V} {n : Int} (h : SqL K H a xs) (e : atI xs n = some v) (q : Q v H) : rIxL K (.ref a) (.int n) H Q := ⟨a, xs, n, v, rfl, rfl, h, e, q⟩
theorem g_ixT {a : Addr} {xs : List V} {n : Int} (h : SqT K H a xs) (e : atI xs n = some v) (q : Q v H) : rIxT K (.ref a) (.int n) H Q := ⟨a, xs, n, v, rfl, rfl, h, e, q⟩
theorem g_rfld {f : Str} {a C dx : Addr} {fs : List (Str × V)} (h : H a = some (.ins C dx fs)) (c : Cls K C) (n : NoAttr K C f) (l : fs.lookup f = some v) (q : Q v H) : rFld K f (.ref a) H Q := ⟨a, C, dx, fs, v, rfl, h, c, n, l, q⟩
theorem g_rput {f : Str} {a C dx : Addr} {fs : List (Str × V)} {Qh : Hp → Prop} (h : H a = some (.ins C dx fs)) (c : Cls K C) (n : NoAttr K C f) (l : fs.length < 1000) (q : Qh (upd H a (.ins C dx (putF f y fs)))) : rPut K f y (.ref a) H Qh := ⟨a, C, dx, fs, rfl, h, c, n, l, q⟩
theorem g_app {l : Addr} {xs : List V} (h : H l = some (.lst xs)) (z : xs.length < sizeLine) (q : Q .non (upd H l (.lst (xs ++ [y])))) : rAppend (.ref l) [y] H Q := ⟨l, xs, y, rfl, rfl, h, z, q⟩
theorem g_tyL {a : Addr} {xs : List V} {Qh : Hp → Prop} (h : SqL K H a xs) (q : Qh H) : rTy K "list" (.ref a) H Qh := ⟨.inl ⟨rfl, xs, h⟩, q⟩
theorem g_tupL {a : Addr} {xs : List V} (h : H a = some (.lst xs)) (q : ∀ l, H l = none → Q (.ref l) (upd H l (.tup xs))) : rTupOf K [.ref a] H Q := ⟨a, xs, rfl, .inl ⟨SqL.of h, q⟩⟩
theorem g_len {a : Addr} {xs : List V} (h : SqL K H a xs ∨ SqT K H a xs) (q : Q (.int xs.length) H) : rLenS K [.ref a] H Q := ⟨a, xs, rfl, h, q⟩
theorem g_inT {a : Addr} {xs : List V} (h : SqT K H a xs) (f1 : flatV x = true) (f2 : xs.all flatV = true) (q : Q (.bl (inV x xs)) H) : rIn K false x (.ref a) H Q := ⟨a, xs, rfl, .inr h, f1, f2, q⟩
theorem g_inL {a : Addr} {xs : List V} (h : SqL K H a xs) (f1 : flatV x = true) (f2 : xs.all flatV = true) (q : Q (.bl (inV x xs)) H) : rIn K false x (.ref a) H Q := ⟨a, xs, rfl, .inl h, f1, f2, q⟩
theorem g_notInL {a : Addr} {xs : List V} (h : SqL K H a xs) (f1 : flatV x = true) (f2 : xs.all flatV = true) (q : Q (.bl (!inV x xs)) H) : rIn K true x (.ref a) H Q := ⟨a, xs, rfl, .inl h, f1, f2, q⟩
theorem g_newL {xs : List V} (n : Nat) (e : xs.length = n) (h : n ≤ 1000) (q : ∀ p, H p = none → Q (.ref p) (upd H p (.lst xs))) : rNewL xs H Q := ⟨by rw [e]; exact small h, q⟩
theorem g_newT {xs : List V} (n : Nat) (e : xs.length = n) (h : n ≤ 1000) (q : ∀ p, H p = none → Q (.ref p) (upd H p (.tup xs))) : rNewT xs H Q := ⟨by rw [e]; exact small h, q⟩
-- statements
theorem g_seq (q : t ⟨u D, D.rt, D.bk, D.ct⟩ σ H) : tSeq t u D σ H := q
theorem g_next (q : D.nx σ H) : tNext D σ H := q
theorem g_brk (q : D.bk σ H) : tBreak D σ H := q
theorem g_cont (q : D.ct σ H) : tCont D σ H := q
theorem g_drop (q : te σ H fun _ H1 => D.nx σ H1) : tDrop te D σ H := q
theorem g_ret (q : te σ H fun v H1 => D.rt v H1) : tRet te D σ H := q
theorem g_retN (q : D.rt .non H) : tRetN D σ H := q
theorem g_if (q : tt σ H fun b H1 => if b = true then t D σ H1 else u D σ H1) : tIfS tt t u D σ H := q
theorem g_asg {g : TG} (q : te σ H fun x H1 => g x σ H1 fun σ2 H2 => D.nx σ2 H2) : tAsg te g D σ H := q
theorem g_name {Qs : L2.St → Hp → Prop} (q : Qs (σ.set i (some v)) H) : gName i v σ H Qs := q
theorem g_aug {ti : TIp} (h : σ[i]? = some (some x)) (q : te σ H fun y H1 => ti x y H1 fun z H2 => D.nx (σ.set i (some z)) H2) : tAug i te ti D σ H := ⟨x, h, q⟩
theorem g_sfld {f : Str} (q : tb σ H fun y H1 => ta σ H1 fun x H2 => rPut K f y x H2 fun H3 => D.nx σ H3) : sFld K ta tb f D σ H := q
theorem g_sdput (q : tc σ H fun v H1 => ta σ H1 fun x H2 => tb σ H2 fun y H3 => rDp v x y H3 fun H4 => D.nx σ H4) : sDPut ta tb tc D σ H := q
theorem g_gtup {n : Nat} {g : TGs} {Qs : L2.St → Hp → Prop} (q : rUn K n v H fun xs => g xs σ H Qs) : gTup K n g v σ H Qs := by
  obtain ⟨a, xs, e, h, l, q⟩ := q
  exact ⟨a, xs, e, h, l, q⟩
theorem g_gcons {g : TG} {gs : TGs} {vs : List V} {Qs : L2.St → Hp → Prop} (q : g v σ H fun σ2 H2 => gs vs σ2 H2 Qs) : gCons g gs (v :: vs) σ H Qs := ⟨v, vs, rfl, q⟩
theorem g_gnil {Qs : L2.St → Hp → Prop} (q : Qs σ H) : gNil [] σ H Qs := ⟨rfl, q⟩
theorem g_run {n : Nat} {a : Addr} {xs : List V} {Q : List V → Prop} (h : SqT K H a xs) (l : xs.length = n) (q : Q xs) : rUn K n (.ref a) H Q := ⟨a, xs, rfl, h, l, q⟩
theorem g_gsub {to ti : TE} {s : TSet} {Qs : L2.St → Hp → Prop} (q : to σ H fun o H1 => ti σ H1 fun i H2 => s o i v H2 fun H3 => Qs σ H3) : gSub to ti s v σ H Qs := q
theorem g_setL {a : Addr} {xs : List V} {n : Int} {k : Nat} {Qh : Hp → Prop} (h : H a = some (.lst xs)) (e : ixN xs.length n = some k) (q : Qh (upd H a (.lst (xs.set k v)))) : rSetL (.ref a) (.int n) v H Qh := ⟨a, xs, n, k, rfl, rfl, h, e, q⟩
theorem g_nxm {a b c d} (q : a σ H) : Ends.nx ⟨a, b, c, d⟩ σ H := q
theorem g_rtm {a b c d} (q : b v H) : Ends.rt ⟨a, b, c, d⟩ v H := q
theorem g_bkm {a b c d} (q : c σ H) : Ends.bk ⟨a, b, c, d⟩ σ H := q
theorem g_ctm {a b c d} (q : d σ H) : Ends.ct ⟨a, b, c, d⟩ σ H := q
def rFa (K : PySem.W.Frag) (f : Str) (x : V) (H : Hp) (Qc : Addr → Addr → V → Hp → Prop) : Prop := ∃ a C dx fs v, x = .ref a ∧ H a = some (.ins C dx fs) ∧ Cls K C ∧ NoAttr K C f ∧ fs.lookup f = some v ∧ Qc a C v H
def rFs (a C : Addr) (f : Str) (z : V) (H : Hp) (Qh : Hp → Prop) : Prop := ∃ dx fs, H a = some (.ins C dx fs) ∧ fs.length < 1000 ∧ Qh (upd H a (.ins C dx (putF f z fs)))
theorem g_sfa {f : Str} {rd : V → V → Hp → VK → Prop} (q : ta σ H fun x H1 => rFa K f x H1 fun a C v H1 => tb σ H1 fun y H2 => rd v y H2 fun z H3 => rFs a C f z H3 fun H4 => D.nx σ H4) : sFldAug K ta tb rd f D σ H := q
theorem g_rfa {f : Str} {a C dx : Addr} {fs : List (Str × V)} {Qc : Addr → Addr → V → Hp → Prop} (h : H a = some (.ins C dx fs)) (c : Cls K C) (n : NoAttr K C f) (l : fs.lookup f = some v) (q : Qc a C v H) : rFa K f (.ref a) H Qc := ⟨a, C, dx, fs, v, rfl, h, c, n, l, q⟩
theorem g_rfs {f : Str} {a C dx : Addr} {fs : List (Str × V)} {Qh : Hp → Prop} (h : H a = some (.ins C dx fs)) (l : fs.length < 1000) (q : Qh (upd H a (.ins C dx (putF f v fs)))) : rFs a C f v H Qh := ⟨dx, fs, h, l, q⟩
theorem g_addI {a b : Int} (q : Q (.int (a + b)) H) : L2.rAdd (.int a) (.int b) H Q := ⟨a, b, rfl, rfl, q⟩
theorem g_subI {a b : Int} (q : Q (.int (a - b)) H) : L2.rSub (.int a) (.int b) H Q := ⟨a, b, rfl, rfl, q⟩
theorem g_rdg {a : Addr} {kvs : List (Key × V)} {k : Key} (h : H a = some (.dK kvs)) (e : valV kvs k = some v) (q : Q v H) : rDg (.ref a) (kV k) H Q := ⟨a, v, rfl, e ▸ DGet.k h, q⟩
theorem g_rdi {a : Addr} {kvs : List (Key × V)} {k : Key} (h : H a = some (.dK kvs)) (q : Q (.bl (valV kvs k).isSome) H) : rDi (kV k) (.ref a) H Q := ⟨a, _, rfl, DGet.k h, q⟩
theorem g_rdn {a : Addr} {kvs : List (Key × V)} {k : Key} (h : H a = some (.dK kvs)) (q : Q (.bl (!(valV kvs k).isSome)) H) : rDn (kV k) (.ref a) H Q := ⟨a, _, rfl, DGet.k h, q⟩
theorem g_rdp {a : Addr} {kvs : List (Key × V)} {k : Key} {Qh : Hp → Prop} (h : H a = some (.dK kvs)) (z : kvs.length < sizeLine) (q : Qh (upd H a (.dK (putK kvs k v)))) : rDp v (.ref a) (kV k) H Qh := ⟨a, _, rfl, DPut.k h z, q⟩
theorem g_sda {rd : V → V → Hp → VK → Prop} (q : ta σ H fun x H1 => tb σ H1 fun y H2 => rDg x y H2 fun v _ => tc σ H2 fun y2 H3 => rd v y2 H3 fun z H4 => rDp z x y H4 fun H5 => D.nx σ H5)
    (hx : ∀ a b : Addr, V.ref a = V.ref b → a = b := fun _ _ e => V.ref.inj e) (hm : ∀ (R S : VK) , (∀ v H', R v H' → S v H') → ∀ H', ta σ H' R → ta σ H' S) (hm2 : ∀ (R S : VK) , (∀ v H', R v H' → S v H') → ∀ H', tb σ H' R → tb σ H' S)
    (hm3 : ∀ (R S : VK) , (∀ v H', R v H' → S v H') → ∀ H', tc σ H' R → tc σ H' S) (hm4 : ∀ x y H' (R S : VK) , (∀ v H', R v H' → S v H') → rd x y H' R → rd x y H' S) : sDAug ta tb tc rd D σ H := by
  refine hm _ _ (fun x H1 q => ?_) _ q
  refine hm2 _ _ (fun y H2 q => ?_) _ q
  obtain ⟨a, v, rfl, g, q⟩ := q
  refine ⟨a, v, rfl, g, ?_⟩
  refine hm3 _ _ (fun y2 H3 q => ?_) _ q
  refine hm4 _ _ _ _ _ (fun z H4 q => ?_) q
  obtain ⟨b, H5, e, h, q⟩ := q
  cases e
  exact ⟨H5, h, q⟩
theorem g_rm {C a dx : Addr} {m : Str} {fs : List (Str × V)} {Qh : Hp → Prop} (h : H a = some (.ins C dx fs)) (l : fs.lookup m = none) (q : Qh H) : rM C m (.ref a) H Qh := ⟨a, dx, fs, rfl, h, l, q⟩
theorem g_ip {f : Int → Int → Int} {a b : Int} (q : Q (.int (f a b)) H) : ipI f (.int a) (.int b) H Q := ⟨a, b, rfl, rfl, q⟩
-- loops
variable {g : TG} {tb' : TS}
/-- what a loop over J asks -/
def rGo (J : L2.It) (g : TG) (tb : TS) (D : Ends) (σ : L2.St) (H : Hp) : Prop := ∃ W : Nat → Nat → L2.St → Hp → Prop, (∃ m, W 0 m σ H) ∧ ∀ i m σ H, W i m σ H →
  (J.stop i H ∧ D.nx σ H) ∨ (J.go i H ∧ ∃ N : L2.St → Hp → Prop, (∀ σ' H', N σ' H' → ∃ m', m' < m ∧ W (i + 1) m' σ' H') ∧ ∀ x H', J.yld i H x H' → g x σ H' fun σ2 H2 => tb { D with nx := N, ct := N, bk := D.nx } σ2 H2)
def rForT (K : PySem.W.Frag) (g : TG) (tb : TS) (D : Ends) (σ : L2.St) (x : V) (H : Hp) : Prop := ∃ a, x = .ref a ∧ (∃ xs, SqT K H a xs) ∧ rGo (Itt K a) g tb D σ H
def rForL (K : PySem.W.Frag) (g : TG) (tb : TS) (D : Ends) (σ : L2.St) (x : V) (H : Hp) : Prop := ∃ a, x = .ref a ∧ (∃ xs, SqL K H a xs) ∧ rGo (Itl K a) g tb D σ H
def rForR (g : TG) (tb : TS) (D : Ends) (σ : L2.St) (vs : List V) (H : Hp) : Prop := ∃ n : Int, vs = [.int n] ∧ -(2 ^ 62) ≤ n ∧ n < 2 ^ 62 ∧ rGo (Itr 0 n.toNat) g tb D σ H
theorem g_forT {tb : TS} (q : te σ H fun x H1 => rForT K g tb D σ x H1) : tFor (iTup K te) g tb D σ H := q
theorem g_forL {tb : TS} (q : te σ H fun x H1 => rForL K g tb D σ x H1) : tFor (iList K te) g tb D σ H := q
theorem g_rforT {tb : TS} {a : Addr} {xs : List V} (h : SqT K H a xs) (Pv : Nat → L2.St → Hp → Prop) (h0 : Pv 0 σ H) (hl : ∀ i σ' H', i ≤ xs.length → Pv i σ' H' → SqT K H' a xs)
    (hs : ∀ i y σ' H', xs[i]? = some y → Pv i σ' H' → g y σ' H' fun σ2 H2 => tb ⟨Pv (i + 1), D.rt, D.nx, Pv (i + 1)⟩ σ2 H2) (hd : ∀ σ' H', Pv xs.length σ' H' → D.nx σ' H') : rForT K g tb D σ (.ref a) H :=
  ⟨a, rfl, ⟨xs, h⟩, for_tup Pv h0 hl hs hd⟩
theorem g_rforL {tb : TS} {a : Addr} {xs : List V} (h : SqL K H a xs) (Pv : Nat → L2.St → Hp → Prop) (h0 : Pv 0 σ H) (hl : ∀ i σ' H', i ≤ xs.length → Pv i σ' H' → SqL K H' a xs)
    (hs : ∀ i y σ' H', xs[i]? = some y → Pv i σ' H' → g y σ' H' fun σ2 H2 => tb ⟨Pv (i + 1), D.rt, D.nx, Pv (i + 1)⟩ σ2 H2) (hd : ∀ σ' H', Pv xs.length σ' H' → D.nx σ' H') : rForL K g tb D σ (.ref a) H :=
  ⟨a, rfl, ⟨xs, h⟩, for_list Pv h0 hl hs hd⟩
theorem g_forR {tb : TS} {ta : TA} (q : ta σ H fun vs H1 => rForR g tb D σ vs H1) : tFor (iRng1 ta) g tb D σ H := q
theorem g_rforR {tb : TS} {n : Nat} (hn : n < 2 ^ 62) (Pv : Nat → L2.St → Hp → Prop) (h0 : Pv 0 σ H)
    (hs : ∀ i σ' H', i < n → Pv i σ' H' → g (.int (i : Nat)) σ' H' fun σ2 H2 => tb ⟨Pv (i + 1), D.rt, D.nx, Pv (i + 1)⟩ σ2 H2) (hd : ∀ σ' H', Pv n σ' H' → D.nx σ' H') : rForR g tb D σ [.int (n : Nat)] H := by
  refine ⟨n, rfl, by omega, by omega, ?_⟩
  have e : ((n : Nat) : Int).toNat = n := by omega
  rw [e]
  exact for_range Pv h0 (fun i σ' H' hi p => by rw [Int.zero_add]; exact hs i σ' H' hi p) hd
/-- a comprehension -/
def rLc (J : L2.It) (g : TG) (tt : TT) (te : TE) (vs : List Nat) (σ : L2.St) (H1 : Hp) (Q : VK) : Prop := ∀ D, H1 D = none → ∃ W : Nat → Nat → Hp → Prop, (∃ m, W 0 m (upd H1 D (.lst []))) ∧ ∀ i m H, W i m H →
  (J.stop i H ∧ Q (.ref D) H) ∨ (J.go i H ∧ ∃ Nx : Hp → Prop, (∀ H', Nx H' → ∃ m', m' < m ∧ W (i + 1) m' H') ∧ ∀ x H', J.yld i H x H' → g x (wipe σ vs) H' fun σ2 H2 => wipe σ2 vs = wipe σ vs ∧ tt σ2 H2 fun b H3 =>
    if b = true then te σ2 H3 fun y H4 => ∃ acc, H4 D = some (.lst acc) ∧ acc.length < sizeLine ∧ Nx (upd H4 D (.lst (acc ++ [y]))) else Nx H3)
def rLcT (K : PySem.W.Frag) (g : TG) (tt : TT) (te : TE) (vs : List Nat) (σ : L2.St) (x : V) (H : Hp) (Q : VK) : Prop := ∃ a, x = .ref a ∧ (∃ xs, SqT K H a xs) ∧ rLc (Itt K a) g tt te vs σ H Q
def rLcL (K : PySem.W.Frag) (g : TG) (tt : TT) (te : TE) (vs : List Nat) (σ : L2.St) (x : V) (H : Hp) (Q : VK) : Prop := ∃ a, x = .ref a ∧ (∃ xs, SqL K H a xs) ∧ rLc (Itl K a) g tt te vs σ H Q
def rLcR (g : TG) (tt : TT) (te : TE) (vs : List Nat) (σ : L2.St) (us : List V) (H : Hp) (Q : VK) : Prop := ∃ n : Int, us = [.int n] ∧ -(2 ^ 62) ≤ n ∧ n < 2 ^ 62 ∧ rLc (Itr 0 n.toNat) g tt te vs σ H Q
theorem g_lcT {tx : TE} {vs : List Nat} (q : tx σ H fun x H1 => rLcT K g tt te vs σ x H1 Q) : tLc (iTup K tx) g tt te vs σ H Q := q
theorem g_lcL {tx : TE} {vs : List Nat} (q : tx σ H fun x H1 => rLcL K g tt te vs σ x H1 Q) : tLc (iList K tx) g tt te vs σ H Q := q
theorem g_lcR {ta : TA} {vs : List Nat} (q : ta σ H fun us H1 => rLcR g tt te vs σ us H1 Q) : tLc (iRng1 ta) g tt te vs σ H Q := q
/-- an element put into the list that is made -/
def rAdd (D : Addr) (N : Hp → Prop) (y : V) (H : Hp) : Prop := ∃ acc, H D = some (.lst acc) ∧ acc.length < sizeLine ∧ N (upd H D (.lst (acc ++ [y])))
/-- one turn -/
def rTurn (g : TG) (tt : TT) (te : TE) (vs : List Nat) (σ : L2.St) (D : Addr) (N : Hp → Prop) (y : V) (H : Hp) : Prop := g y (wipe σ vs) H fun σ2 H2 => wipe σ2 vs = wipe σ vs ∧ tt σ2 H2 fun b H3 => if b = true then te σ2 H3 fun y H4 => rAdd D N y H4 else N H3
theorem g_turn {i : Nat} {vs : List Nat} {E : Addr} {N : Hp → Prop} (hw : wipe ((wipe σ vs).set i (some y)) vs = wipe σ vs) (q : tt ((wipe σ vs).set i (some y)) H fun b H3 => if b = true then te ((wipe σ vs).set i (some y)) H3 fun y H4 => rAdd E N y H4 else N H3) :
    rTurn (gName i) tt te vs σ E N y H := ⟨hw, q⟩
theorem g_add {E : Addr} {N : Hp → Prop} {acc : List V} (h : H E = some (.lst acc)) (z : acc.length < sizeLine) (q : N (upd H E (.lst (acc ++ [y])))) : rAdd E N y H := ⟨acc, h, z, q⟩
theorem g_rlcT {a : Addr} {xs : List V} {vs : List Nat} (h : SqT K H a xs) (k : ∀ E, H E = none → ∃ Pv : Nat → Hp → Prop, Pv 0 (upd H E (.lst [])) ∧ (∀ i H', i ≤ xs.length → Pv i H' → SqT K H' a xs) ∧
    (∀ i y H', xs[i]? = some y → Pv i H' → rTurn g tt te vs σ E (Pv (i + 1)) y H') ∧ ∀ H', Pv xs.length H' → Q (.ref E) H') : rLcT K g tt te vs σ (.ref a) H Q :=
  ⟨a, rfl, ⟨xs, h⟩, fun E hE => let ⟨Pv, h0, hl, hs, hd⟩ := k E hE; lc_tup Pv h0 hl hs hd⟩
theorem g_rlcL {a : Addr} {xs : List V} {vs : List Nat} (h : SqL K H a xs) (k : ∀ E, H E = none → ∃ Pv : Nat → Hp → Prop, Pv 0 (upd H E (.lst [])) ∧ (∀ i H', i ≤ xs.length → Pv i H' → SqL K H' a xs) ∧
    (∀ i y H', xs[i]? = some y → Pv i H' → rTurn g tt te vs σ E (Pv (i + 1)) y H') ∧ ∀ H', Pv xs.length H' → Q (.ref E) H') : rLcL K g tt te vs σ (.ref a) H Q :=
  ⟨a, rfl, ⟨xs, h⟩, fun E hE => let ⟨Pv, h0, hl, hs, hd⟩ := k E hE; lc_list Pv h0 hl hs hd⟩
theorem g_rlcR {n : Nat} {vs : List Nat} (hn : n < 2 ^ 62) (k : ∀ E, H E = none → ∃ Pv : Nat → Hp → Prop, Pv 0 (upd H E (.lst [])) ∧
    (∀ (i : Nat) H', i < n → Pv i H' → rTurn g tt te vs σ E (Pv (i + 1)) (.int (i : Nat)) H') ∧ ∀ H', Pv n H' → Q (.ref E) H') : rLcR g tt te vs σ [.int (n : Nat)] H Q := by
  refine ⟨n, rfl, by omega, by omega, fun E hE => ?_⟩
  have e : ((n : Nat) : Int).toNat = n := by omega
  rw [e]
  obtain ⟨Pv, h0, hs, hd⟩ := k E hE
  exact lc_range Pv h0 (fun i H' hi p => by rw [Int.zero_add]; exact hs i H' hi p) hd
/-- while -/
theorem g_while {W : Nat → L2.St → Hp → Prop} {m : Nat} (h0 : W m σ H) (hs : ∀ m σ' H', W m σ' H' → tt σ' H' fun b H1 => if b = true then ∃ N : L2.St → Hp → Prop, (∀ σ2 H2, N σ2 H2 → ∃ m', m' < m ∧ W m' σ2 H2) ∧ t ⟨N, D.rt, D.nx, N⟩ σ' H1 else D.nx σ' H1) : tWhile tt t D σ H :=
  ⟨W, ⟨m, h0⟩, hs⟩
end
end K22

set_option Elab.async false
set_option linter.all false
set_option maxRecDepth 100000
set_option maxHeartbeats 400000
namespace K22
open PySem PySem.Spec PyProof.Rows L2
/-! ### for k in d: the dict d stands as it is -/
theorem g_forK {td : TE} {g : TG} {tb : TS} {D : Ends} {σ : L2.St} {H : Hp} {d : Addr} {kvs : List (Key × V)} (hd : H d = some (.dK kvs)) (htd : ∀ H' (Q : VK), Q (.ref d) H' → td σ H' Q)
    (Pv : HO → Nat → L2.St → Hp → Prop) (h0 : ∀ u, Pv u 0 σ (upd H d u)) (hl : ∀ u i σ' H', Pv u i σ' H' → H' d = some u)
    (hs : ∀ o i k v σ' H', kvs[i]? = some (k, v) → Pv (.frz o (.dK kvs)) i σ' H' → g (kV k) σ' H' fun σ2 H2 => tb ⟨Pv (.frz o (.dK kvs)) (i + 1), (fun v H' => H' d = some (.frz o (.dK kvs)) ∧ D.rt v (upd H' d (.dK kvs))), (fun σ' H' => H' d = some (.frz o (.dK kvs)) ∧ D.nx σ' (upd H' d (.dK kvs))), Pv (.frz o (.dK kvs)) (i + 1)⟩ σ2 H2)
    (hn : ∀ u σ' H', Pv u kvs.length σ' H' → D.nx σ' (upd H' d (.dK kvs))) : tLock (tFor (iKeys td) g tb) D σ H := by
  refine ⟨d, .dK kvs, hd, trivial, fun o => ?_⟩
  refine htd _ _ ⟨d, o, rfl, .inl ⟨kvs, upd_same, ?_⟩⟩
  refine ⟨fun i m σ' H' => m = kvs.length - i ∧ i ≤ kvs.length ∧ Pv (.frz o (.dK kvs)) i σ' H', ⟨kvs.length, rfl, Nat.zero_le _, h0 _⟩, ?_⟩
  rintro i m σ' H' ⟨rfl, hi, p⟩
  have q := hl _ i σ' H' p
  by_cases lt : i < kvs.length
  · refine .inr ⟨⟨q, lt⟩, Pv (.frz o (.dK kvs)) (i + 1), fun σ2 H2 p2 => ⟨kvs.length - (i + 1), by omega, rfl, lt, p2⟩, fun x H2 ⟨e, k, v, ek, ex⟩ => ?_⟩
    subst e ex
    exact hs o i k v σ' _ ek p
  · cases (show i = kvs.length by omega)
    exact .inl ⟨⟨q, Nat.le_refl _⟩, q, hn _ σ' H' p⟩
end K22

set_option Elab.async false
set_option linter.all false
set_option maxRecDepth 100000
set_option maxHeartbeats 400000
namespace K22
open PySem PySem.Spec PyProof.Rows L2
/-! ### dicts whose keys are nested tuples -/
mutual
/-- the value v is the key k -/
def KeyV (H : Hp) : NestedKey → V → Prop
  | .none, v => v = .non
  | .num i, v => v = .int i
  | .text x, v => v = .str x
  | .tup ks, v => ∃ a ys, v = .ref a ∧ H a = some (.tup ys) ∧ KeysV H ks ys
def KeysV (H : Hp) : List NestedKey → List V → Prop
  | [], ys => ys = []
  | k :: ks, ys => ∃ y r, ys = y :: r ∧ KeyV H k y ∧ KeysV H ks r
end
mutual
theorem KeyV.monoT {H H' : Hp} (s : SameT H H') : ∀ (k : NestedKey) {v : V}, KeyV H k v → KeyV H' k v
  | .none, v, h => h
  | .num i, v, h => h
  | .text x, v, h => h
  | .tup ks, v, ⟨a, ys, e, h, q⟩ => ⟨a, ys, e, s _ _ h, KeysV.monoT s ks q⟩
theorem KeysV.monoT {H H' : Hp} (s : SameT H H') : ∀ (ks : List NestedKey) {vs : List V}, KeysV H ks vs → KeysV H' ks vs
  | [], vs, h => h
  | k :: ks, vs, ⟨y, r, e, h, q⟩ => ⟨y, r, e, KeyV.monoT s k h, KeysV.monoT s ks q⟩
end
mutual
theorem KeyV.is {P : Program} {w : World} {H : Hp} {h : Heap} (ok : HOk P w H h) : ∀ (k : NestedKey) {v : V} {u : Value}, KeyV H k v → RelV v u → NestedIs h k u
  | .none, v, u, e, r => by
    cases e
    cases (show u = Value.none from r)
    exact .none
  | .num i, v, u, e, r => by
    cases e
    obtain ⟨t, rfl⟩ := r
    exact .int i t
  | .text x, v, u, e, r => by
    cases e
    obtain ⟨t, rfl⟩ := r
    exact .text x t
  | .tup ks, v, u, q, r => by
    obtain ⟨a, ys, rfl, ha, q⟩ := q
    cases (show u = Value.ref a from r)
    obtain ⟨z, its, rv, o, ho, hc, n, hd⟩ := (show ObjOk P w H h a (.tup ys) from ok a _ ha)
    exact .tup ho hc hd (by simpa using KeysV.is ok ks q rv)
theorem KeysV.is {P : Program} {w : World} {H : Hp} {h : Heap} (ok : HOk P w H h) : ∀ (ks : List NestedKey) {vs : List V} {us : List Value}, KeysV H ks vs → Vals vs us → NestedAll h ks us
  | [], vs, us, e, r => by
    have e' : vs = [] := e
    subst e'
    cases r
    exact .nil
  | k :: ks, vs, us, ⟨y, r', e, h1, h2⟩, r => by
    subst e
    cases r with
    | cons r1 r2 => exact .cons (KeyV.is ok k h1 r1) (KeysV.is ok ks h2 r2)
end
/-- an entry: its key, where the key's tuple stands, its value -/
abbrev Ent : Type := NestedKey × Addr × V
def EntR (p : Ent) (q : NestedKey × Addr × Value) : Prop := p.1 = q.1 ∧ p.2.1 = q.2.1 ∧ RelV p.2.2 q.2.2
def DNphi (P : Program) (w : World) (d : Addr) (xs : List Ent) (h : Heap) : Prop := (d == sysModules) = false ∧ xs.length ≤ sizeLine ∧ ∃ vs, Paired EntR xs vs ∧ ∃ o es ep, h.get? d = some o ∧ o.ExactDict ∧ o.data = .dict es ep ∧ es.toList = vs.map (entryOfKey (nestedKind P w)) ∧ (vs.map (·.1)).Nodup
def DNo (P : Program) (w : World) (d : Addr) (xs : List Ent) : HO := .ext (DNphi P w d xs)
/-- at d stands such a dict with the entries xs -/
structure NDict (P : Program) (w : World) (H : Hp) (d : Addr) (xs : List Ent) : Prop where
  at_ : H d = some (DNo P w d xs)
  keys : ∀ x ∈ xs, KeyV H x.1 (.ref x.2.1) ∧ x.1.depth ≤ 8
def valN (xs : List Ent) (k : NestedKey) : Option V := (xs.find? fun x => decide (x.1 = k)).map (·.2.2)
theorem DNphi.obj {P : Program} {w : World} {d : Addr} {xs : List Ent} {h : Heap} (x : DNphi P w d xs h) : ∃ o, h.get? d = some o := let ⟨_, _, _, _, o, _, _, e, _⟩ := x; ⟨o, e⟩
theorem DNphi.stay {P : Program} {w : World} {d : Addr} {xs : List Ent} {h1 h2 : Heap} (x : DNphi P w d xs h1) (k : ∀ o, h1.get? d = some o → h2.get? d = some o) : DNphi P w d xs h2 := by
  obtain ⟨z, l, vs, r, o, es, ep, e, q⟩ := x
  exact ⟨z, l, vs, r, o, es, ep, k _ e, q⟩
theorem DNo.ok {P : Program} {w : World} {d : Addr} {xs : List Ent} {H : Hp} {h : Heap} (x : DNphi P w d xs h) : ObjOk P w H h d (DNo P w d xs) := ⟨x, x.obj, fun _ _ y k => y.stay k⟩
theorem valN_at {xs : List Ent} {vs : List (NestedKey × Addr × Value)} (r : Paired EntR xs vs) (k : NestedKey) : RelO (valN xs k) ((atKey vs k).map (·.2)) := by
  induction r with
  | nil => trivial
  | @cons a b l m r1 r2 ih =>
    obtain ⟨a1, a2, a3⟩ := a
    obtain ⟨b1, b2, b3⟩ := b
    obtain ⟨e1, e2, e3⟩ := r1
    dsimp only at e1 e2 e3
    subst e1 e2
    by_cases hk : a1 = k
    · have z1 : valN ((a1, a2, a3) :: l) k = some a3 := by simp [valN, hk]
      have z2 : (atKey ((a1, a2, b3) :: m) k).map (·.2) = some b3 := by simp [atKey, hk]
      rw [z1, z2]
      exact e3
    · have z1 : valN ((a1, a2, a3) :: l) k = valN l k := by simp [valN, hk]
      have z2 : atKey ((a1, a2, b3) :: m) k = atKey m k := by simp [atKey, hk]
      rw [z1, z2]
      exact ih
theorem relO_some {v : Option V} {u : Option Value} (r : RelO v u) : v.isSome = u.isSome := by
  cases v <;> cases u <;> first | rfl | exact r.elim
theorem relO_of {v : V} {o : Option V} {u : Option Value} (r : RelO o u) (e : o = some v) : ∃ x, u = some x ∧ RelV v x := by
  subst e
  cases u with
  | none => exact r.elim
  | some x => exact ⟨x, rfl, r⟩
section
variable {X : Cx} {pins : List (Addr × Obj)} {σ : L2.St} {H : Hp} {s : Shared} {d b : Addr} {xs : List Ent} {k : NestedKey} {v : V} {r : Value} {A : Around} {E : Value → Shared → Prop}
theorem nd_of (I : Inv X pins σ H s) (D : NDict X.prog X.w H d xs) : (d == sysModules) = false ∧ xs.length ≤ sizeLine ∧ ∃ vs, Paired EntR xs vs ∧ s.heap.DictOfH (nestedKind X.prog X.w) d vs := by
  obtain ⟨⟨z, l, vs, rel, o, es, ep, e1, e2, e3, e4, e5⟩, _⟩ := (show ObjOk X.prog X.w H s.heap d (DNo X.prog X.w d xs) from I.hok d _ D.at_)
  refine ⟨z, l, vs, rel, o, es, ep, e1, e2, e3, e4, fun y hy => ?_, e5⟩
  obtain ⟨i, hi, rfl⟩ := List.mem_iff_getElem.mp hy
  obtain ⟨x, hx, q1, q2, q3⟩ := Pd.get rel (List.getElem?_eq_getElem hi)
  obtain ⟨k1, k2⟩ := D.keys x (List.mem_of_getElem? hx)
  rw [q1, q2] at k1
  rw [q1] at k2
  exact ⟨KeyV.is I.hok _ k1 rfl, k2⟩
theorem nd_key (I : Inv X pins σ H s) (hk : KeyV H k (.ref b)) (hd : k.depth ≤ 8) : (nestedKind X.prog X.w).is s.heap k b := ⟨KeyV.is I.hok _ hk rfl, hd⟩
theorem nd_in {Q : Value → Shared → Prop} (hu : A.units + 64 < cLine) (I : Inv X pins σ H s) (D : NDict X.prog X.w H d xs) (hk : KeyV H k (.ref b)) (hd : k.depth ≤ 8) (h : ∀ s', Inv X pins σ H s' → Q (.bool (valN xs k).isSome) s') :
    wpAny (model X.prog X.w) A (compareOp .In (.ref b) (.ref d)) Q E s := by
  obtain ⟨z, l, vs, rel, dd⟩ := nd_of I D
  refine wpAny_in_heap (knd := nestedKind X.prog X.w) (show A.units + 1 + 8 < cLine by omega) (nd_key I hk hd) z dd ?_
  have e := relO_some (valN_at rel k)
  rw [Option.isSome_map] at e
  rw [← e]
  exact h _ (I.tok _)
theorem nd_notIn {Q : Value → Shared → Prop} (hu : A.units + 64 < cLine) (I : Inv X pins σ H s) (D : NDict X.prog X.w H d xs) (hk : KeyV H k (.ref b)) (hd : k.depth ≤ 8) (h : ∀ s', Inv X pins σ H s' → Q (.bool (!(valN xs k).isSome)) s') :
    wpAny (model X.prog X.w) A (compareOp .NotIn (.ref b) (.ref d)) Q E s := by
  obtain ⟨z, l, vs, rel, dd⟩ := nd_of I D
  refine wpAny_notIn_heap (knd := nestedKind X.prog X.w) (show A.units + 1 + 8 < cLine by omega) (nd_key I hk hd) z dd ?_
  have e := relO_some (valN_at rel k)
  rw [Option.isSome_map] at e
  rw [← e]
  exact h _ (I.tok _)
theorem nd_get {Q : Value → Shared → Prop} (hu : A.units + 64 < cLine) (I : Inv X pins σ H s) (D : NDict X.prog X.w H d xs) (hk : KeyV H k (.ref b)) (hd : k.depth ≤ 8) (hv : valN xs k = some v) (h : ∀ w' s', Inv X pins σ H s' → RelV v w' → Q w' s') :
    wpAny (model X.prog X.w) A (getItem (.ref d) (.ref b)) Q E s := by
  obtain ⟨z, l, vs, rel, dd⟩ := nd_of I D
  obtain ⟨x, hx, rx⟩ := relO_of (valN_at rel k) hv
  obtain ⟨p, hp, rfl⟩ := Option.map_eq_some_iff.mp hx
  exact wpAny_getItem_heap (knd := nestedKind X.prog X.w) (show A.units + 1 + 8 < cLine by omega) (nd_key I hk hd) dd hp (h _ _ (I.tok _) rx)
/-- the dict behind a store -/
theorem nd_put {h' : Heap} {vs : List (NestedKey × Addr × Value)} (z : (d == sysModules) = false) (l : xs.length < sizeLine) (rel : Paired EntR xs vs) (rv : RelV v r) (hn : valN xs k = none) (dd : h'.DictOfH (nestedKind X.prog X.w) d (storedH vs k b r)) :
    DNphi X.prog X.w d (xs ++ [(k, b, v)]) h' := by
  have e : atKey vs k = none := by
    have := relO_some (valN_at rel k)
    rw [hn, Option.isSome_map] at this
    cases q : atKey vs k with
    | none => rfl
    | some p =>
      rw [q] at this
      cases this
  rw [storedH_new e] at dd
  obtain ⟨o, es, ep, e1, e2, e3, e4, _, e5⟩ := dd
  exact ⟨z, by rw [List.length_append]; exact l, _, Pd.snoc (x := ((k, b, v) : Ent)) (y := (k, b, r)) ⟨rfl, rfl, rv⟩ rel, o, es, ep, e1, e2, e3, e4, e5⟩
theorem nd_set {Q : Unit → Shared → Prop} (hu : A.units + 64 < cLine) (I : Inv X pins σ H s) (D : NDict X.prog X.w H d xs) (hk : KeyV H k (.ref b)) (hd : k.depth ≤ 8) (hn : valN xs k = none) (l : xs.length < sizeLine) (rv : RelV v r)
    (h : ∀ s', Inv X pins σ (upd H d (DNo X.prog X.w d (xs ++ [(k, b, v)]))) s' → Q () s') : wpAny (model X.prog X.w) A (setItem (.ref d) (.ref b) r) Q E s := by
  obtain ⟨z, _, vs, rel, dd⟩ := nd_of I D
  refine wpAny_setItem_heap (knd := nestedKind X.prog X.w) (hsz := by rw [← Paired.length rel]; exact Nat.le_of_lt l) (show A.units + 1 + 8 < cLine by omega) (nd_key I hk hd) dd fun h' dd' hs => h _ ?_
  have ph := nd_put (X := X) z l rel rv hn dd'
  exact d_write I (by rw [D.at_]; exact True.intro) hs ph.obj (DNo.ok ph)
theorem nd_dictSet {Q : Unit → Shared → Prop} (hu : A.units + 64 < cLine) (I : Inv X pins σ H s) (D : NDict X.prog X.w H d xs) (hk : KeyV H k (.ref b)) (hd : k.depth ≤ 8) (hn : valN xs k = none) (l : xs.length < sizeLine) (rv : RelV v r)
    (h : ∀ s', Inv X pins σ (upd H d (DNo X.prog X.w d (xs ++ [(k, b, v)]))) s' → Q () s') : wpAny (model X.prog X.w) A (dictSet d (.ref b) r) Q E s := by
  obtain ⟨z, _, vs, rel, dd⟩ := nd_of I D
  refine wpAny_dictSet_heap (knd := nestedKind X.prog X.w) (hsz := by rw [← Paired.length rel]; exact Nat.le_of_lt l) (show A.units + 8 < cLine by omega) (nd_key I hk hd) dd fun h' dd' hs => h _ ?_
  have ph := nd_put (X := X) z l rel rv hn dd'
  exact d_write I (by rw [D.at_]; exact True.intro) hs ph.obj (DNo.ok ph)
theorem nd_type (I : Inv X pins σ H s) (D : NDict X.prog X.w H d xs) : s.TypeIs (.ref d) "dict" := let ⟨_, _, _, _, dd⟩ := nd_of I D; dd.typeIs
end
/-! readings -/
def rNi (P : Program) (w : World) (y x : V) (H : Hp) (Q : VK) : Prop := ∃ d b xs k, x = .ref d ∧ y = .ref b ∧ NDict P w H d xs ∧ KeyV H k (.ref b) ∧ k.depth ≤ 8 ∧ Q (.bl (valN xs k).isSome) H
def rNn (P : Program) (w : World) (y x : V) (H : Hp) (Q : VK) : Prop := ∃ d b xs k, x = .ref d ∧ y = .ref b ∧ NDict P w H d xs ∧ KeyV H k (.ref b) ∧ k.depth ≤ 8 ∧ Q (.bl (!(valN xs k).isSome)) H
def rNg (P : Program) (w : World) (x y : V) (H : Hp) (Q : VK) : Prop := ∃ d b xs k v, x = .ref d ∧ y = .ref b ∧ NDict P w H d xs ∧ KeyV H k (.ref b) ∧ k.depth ≤ 8 ∧ valN xs k = some v ∧ Q v H
def rNp (P : Program) (w : World) (v x y : V) (H : Hp) (Q : Hp → Prop) : Prop := ∃ d b xs k, x = .ref d ∧ y = .ref b ∧ NDict P w H d xs ∧ KeyV H k (.ref b) ∧ k.depth ≤ 8 ∧ valN xs k = none ∧ xs.length < sizeLine ∧ Q (upd H d (DNo P w d (xs ++ [(k, b, v)])))
def tNIn (P : Program) (w : World) (ty td : TE) : TE := fun σ H Q => ty σ H fun y H1 => td σ H1 fun x H2 => rNi P w y x H2 Q
def tNNot (P : Program) (w : World) (ty td : TE) : TE := fun σ H Q => ty σ H fun y H1 => td σ H1 fun x H2 => rNn P w y x H2 Q
def tNGet (P : Program) (w : World) (td ty : TE) : TE := fun σ H Q => td σ H fun x H1 => ty σ H1 fun y H2 => rNg P w x y H2 Q
def sNPut (P : Program) (w : World) (td ty tv : TE) : TS := fun D σ H => tv σ H fun v H1 => td σ H1 fun x H2 => ty σ H2 fun y H3 => rNp P w v x y H3 fun H4 => D.nx σ H4
section
variable {X : Cx} {o i value : PySem.Expr} {pos pos' : Pos} {td ty tv : TE}
theorem pc_nin (P : Program) (w : World) (hu : X.A.units + 64 < cLine) (hi : PE X i ty) (ho : PE X o td) (hP : X.prog = P := by rfl) (hw : X.w = w := by rfl) : PC X .In i o (tNIn P w ty td) := by
  subst hP hw
  refine ⟨fun pins s σ H Q I h => ?_⟩
  refine thn (hi.run pins s σ H _ I h) fun iv s1 ⟨y, H1, I1, ry, q1⟩ => thn (ho.run pins s1 σ H1 _ I1 q1) fun u s2 ⟨x, H2, I2, rx, d, b, xs, k, ex, ey, D, hk, hd, q2⟩ => ?_
  subst ex ey
  cases rx
  cases ry
  exact nd_in hu I2 D hk hd fun s3 I3 => ⟨.bl _, H2, I3, rfl, q2⟩
theorem pc_nnotin (P : Program) (w : World) (hu : X.A.units + 64 < cLine) (hi : PE X i ty) (ho : PE X o td) (hP : X.prog = P := by rfl) (hw : X.w = w := by rfl) : PC X .NotIn i o (tNNot P w ty td) := by
  subst hP hw
  refine ⟨fun pins s σ H Q I h => ?_⟩
  refine thn (hi.run pins s σ H _ I h) fun iv s1 ⟨y, H1, I1, ry, q1⟩ => thn (ho.run pins s1 σ H1 _ I1 q1) fun u s2 ⟨x, H2, I2, rx, d, b, xs, k, ex, ey, D, hk, hd, q2⟩ => ?_
  subst ex ey
  cases rx
  cases ry
  exact nd_notIn hu I2 D hk hd fun s3 I3 => ⟨.bl _, H2, I3, rfl, q2⟩
theorem pe_nget (P : Program) (w : World) (hu : X.A.units + 64 < cLine) (ho : PE X o td) (hi : PE X i ty) (hs : NoSl i) (hP : X.prog = P := by rfl) (hw : X.w = w := by rfl) : PE X (.Subscript o i pos) (tNGet P w td ty) := by
  subst hP hw
  refine ⟨fun pins s σ H Q I h => ?_⟩
  refine subD_of PySem.F.slot_dict_getitem.lookup hs (thn (ho.run pins s σ H _ I h) fun u s1 ⟨x, H1, I1, rx, q1⟩ => thn (hi.run pins s1 σ H1 _ I1 q1) fun iv s2 ⟨y, H2, I2, ry, d, b, xs, k, v, ex, ey, D, hk, hd, hv, q2⟩ => ?_)
  subst ex ey
  cases rx
  cases ry
  exact ⟨nd_type I2 D, nd_get hu I2 D hk hd hv fun w' s3 I3 rw' => ⟨v, H2, I3, rw', q2⟩⟩
theorem ps_nput (P : Program) (w : World) (hu : X.A.units + 64 < cLine) (ho : PE X o td) (hi : PE X i ty) (hv : PE X value tv) (hs : swapsWith value (some (.Subscript o i pos')) pos.line X.env = pure false) (hP : X.prog = P := by rfl) (hw : X.w = w := by rfl) :
    PS X (.Assign [.Subscript o i pos'] value pos) (sNPut P w td ty tv) := by
  subst hP hw
  refine ⟨fun pins s σ H D I h => ?_⟩
  refine wpAny_Assign_Subscript (thn (hv.run pins s σ H _ I h) fun r s1 ⟨v, H1, I1, rv, q1⟩ => thn (ho.run pins s1 σ H1 _ I1 q1) fun u s2 ⟨x, H2, I2, rx, q2⟩ => thn (hi.run pins s2 σ H2 _ I2 q2) fun iv s3 ⟨y, H3, I3, ry, d, b, xs, k, ex, ey, DD, hk, hd, hn, l, q3⟩ => ?_) hs
  subst ex ey
  cases rx
  cases ry
  exact nd_set hu I3 DD hk hd hn l rv fun s4 I4 => ⟨σ, _, I4, q3⟩
end
section
variable {P : Program} {w : World} {σ : L2.St} {H : Hp} {Q : VK} {D : Ends} {ta tb tc : TE} {d b : Addr} {xs : List Ent} {k : NestedKey} {v : V}
theorem g_nin (q : ta σ H fun y H1 => tb σ H1 fun x H2 => rNi P w y x H2 Q) : tNIn P w ta tb σ H Q := q
theorem g_nnot (q : ta σ H fun y H1 => tb σ H1 fun x H2 => rNn P w y x H2 Q) : tNNot P w ta tb σ H Q := q
theorem g_nget (q : ta σ H fun x H1 => tb σ H1 fun y H2 => rNg P w x y H2 Q) : tNGet P w ta tb σ H Q := q
theorem g_nput (q : tc σ H fun v H1 => ta σ H1 fun x H2 => tb σ H2 fun y H3 => rNp P w v x y H3 fun H4 => D.nx σ H4) : sNPut P w ta tb tc D σ H := q
theorem g_rni (N : NDict P w H d xs) (hk : KeyV H k (.ref b)) (hd : k.depth ≤ 8) (q : Q (.bl (valN xs k).isSome) H) : rNi P w (.ref b) (.ref d) H Q := ⟨d, b, xs, k, rfl, rfl, N, hk, hd, q⟩
theorem g_rnn (N : NDict P w H d xs) (hk : KeyV H k (.ref b)) (hd : k.depth ≤ 8) (q : Q (.bl (!(valN xs k).isSome)) H) : rNn P w (.ref b) (.ref d) H Q := ⟨d, b, xs, k, rfl, rfl, N, hk, hd, q⟩
theorem g_rng (N : NDict P w H d xs) (hk : KeyV H k (.ref b)) (hd : k.depth ≤ 8) (e : valN xs k = some v) (q : Q v H) : rNg P w (.ref d) (.ref b) H Q := ⟨d, b, xs, k, v, rfl, rfl, N, hk, hd, e, q⟩
theorem g_rnp {Qh : Hp → Prop} (N : NDict P w H d xs) (hk : KeyV H k (.ref b)) (hd : k.depth ≤ 8) (e : valN xs k = none) (l : xs.length < sizeLine) (q : Qh (upd H d (DNo P w d (xs ++ [(k, b, v)])))) : rNp P w v (.ref d) (.ref b) H Qh := ⟨d, b, xs, k, rfl, rfl, N, hk, hd, e, l, q⟩
theorem NDict.monoS {H' : Hp} (N : NDict P w H d xs) (s : SameT H H') (e : H' d = H d) : NDict P w H' d xs := ⟨by rw [e]; exact N.at_, fun x hx => ⟨(N.keys x hx).1.monoT s, (N.keys x hx).2⟩⟩
theorem NDict.mono {H' : Hp} (N : NDict P w H d xs) (s : Same H H') : NDict P w H' d xs := ⟨s _ _ N.at_, fun x hx => ⟨(N.keys x hx).1.monoT s.t, (N.keys x hx).2⟩⟩
theorem NDict.t (N : NDict P w H d xs) {o : HO} : SameT H (upd H d o) := SameT.upd N.at_ fun _ z => nomatch z
theorem NDict.put (N : NDict P w H d xs) (hk : KeyV H k (.ref b)) (hd : k.depth ≤ 8) : NDict P w (upd H d (DNo P w d (xs ++ [(k, b, v)]))) d (xs ++ [(k, b, v)]) := ⟨upd_same, fun x hx => by
  rcases List.mem_append.mp hx with h | h
  · exact ⟨(N.keys x h).1.monoT N.t, (N.keys x h).2⟩
  · cases List.mem_singleton.mp h
    exact ⟨hk.monoT N.t, hd⟩⟩
theorem valN_snoc {j : NestedKey} : valN (xs ++ [(k, b, v)]) j = match valN xs j with
    | some u => some u
    | none => if k = j then some v else none := by
  unfold valN
  rw [List.find?_append]
  cases e : xs.find? fun x => decide (x.1 = j) with
  | some x => rfl
  | none =>
    by_cases h : k = j
    · simp [h]
    · simp [h]
end
end K22
namespace K22
open PySem PySem.Spec PyProof.Rows L2
/-- an empty dict just laid -/
theorem nd_empty {P : Program} {w : World} {H' : Hp} (h : Heap) (hs : (h.objs.size == sysModules) = false) : ObjOk P w H' (h.push { cls := .type "dict", data := .dict #[] }) h.objs.size (DNo P w h.objs.size []) := by
  obtain ⟨o, es, ep, e1, e2, e3, e4, _, e5⟩ := Heap.DictOfH.new (knd := nestedKind P w) h
  exact DNo.ok ⟨hs, Nat.zero_le _, [], .nil, o, es, ep, e1, e2, e3, e4, e5⟩
def rNd (P : Program) (w : World) (p : Addr) (x v : V) (H : Hp) (Q : VK) : Prop := ∃ b k, x = .ref b ∧ H p = some (DNo P w p []) ∧ KeyV H k (.ref b) ∧ k.depth ≤ 8 ∧ Q (.ref p) (upd H p (DNo P w p [(k, b, v)]))
/-- {k: v} -/
def tNDisp (P : Program) (w : World) (tk tv : TE) : TE := fun σ H Q => ∀ p, H p = none → tk σ (upd H p (DNo P w p [])) fun x H1 => tv σ H1 fun v H2 => rNd P w p x v H2 Q
def onePair (A : V → V → Hp → Prop) : List (V × V) → Hp → Prop
  | [(x, y)], H => A x y H
  | _, _ => False
theorem onePair_of {A : V → V → Hp → Prop} : ∀ {ps : List (V × V)} {H : Hp}, onePair A ps H → ∃ x y, ps = [(x, y)] ∧ A x y H
  | [(x, y)], H, h => ⟨x, y, rfl, h⟩
  | [], H, h => h.elim
  | _ :: _ :: _, H, h => h.elim
theorem vv_one {x y : V} {ws : List (Value × Value)} (r : VV [(x, y)] ws) : ∃ u r, ws = [(u, r)] ∧ RelV x u ∧ RelV y r := by
  cases r with
  | cons a b =>
    cases b
    exact ⟨_, _, rfl, a.1, a.2⟩
section
variable {prog : Program} {w : World} {A : Around} {E : Value → Shared → Prop} {s : Shared}
/-- a display of one pair, the key's place told -/
theorem dispH {env : Env} {k v : PySem.Expr} {pos : Pos} {Q : Value → Shared → Prop} (hu : (nestedKind prog w).room A)
    (h : wpAny (model prog w) A (evalPairs (pairTrees [some k] [v] env pos)) (fun vs s₁ => ∃ ps, CarriesH (nestedKind prog w) s₁.heap vs ps ∧ s₁.heap.DictOfH (nestedKind prog w) s.heap.objs.size [] ∧
      ∀ h' tk, h'.DictOfH (nestedKind prog w) s.heap.objs.size (storedAllH [] ps) → Heap.SameBut s.heap.objs.size s₁.heap h' → Q (.ref s.heap.objs.size) { s₁ with heap := h', toks := tk }) E
      { s with heap := s.heap.push { cls := .type "dict", data := .dict #[] } }) :
    wpAny (model prog w) A (eval (.Dict [some k] [v] pos) env) Q E s := by
  have hl : (pairTrees [some k] [v] env pos).length = 1 := pairTrees_length [some k] [v] env pos rfl rfl
  have h0 : pairTrees [some k] [v] env pos ≠ [] := fun z => by
    rw [z] at hl
    exact absurd hl (by decide)
  rw [arm_eval_Dict]
  rw [zip_pairTrees [some k] [v] env pos rfl rfl]
  rw [dictDisplay_pairs _ h0 (by omega)]
  refine wpAny_bind (wpAny_standAt (wpAny_bind ?_))
  refine wpAny_subDictH (knd := nestedKind prog w) (Q := fun d s' => wpAny (model prog w) A (pure (Value.ref d)) Q E s') hu (by omega) ?_
  refine wpAny_mono h (fun vs s₁ h₁ => ?_) fun _ _ e => e
  obtain ⟨ps, hc, hm, hq⟩ := h₁
  exact ⟨ps, hc, hm, fun h' tk a b => wpAny_pure (hq h' tk a b)⟩
end
theorem pe_ndisp {X : Cx} (P : Program) (w : World) {k v : PySem.Expr} {tk tv : TE} {pos : Pos} (hu : X.A.units + 64 < cLine) (hk : PE X k tk) (hv : PE X v tv) (hP : X.prog = P := by rfl) (hw : X.w = w := by rfl) : PE X (.Dict [some k] [v] pos) (tNDisp P w tk tv) := by
  subst hP hw
  refine ⟨fun pins s σ H Q I q => ?_⟩
  have hn := I.hok.fresh (Nat.le_refl s.heap.objs.size)
  have hbig : (s.heap.objs.size == sysModules) = false := (dk_empty (P := X.prog) (w := X.w) (H := H) s.heap I.big).2.1
  have I1 := I.laid (a := s.heap.objs.size) (o := DNo X.prog X.w s.heap.objs.size []) (h' := s.heap.push { cls := .type "dict", data := .dict #[] }) (t' := s.toks) (fun _ _ q => Heap.get?_push_of_some _ q) (Nat.le_refl _) (nd_empty s.heap hbig)
  refine dispH (show X.A.units + 8 < cLine by omega) ?_
  refine thn ((pps_cons hk hv pps_nil).run pins _ σ _ (onePair fun x y H2 => rNd X.prog X.w s.heap.objs.size x y H2 Q) I1 (q _ hn)) fun ws s2 ⟨ps, H2, I2, rel, z⟩ => ?_
  obtain ⟨x, y, rfl, b, kk, rfl, hD, hkey, hd, q2⟩ := onePair_of z
  obtain ⟨u, r, rfl, ru, rr⟩ := vv_one rel
  cases (show u = Value.ref b from ru)
  have D2 : NDict X.prog X.w H2 s.heap.objs.size [] := ⟨hD, fun _ h => nomatch h⟩
  obtain ⟨z1, _, vs, rel, dd⟩ := nd_of I2 D2
  cases rel
  refine ⟨[(kk, b, r)], ⟨rfl, rfl, nd_key I2 hkey hd, trivial⟩, dd, fun h' tk dd' hs => ⟨.ref s.heap.objs.size, _, ?_, rfl, q2⟩⟩
  have ph : DNphi X.prog X.w s.heap.objs.size [(kk, b, y)] h' := nd_put (X := X) (xs := []) (vs := []) z1 (by decide) .nil rr rfl dd'
  exact d_write I2 (by rw [hD]; exact True.intro) hs ph.obj (DNo.ok ph)
section
variable {P : Program} {w : World} {σ : L2.St} {H : Hp} {Q : VK} {tk tv : TE} {p b : Addr} {k : NestedKey} {v : V}
theorem g_ndisp (q : ∀ p, H p = none → tk σ (upd H p (DNo P w p [])) fun x H1 => tv σ H1 fun v H2 => rNd P w p x v H2 Q) : tNDisp P w tk tv σ H Q := q
theorem g_rnd (hD : H p = some (DNo P w p [])) (hk : KeyV H k (.ref b)) (hd : k.depth ≤ 8) (q : Q (.ref p) (upd H p (DNo P w p [(k, b, v)]))) : rNd P w p (.ref b) v H Q := ⟨b, k, rfl, hD, hk, hd, q⟩
end
end K22

set_option Elab.async false
set_option linter.all false
set_option maxRecDepth 100000
set_option maxHeartbeats 1000000
namespace K22
open PySem PySem.Spec PyProof.Rows L2
/-! ### {k: v for x in ..}: the keys nested tuples, each key new -/
section
variable {X : Cx} {kx vx tg iter : PySem.Expr} {scope : Scope} {own : List (Str × Nat)} {pos : Pos} {wi : TI} {g : TG} {tk tv : TE}
/-- what one turn owes where its key and its value stand -/
def rDcPut (P : Program) (w : World) (D : Addr) (Nx : Hp → Prop) (y z : V) (H : Hp) : Prop :=
  ∃ b xs k, y = .ref b ∧ NDict P w H D xs ∧ KeyV H k (.ref b) ∧ k.depth ≤ 8 ∧ valN xs k = none ∧ xs.length < sizeLine ∧ Nx (upd H D (DNo P w D (xs ++ [(k, b, z)])))
def rDcTurn (P : Program) (w : World) (g : TG) (tk tv : TE) (vs : List Nat) (σ : L2.St) (D : Addr) (Nx : Hp → Prop) (x : V) (H : Hp) : Prop :=
  g x (wipe σ vs) H fun σ2 H2 => wipe σ2 vs = wipe σ vs ∧ tk σ2 H2 fun y H3 => tv σ2 H3 fun z H4 => rDcPut P w D Nx y z H4
def rDc (P : Program) (w : World) (J : L2.It) (g : TG) (tk tv : TE) (vs : List Nat) (σ : L2.St) (H1 : Hp) (Q : VK) : Prop :=
  ∀ D, H1 D = none → ∃ W : Nat → Nat → Hp → Prop, (∃ m, W 0 m (upd H1 D (DNo P w D []))) ∧ ∀ i m H, W i m H →
    (J.stop i H ∧ Q (.ref D) H) ∨
    (J.go i H ∧ ∃ Nx : Hp → Prop, (∀ H', Nx H' → ∃ m', m' < m ∧ W (i + 1) m' H') ∧ ∀ x H', J.yld i H x H' → rDcTurn P w g tk tv vs σ D Nx x H')
def tNDc (P : Program) (w : World) (wi : TI) (g : TG) (tk tv : TE) (vs : List Nat) : TE := fun σ H Q => wi σ H fun J H1 => rDc P w J g tk tv vs σ H1 Q
abbrev celsOf (X : Cx) (scope : Scope) (s : Shared) : List (Str × Addr) := cellsFrom (s.heap.objs.size + 1) scope.names (cloFrom X.env.cells scope.names [])
theorem pe_ndc (hu : X.A.units + 64 < cLine) (P : Program) (w : World) (hc : X.calm = true) (hN : X.N.Nodup) (hi : PI X tg iter wi) (ok : BlkOk X.N X.env.scope scope own)
    (hg : ∀ (s : Shared) (H : Hp) (C : Addr) (cl : List (Str × Addr)) (fp : List Addr), PG (X.blk s H scope (compEnvC scope cl C X.env) fp) tg g)
    (hk : ∀ (s : Shared) (H : Hp) (C : Addr) (cl : List (Str × Addr)) (fp : List Addr), PE (X.blk s H scope (compEnvC scope cl C X.env) fp) kx tk)
    (he : ∀ (s : Shared) (H : Hp) (C : Addr) (cl : List (Str × Addr)) (fp : List Addr), PE (X.blk s H scope (compEnvC scope cl C X.env) fp) vx tv)
    (hs : ∀ x, foldedSetIterable iter X.env x = pure x := by intro _; rfl) (hP : X.prog = P := by rfl) (hw : X.w = w := by rfl) :
    PE X (.DictComp kx vx [⟨tg, iter, [], 0⟩] scope pos) (tNDc P w wi g tk tv (own.map (·.2))) := by
  subst hP hw
  refine ⟨fun pins s σ H Q I h => ?_⟩
  rw [arm_eval_DictComp]
  have free : ∀ y ∈ scope.names, y.2 = .free → ∃ c, X.env.cells.lookup y.1 = some c := fun y hy e =>
    (ok.free y hy e).elim (fun k => I.ok.has _ (.inl k)) fun k => I.ok.has _ (.inr k)
  refine wpAny_comprehension_free (use := none) rfl hs (closure_ok free) ok.kind (fun y hy e => by rw [ok.uniq y hy, e]) ?_
  refine thn (hi.run pins s σ H _ I h) fun _ s1 hx => thn hx fun itv s2 ⟨it, fp, tn, J, H2, eit, I2, T, st2, f2, q⟩ => ?_
  subst eit
  refine wpAny_newObj_type (newEnv_comp ?_)
  -- the new dict stands at D
  generalize hD : s2.heap.objs.size = D
  have hDn : H2 D = none := I2.hok.fresh (Nat.le_of_eq hD)
  obtain ⟨W, ⟨m0, w0⟩, turn⟩ := q D hDn
  have Dsys : (D == sysModules) = false := by
    rw [← hD]
    exact (dk_empty (P := X.prog) (w := X.w) (H := H2) s2.heap I2.big).2.1
  generalize hs3 : ({ s2 with heap := s2.heap.push { cls := .type "dict", data := .dict #[] } } : Shared) = s3
  have h3 : s3.heap = s2.heap.push { cls := .type "dict", data := .dict #[] } := by
    rw [← hs3]
  have I3 : Inv X pins σ (upd H2 D (DNo X.prog X.w D [])) s3 := by
    subst hs3 hD
    exact I2.laid (t' := s2.toks) (fun _ _ e => Heap.get?_push_of_some _ e) (Nat.le_refl _) (nd_empty s2.heap Dsys)
  have lt2 : ∀ b ∈ fp, b < s2.heap.objs.size := fun b hb =>
    let ⟨_, e, _⟩ := T.obj _ _ st2 b hb
    Heap.lt_size e
  have f3 : ∀ b ∈ fp, FpOk X pins (upd H2 D (DNo X.prog X.w D [])) b ∧ b < s3.heap.objs.size := fun b hb => by
    have l := lt2 b hb
    constructor
    · refine ⟨?_, (f2 b hb).2⟩
      rw [upd_ne (Nat.ne_of_lt (hD ▸ l))]
      exact (f2 b hb).1
    · rw [h3, Heap.size_push]
      exact Nat.lt_succ_of_lt l
  have st3 : tn 0 s3.heap := T.keep _ _ _ st2 fun b _ o e => h3 ▸ Heap.get?_push_of_some _ e
  generalize hH3 : upd H2 D (DNo X.prog X.w D []) = H3 at I3 w0 f3
  -- the block's own context
  have I4 := block_start I3 ok hN f3
  have pg := hg s3 H3 s3.heap.objs.size (celsOf X scope s3) fp
  have pk := hk s3 H3 s3.heap.objs.size (celsOf X scope s3) fp
  have pv := he s3 H3 s3.heap.objs.size (celsOf X scope s3) fp
  have nfp : ∀ b ∈ fp, H3 b = none := fun b hb => (f3 b hb).1.1
  generalize hce : compEnvC scope (celsOf X scope s3) s3.heap.objs.size X.env = ce at I4 pg pk pv
  have cL : ce.locals = s3.heap.objs.size := hce ▸ rfl
  generalize hs4 : ({ s3 with heap := pushCells (s3.heap.push { cls := .type "dict", data := .dict #[] }) scope.names } : Shared) = s4 at I4
  have st4 : tn 0 s4.heap := T.keep _ _ _ st3 fun b _ o e => by
    rw [← hs4]
    exact pushCells_keeps _ _ _ _ (Heap.get?_push_of_some _ e)
  -- the iterator's objects within the block
  have quiet : ∀ {σ' : L2.St} {H' : Hp} {s' : Shared}, Inv (X.blk s3 H3 scope ce fp) [] σ' H' s' → (∀ b ∈ fp, H' b = none) → ∀ b ∈ fp, FpOk (X.blk s3 H3 scope ce fp) [] H' b :=
    fun I' hn b hb => by
      have x1 := I'.ok.exf b hb
      refine ⟨hn b hb, x1.1, I'.ok.exfs b hb, .inl hb, fun x c e => x1.2 x c e, fun p hp => ?_⟩
      cases hp
  let Lp : Nat → Shared → Prop := fun n s' => ∃ i H', Inv (X.blk s3 H3 scope ce fp) [] (wipe σ (own.map (·.2))) H' s' ∧ tn i s'.heap ∧ (∀ b ∈ fp, H' b = none) ∧ W i n H'
  suffices loop : codeAny (model X.prog X.w) X.A (.compLoop (.DictComp kx vx [⟨tg, iter, [], 0⟩] scope pos) 0 (.ref it) (.ref D) ce) (compPost (model X.prog X.w) X.A X.xe none (fun v s' => ∃ x H', Inv X pins σ H' s' ∧ RelV x v ∧ Q x H') (.ref D) s3.heap.objs.size) s4 by
    subst hs4 hce
    exact codeAny_compStart_dict loop (T.self X.A 0 _ _ _ st4 loop)
  refine compLoop_anyD Lp ?_ m0 ⟨0, H3, I4, st4, nfp, w0⟩
  rintro n s5 ⟨i, H5, I5, st5, n5, w5⟩
  rcases turn i n H5 w5 with ⟨stop, fin⟩ | ⟨go, Nx, hNx, step⟩
  · -- no more turns
    refine thnF (T.done (X.blk s3 H3 scope ce fp) rfl rfl rfl hc i [] s5 _ H5 (fun _ _ => False) I5 (quiet I5 n5) st5 stop) fun r s6 ⟨hr, I6⟩ => ?_
    subst hr
    have back : Inv X pins σ H5 s6 := I3.call' (ch := fp) I6.os I6.base I6.hok I6.bare fun b hb => by
      obtain ⟨_, a1, a2, a3, a4, a5⟩ := (f3 b hb).1
      exact ⟨a3, a1, a4, a5⟩
    have nC : H5 s3.heap.objs.size = none := cL ▸ (show H5 ce.locals = none from I6.free)
    obtain ⟨m, hn, _⟩ := I6.loc
    have hn' : s6.heap.Ns s3.heap.objs.size m := cL ▸ (show s6.heap.Ns ce.locals m from hn)
    obtain ⟨f0, f1, f2', f3', f4, f5⟩ := I3.fpOk (Nat.le_refl _) nC
    exact ⟨m, hn', fun h'' sb => ⟨.ref D, H5, back.turned (t' := s6.toks) (fun b o hb e => (sb.2 b hb).trans e) nC f1 f3' f4 f5, rfl, fin⟩⟩
  · refine thnF (T.item (X.blk s3 H3 scope ce fp) rfl rfl rfl hc i [] s5 _ H5 (fun _ _ => False) I5 (quiet I5 n5) st5 go) fun r s6 ⟨u, hr, h6⟩ => ?_
    subst hr
    refine thnF h6 fun _ s7 ⟨x, H7, I7, r7, y7, st7, n7⟩ => ?_
    have I8 := I7.pinned (quiet I7 n7) (T.obj _ _ st7)
    refine thnF (pg.run _ s7 _ H7 x u _ I8 r7 (step x H7 y7)) fun _ s8 ⟨σ8, H8, I9, hw8, q8⟩ => ?_
    refine thnF ((pts_nil (X := X.blk s3 H3 scope ce fp)).run _ s8 σ8 H8 (fun b H' => b = true ∧ tk σ8 H' fun y H3 => tv σ8 H3 fun z H4 => rDcPut X.prog X.w D Nx y z H4) I9 ⟨rfl, q8⟩) fun b s9 ⟨H9, I10, eb, q9⟩ => ?_
    subst eb
    rw [if_pos rfl]
    refine thnF (pk.run _ s9 σ8 H9 _ I10 q9) fun _ s10 ⟨yk, H10, I11, r10, q10⟩ => ?_
    refine thnF (pv.run _ s10 σ8 H10 _ I11 q10) fun _ s11 ⟨yv, H11, I12, r11, b, xs, k, ek, ND, hkey, hdep, hnone, hlen, nx⟩ => ?_
    subst ek
    cases r10
    refine nd_dictSet (X := X.blk s3 H3 scope ce fp) hu I12 ND hkey hdep hnone hlen r11 fun s12 I13 => ?_
    -- the turn's end
    obtain ⟨m', hm, w'⟩ := hNx _ nx
    have pin : ∀ b ∈ fp, ∃ o, s7.heap.get? b = some o ∧ s12.heap.get? b = some o ∧ (upd H11 D (DNo X.prog X.w D (xs ++ [(k, _, yv)]))) b = none := fun b hb => by
      obtain ⟨o, e, _⟩ := T.obj _ _ st7 b hb
      have z := I13.pin (b, o) (List.mem_append_right _ (List.mem_append_right _ (mem_pinsAt hb e)))
      exact ⟨o, e, z.1, z.2.1⟩
    refine ⟨m', hm, i + 1, _, I13.unpinned.weak (by rw [← hw8, wipe_length]) (fun j v e => ?_), T.keep _ _ _ st7 fun b hb o e => ?_, fun b hb => ?_, w'⟩
    · rw [← hw8] at e
      exact (wipe_some e).1
    · obtain ⟨o', e1, e2, _⟩ := pin b hb
      rw [e1] at e
      cases e
      exact e2
    · obtain ⟨_, _, _, z⟩ := pin b hb
      exact z
end
end K22

set_option Elab.async false
set_option linter.all false
set_option maxRecDepth 100000
set_option maxHeartbeats 1000000
namespace K22
open PySem PySem.Spec PyProof.Rows L2
/-! ### name = {k: v for ..} on one line -/
section
variable {X : Cx}
theorem swd_true {kx vx : PySem.Expr} {gs : List Comprehension} {scope : Scope} {pos py : Pos} {y : Str} {l : Nat} {env : Env} (hk : env.scope.kind = .function) (hy : env.scope.names.lookup y = some .local) (hl : (py.line == pos.line) = true)
    (ha : (scope.names.any fun (n, k) => n == y && (k == .local || k == .cell)) = false) : swapsWith (.DictComp kx vx gs scope pos) (some (.Name y py)) l env = pure true := by
  have e1 : env.kindOf y = some .local := hy
  have e2 : env.blockKind = .function := by
    unfold Env.blockKind
    rw [hk]
    rfl
  unfold swapsWith
  simp only [e2, e1, ha, Expr.pos, hl]
  rfl
theorem ps_setDc {i : Nat} {y : Str} {py : Pos} {kx vx tg iter : PySem.Expr} {ifs : List PySem.Expr} {scope : Scope} {own : List (Str × Nat)} {pos spos : Pos} {wi : TI} {g : TG} {tt : TT} {tk tv : TE}
    (hc : X.calm = true) (hN : X.N.Nodup) (hy : X.N[i]? = some y) (hyl : X.env.scope.names.lookup y = some .local)
    (hsw : swapsWith (.DictComp kx vx [⟨tg, iter, ifs, 0⟩] scope pos) (some (.Name y py)) spos.line X.env = pure true) (hi : PI X tg iter wi) (ok : BlkOk X.N X.env.scope scope own)
    (hg : ∀ (s : Shared) (H : Hp) (C : Addr) (cl : List (Str × Addr)) (fp : List Addr), PG (X.blk s H scope (compEnvC scope cl C X.env) fp) tg g)
    (ht : ∀ (s : Shared) (H : Hp) (C : Addr) (cl : List (Str × Addr)) (fp : List Addr), PTs (X.blk s H scope (compEnvC scope cl C X.env) fp) ifs tt)
    (hk : ∀ (s : Shared) (H : Hp) (C : Addr) (cl : List (Str × Addr)) (fp : List Addr), PE (X.blk s H scope (compEnvC scope cl C X.env) fp) kx tk)
    (he : ∀ (s : Shared) (H : Hp) (C : Addr) (cl : List (Str × Addr)) (fp : List Addr), PE (X.blk s H scope (compEnvC scope cl C X.env) fp) vx tv) (hs : ∀ x, foldedSetIterable iter X.env x = pure x := by intro _; rfl) :
    PS X (.Assign [.Name y py] (.DictComp kx vx [⟨tg, iter, ifs, 0⟩] scope pos) spos) (tAsg (tDc wi g tt tk tv (own.map (·.2))) (gName i)) := by
  refine ⟨fun pins s σ H D I h => ?_⟩
  rw [exec_Assign_Name_used _ _ _ _ hsw]
  have q : tDc wi g tt tk tv (own.map (·.2)) σ H (fun x H1 => gName i x σ H1 D.nx) := h
  refine wpAny_bind (wpAny_standAt (wpAny_bind (show wpAny _ X.A (do let _ ← comprehension (.DictComp kx vx [⟨tg, iter, ifs, 0⟩] scope pos) scope X.env (firstIterPos [⟨tg, iter, ifs, 0⟩] pos) newDict false (eval iter X.env) (some (assign (.Name y py) X.env))) _ _ s from ?_)))
  refine wpAny_bind (thn (dc_core (Qf := fun _ s' => SP X pins D .next s') hc hN I hi ok hg ht hk he hs q fun L C s' m H' J q hn f => ?_) fun _ s' hq => wpAny_pure (wpAny_pure hq))
  obtain ⟨f0, f1, f2, f3, f4, f5⟩ := f
  refine (show wpAny _ _ (assign (.Name y py) X.env (.ref L)) _ _ _ from wpAny_assign_Name (store_ok2 (v := V.ref L) J hN hy (.inl hyl) rfl (fun s2 I2 ⟨a, sb, ha⟩ => ?_) (.inr hyl)))
  have off : C ≠ a := ha.elim (fun z => z ▸ f1) fun z e => f4 y a z e.symm
  exact ⟨m, hn.sameBut sb off, fun h3 sb3 => ⟨_, H', I2.turned (t' := s2.toks) (fun b o hb e => (sb3.2 b hb).trans e) f0 f1 f3 f4 f5, q⟩⟩
end
/-- the steps of a dict comprehension -/
def rDcl (J : L2.It) (g : TG) (tt : TT) (tk tv : TE) (vs : List Nat) (σ : L2.St) (H1 : Hp) (Q : VK) : Prop :=
  ∀ D, H1 D = none → ∃ W : Nat → Nat → Hp → Prop, (∃ m, W 0 m (upd H1 D (.dK []))) ∧ ∀ i m H, W i m H →
    (J.stop i H ∧ Q (.ref D) H) ∨
    (J.go i H ∧ ∃ Nx : Hp → Prop, (∀ H', Nx H' → ∃ m', m' < m ∧ W (i + 1) m' H') ∧ ∀ x H', J.yld i H x H' → g x (wipe σ vs) H' fun σ2 H2 => wipe σ2 vs = wipe σ vs ∧ tt σ2 H2 fun b H3 =>
      if b = true then tk σ2 H3 fun y H4 => tv σ2 H4 fun z H5 => ∃ kvs k, y = kV k ∧ H5 D = some (.dK kvs) ∧ kvs.length < sizeLine ∧ Nx (upd H5 D (.dK (putK kvs k z))) else Nx H3)
def rDclL (K : PySem.W.Frag) (g : TG) (tt : TT) (tk tv : TE) (vs : List Nat) (σ : L2.St) (x : V) (H : Hp) (Q : VK) : Prop := ∃ a, x = .ref a ∧ (∃ xs, SqL K H a xs) ∧ rDcl (Itl K a) g tt tk tv vs σ H Q
/-- an entry put into the dict that is made -/
def rPutD (D : Addr) (N : Hp → Prop) (y z : V) (H : Hp) : Prop := ∃ kvs k, y = kV k ∧ H D = some (.dK kvs) ∧ kvs.length < sizeLine ∧ N (upd H D (.dK (putK kvs k z)))
def rTurnD (g : TG) (tt : TT) (tk tv : TE) (vs : List Nat) (σ : L2.St) (D : Addr) (N : Hp → Prop) (x : V) (H : Hp) : Prop := g x (wipe σ vs) H fun σ2 H2 => wipe σ2 vs = wipe σ vs ∧ tt σ2 H2 fun b H3 =>
  if b = true then tk σ2 H3 fun y H4 => tv σ2 H4 fun z H5 => rPutD D N y z H5 else N H3
section
variable {σ : L2.St} {H : Hp} {Q : VK} {g : TG} {tt : TT} {tk tv : TE} {vs : List Nat} {K : PySem.W.Frag}
theorem g_dcL {tx : TE} (q : tx σ H fun x H1 => rDclL K g tt tk tv vs σ x H1 Q) : tDc (iList K tx) g tt tk tv vs σ H Q := q
theorem g_rdcL {a : Addr} {xs : List V} (h : SqL K H a xs) (k : ∀ E, H E = none → ∃ Pv : Nat → Hp → Prop, Pv 0 (upd H E (.dK [])) ∧ (∀ i H', i ≤ xs.length → Pv i H' → SqL K H' a xs) ∧
    (∀ i y H', xs[i]? = some y → Pv i H' → rTurnD g tt tk tv vs σ E (Pv (i + 1)) y H') ∧ ∀ H', Pv xs.length H' → Q (.ref E) H') : rDclL K g tt tk tv vs σ (.ref a) H Q := by
  refine ⟨a, rfl, ⟨xs, h⟩, fun E hE => ?_⟩
  obtain ⟨Pv, h0, hl, hs, hd⟩ := k E hE
  refine ⟨fun i m H' => m = xs.length - i ∧ i ≤ xs.length ∧ Pv i H', ⟨xs.length, rfl, Nat.zero_le _, h0⟩, ?_⟩
  rintro i m H' ⟨rfl, hi, p⟩
  have q := hl i H' hi p
  by_cases lt : i < xs.length
  · refine .inr ⟨⟨xs, xs[i], q, List.getElem?_eq_getElem lt⟩, Pv (i + 1), fun H2 p2 => ⟨xs.length - (i + 1), by omega, rfl, lt, p2⟩, fun x H2 y => ?_⟩
    obtain ⟨e, y⟩ := y
    subst e
    exact hs i x _ (y xs q) p
  · cases (show i = xs.length by omega)
    exact .inl ⟨⟨xs, q, Nat.le_refl _⟩, hd H' p⟩
theorem g_turnD {i : Nat} {E : Addr} {N : Hp → Prop} {y : V} (hw : wipe ((wipe σ vs).set i (some y)) vs = wipe σ vs)
    (q : tt ((wipe σ vs).set i (some y)) H fun b H3 => if b = true then tk ((wipe σ vs).set i (some y)) H3 fun k H4 => tv ((wipe σ vs).set i (some y)) H4 fun z H5 => rPutD E N k z H5 else N H3) : rTurnD (gName i) tt tk tv vs σ E N y H := ⟨hw, q⟩
theorem g_putD {E : Addr} {N : Hp → Prop} {kvs : List (Key × V)} {k : Key} {z : V} (h : H E = some (.dK kvs)) (l : kvs.length < sizeLine) (q : N (upd H E (.dK (putK kvs k z)))) : rPutD E N (kV k) z H := ⟨kvs, k, rfl, h, l, q⟩
end
end K22

set_option Elab.async false
set_option linter.all false
set_option maxRecDepth 100000
set_option maxHeartbeats 3200000
namespace K22
open PySem PySem.Spec PyProof.Rows L2
/-! ### set(xs), xs a list of ints: a set that can be walked -/
section
variable {prog : Program} {w : World} {A : Around} {E : Value → Shared → Prop} {s : Shared}
theorem mem_take_succ {ns : List Int} {i : Nat} {x k : Int} (h : ns[i]? = some x) : decide (k ∈ ns.take (i + 1)) = (decide (k ∈ ns.take i) || decide (k = x)) := by
  rw [take_snoc h]
  simp
/-- the loop that adds the items, one by one -/
theorem setR_loop {R : Result → Shared → Prop} {I : Addr} {fp wr : List Addr} {G : Array GenState → Array GenState → Prop} {n : Nat} {Pv : Nat → Value → Prop} {St : Nat → Shared → Prop}
    (W : WalksS prog w A.in1 I fp wr G n Pv St) {S : Addr} (off : S ∉ fp) {ns : List Int} (hval : ∀ i v, Pv i v → ∃ t x, ns[i]? = some x ∧ v = .int x t) (hb : n + 1 < scanBound) :
    ∀ (k i m : Nat) (s : Shared), n - i = k → i ≤ n → m ≤ i → St i s → SetR w s.heap S (fun j => decide (j ∈ ns.take i)) m →
      (∀ s' m, Moved (S :: wr) G s s' → SetR w s'.heap S (fun j => decide (j ∈ ns.take n)) m → m ≤ n → R (.ok (.ret .none)) s') →
      codeAny (model prog w) A (.builtin "set.update.loop" ⟨[.ref S, .ref I], []⟩) R s := by
  have offw : S ∉ wr := fun h => off (W.sub _ h)
  have up : ∀ b ∈ wr, b ∈ S :: wr := fun b h => List.mem_cons_of_mem _ h
  intro k
  induction k with
  | zero =>
    intro i m s hk hi hm hst hS hR
    cases (show i = n by omega)
    refine codeAny_builtin F.entry_set_update_loop (Around.under_plainId F.plain_set_update_loop _ ▸ ?_)
    refine (show wpAny _ A.in1 (pyNext (.ref I) >>= _) _ _ s from wpAny_bind (W.done s _ _ hst fun s' mv => ?_))
    exact (show wpAny _ A.in1 (ret Value.none) _ _ s' from wpAny_pure (hR s' m (mv.mono up) (hS.at fun o e => mv.heap S _ offw e) hm))
  | succ k ih =>
    intro i m s hk hi hm hst hS hR
    have lt : i < n := by omega
    refine codeAny_builtin F.entry_set_update_loop (Around.under_plainId F.plain_set_update_loop _ ▸ ?_)
    refine (show wpAny _ A.in1 (pyNext (.ref I) >>= _) _ _ s from wpAny_bind (W.item i s _ _ lt hst fun v s' hv hst' mv => ?_))
    obtain ⟨t, x, hx, rfl⟩ := hval i v hv
    have hS' := hS.at fun o e => mv.heap S _ offw e
    refine (show wpAny _ A.in1 (holding [Value.int x t] (setAdd S (.int x t)) >>= _) _ _ s' from wpAny_bind (wpAny_holding ?_))
    unfold setAdd
    refine wpAny_holding (wpAny_bind ((intKind prog w).pyHash (k := x) (intKind_is _ _ _ _) ?_))
    refine setR_add_hashed (s := { s' with toks := s'.toks + 1 }) hS' (by omega) fun h' sb hS2 => ?_
    have hS3 := hS2.congr (S' := fun j => decide (j ∈ ns.take (i + 1))) fun j => mem_take_succ hx
    refine wpAny_pure ⟨plainId_quiet F.plain_set_update_loop _, ih (i + 1) _ _ (by omega) lt (by split <;> omega) (W.frame _ s' _ _ hst' (Nat.le_succ _) fun b hb o e => ?_) hS3 fun s2 m2 mv2 => hR s2 m2 (Moved.trans W.gtrans ((mv.mono up).then_heap (Nat.le_succ _) fun b o hb e => ?_) mv2)⟩
    · exact (sb.2 b fun h => off (h ▸ hb)).trans e
    · exact (sb.2 b fun h => hb (h ▸ List.mem_cons_self)).trans e
theorem code_setR_new (a : Value) {Q₁ : Value → Shared → Prop}
    (h : Q₁ (.ref s.heap.objs.size) { s with heap := s.heap.push { cls := .type "set", dict := none, data := .set #[] 0 (.fresh 0 0 (!w.params.followText "set-order")) } }) :
    codeAny (model prog w) A (.call (.builtin "set.__new__") ⟨[.type "set", a], []⟩) (wants Q₁ E) s := by
  refine codeAny_of_tree (show wpAny _ A.in1 (do checkBuiltinCall "set.__new__" ⟨[.type "set", a], []⟩; again (.builtin "set.__new__" ⟨[.type "set", a], []⟩)) _ _ s from ?_)
  refine wpAny_bind (wpAny_of_eq (F.newCall_set_1 a) (wpAny_pure ⟨plainId_quiet F.plain_set_new _, codeAny_builtin F.entry_set_new (Around.under_plainId F.plain_set_new _ ▸ ?_)⟩))
  have sub := sub_set_self
  unfold Builtin.«set.__new__» Builtin.Frozenset.newClass
  obtain ⟨hp, g, d, tk, os⟩ := s
  dsimp only
  wp_walk
  refine wpAny_askSetting (wpAny_pure ?_)
  dsimp only
  simp only [newObj]
  exact wpAny_bind (wpAny_alloc (wpAny_pure (wpAny_pure h)))
abbrev set0 (w : World) : Obj := { cls := .type "set", dict := none, data := .set #[] 0 (.fresh 0 0 (!w.params.followText "set-order")) }
set_option maxRecDepth 100000 in
theorem setR_list {l : Addr} {items : Array Value} {ns : List Int} {Q : Value → Shared → Prop} (hh : A.handled = none) (hl : s.heap.IsList l items) (hi : IntsAre items.toList ns) (hb : items.size + 1 < scanBound)
    (h : ∀ (h' : Heap) (tk m : Nat), SetR w h' s.heap.objs.size (fun j => decide (j ∈ ns)) m → m ≤ ns.length → (∀ b o, b < s.heap.objs.size → s.heap.get? b = some o → h'.get? b = some o) → Q (.ref s.heap.objs.size) { s with heap := h', toks := tk }) :
    wpAny (model prog w) A (call (.type "set") [.ref l]) Q E s := by
  have hlen : items.size = ns.length := by
    rw [← Array.length_toList]
    exact IntsAre.length hi
  have hmade := F.called_set.made; have hsub := F.called_set.sub; have h1 := F.called_set.notType; have h2 := F.called_set.canCreate; have hct := F.typeCall_set_1 (.ref l)
  obtain ⟨c, tl, hmro⟩ := F.called_set.mro
  refine wpAny_call (codeAny_of_tree (show wpAny _ _ (callAny (.type "set") _) _ _ _ from wpAny_pure ⟨Code.quiet_builtin _ (by decide +kernel), codeAny_builtin F.entry_type_call (Around.under_plain (weight_type_call_type "set" [.ref l] []) rfl ▸ ?_)⟩))
  repeat (any_goals (first | assumption | wp_step))
  refine codeAny_mono (code_setR_new (w := w) (.ref l) (E := E) (Q₁ := fun obj s1 => obj = .ref s.heap.objs.size ∧ s1 = { s with heap := s.heap.push (set0 w) }) ⟨rfl, rfl⟩) fun r s1 hr => ?_
  match r, hr with
  | .error _, hr => exact hr
  | .ok .next, hr | .ok .brk, hr | .ok .cont, hr => exact hr.elim
  | .ok (.ret obj), hr =>
    obtain ⟨rfl, rfl⟩ := hr
    have hS : (s.heap.push (set0 w)).get? s.heap.objs.size = some (set0 w) := Heap.get?_push_size _ rfl
    have hT : Shared.TypeIs { s with heap := s.heap.push (set0 w) } (.ref s.heap.objs.size) "set" := ⟨_, hS, rfl⟩
    have hli := F.called_set.init.lookup; have hbi := F.called_set.init.bind (.ref s.heap.objs.size)
    repeat (any_goals (first | assumption | wp_step))
    refine codeAny_mono (codeAny_call_builtin (R := wants (fun r s2 => r = .none ∧ ∃ h' tk m, s2 = { s with heap := h', toks := tk } ∧ SetR w h' s.heap.objs.size (fun j => decide (j ∈ ns)) m ∧ m ≤ ns.length ∧
      ∀ b o, b < s.heap.objs.size → s.heap.get? b = some o → h'.get? b = some o) E) F.called_set.init.plain F.entry_set_init (check_set_init_1 hT ?_)) fun r2 s2 hr2 => ?_
    · obtain ⟨ol, hol, hcl, nl, hdl⟩ := hl
      obtain ⟨ocls, odict, odata, oslots⟩ := ol
      simp only at hcl hdl
      subst hcl hdl
      have hol' : (s.heap.push (set0 w)).get? l = some { cls := .type "list", dict := odict, data := .seq items nl, slots := oslots } := Heap.get?_push_of_some _ hol
      have hsls := F.sub_list_set; have hslf := F.sub_list_frozenset
      have hne : (Value.type "list" == Value.type "dict") = false := by decide
      have hl1 : (s.heap.push (set0 w)).IsList l items := ⟨_, hol', rfl, nl, rfl⟩
      unfold Builtin.«set.__init__» noKeywords Builtin.Frozenset.updateFrom
      generalize hPI : pyIter = PI
      wp_walk
      subst hPI
      refine wpAny_pyIter_list hl1 (wpAny_bind (wpAny_runValue ?_))
      have lS : l < s.heap.objs.size := Heap.lt_size hol
      have hh3 : A.in1.in1.in1.handled = none := by simp [hh]
      have e1 : (s.heap.push (set0 w)).objs.size = s.heap.objs.size + 1 := Heap.size_push _ _
      have hneI : l ≠ (s.heap.push (set0 w)).objs.size := by
        rw [e1]
        exact Nat.ne_of_lt (Nat.lt_succ_of_lt lS)
      have off : s.heap.objs.size ∉ [(s.heap.push (set0 w)).objs.size, l] := by
        rw [e1]
        simp only [List.mem_cons, List.mem_singleton, List.not_mem_nil, or_false, not_or]
        exact ⟨Nat.ne_of_lt (Nat.lt_succ_self _), Nat.ne_of_gt lS⟩
      have hval : ∀ (i : Nat) (v : Value), items[i]? = some v → ∃ t x, ns[i]? = some x ∧ v = .int x t := fun i v hv => by
        have hlt : i < ns.length := by
          rw [← hlen]
          exact (Array.getElem?_eq_some_iff.mp hv).1
        obtain ⟨t, e⟩ := IntsAre.int_at hi i v (by rw [Array.getElem?_toList]; exact hv)
        exact ⟨t, ns[i], List.getElem?_eq_getElem hlt, by rw [e, List.getD_eq_getElem?_getD, List.getElem?_eq_getElem hlt]; rfl⟩
      refine setR_loop ((Walks.list hh3 _ l hneI items).toS) (S := s.heap.objs.size) off hval hb (items.size - 0) 0 0 _ (by omega) (Nat.zero_le _) (Nat.le_refl _) ⟨⟨_, Heap.get?_push_size _ rfl, rfl, rfl⟩, (hl1.push _)⟩ ?_ ?_
      · have r0 : SetR w (s.heap.push (set0 w)) s.heap.objs.size (fun _ => false) 0 := setR_fresh w
        exact (r0.at fun o e => Heap.get?_push_of_some _ e).congr fun k => by simp
      · intro s' m mv hS' hm
        rw [hlen, List.take_length] at hS'
        obtain ⟨h', g', d', tk', os'⟩ := s'
        cases (show g' = s.gens from mv.gens)
        cases (show d' = s.drawn from mv.drawn)
        cases (show os' = s.os from mv.os)
        refine (show wpAny _ _ _ _ _ _ from wpAny_pure (show wpAny _ _ (ret Value.none) _ _ _ from wpAny_pure ⟨rfl, h', tk', m, rfl, hS', by omega, fun b o hb e => ?_⟩))
        refine mv.heap b o ?_ (Heap.get?_push_of_some _ (Heap.get?_push_of_some _ e))
        simp only [List.mem_cons, List.mem_singleton, List.not_mem_nil, or_false, not_or]
        refine ⟨Nat.ne_of_lt hb, ?_⟩
        rw [e1]
        exact Nat.ne_of_lt (Nat.lt_succ_of_lt hb)
    · match r2, hr2 with
      | .error _, hr2 => exact hr2
      | .ok .next, hr2 | .ok .brk, hr2 | .ok .cont, hr2 => exact hr2.elim
      | .ok (.ret r), hr2 =>
        obtain ⟨rfl, h', tk, m, rfl, hS', hm, hk'⟩ := hr2
        repeat (any_goals (first | assumption | wp_step))
        exact h _ _ _ hS' hm hk'
/-- set(xs) -/
def rSetL (K : PySem.W.Frag) (w : World) : List V → Hp → VK → Prop := fun vs H Q => ∃ (a : Addr) (ns : List Int), vs = [.ref a] ∧ SqL K H a (ns.map V.int) ∧ ns.length < 60 ∧ ∀ p m, H p = none → m ≤ ns.length → Q (.ref p) (upd H p (SetO w p (fun j => decide (j ∈ ns)) m))
theorem cr_setL {X : Cx} (hc : X.calm = true) : CallR X (.type "set") (rSetL X.K X.w) := by
  intro pins s σ H vs us Q I r h
  obtain ⟨a, ns, rfl, hs, h60, q⟩ := h
  obtain ⟨its, rv, hl, hz⟩ := I.list hs
  rw [Vals.ref1 r]
  have e : its.toArray.size = ns.length := by
    rw [List.size_toArray, ← rv.length, List.length_map]
  refine setR_list (I.ok.hd hc) hl.isList (ns := ns) (by simpa using rv.ints) (by unfold scanBound; omega) fun h' tk m R hm hk => ?_
  have ho : ∃ o, h'.get? s.heap.objs.size = some o := by
    have ⟨o, _, _, _, ho, _⟩ := R
    exact ⟨o, ho⟩
  exact ⟨.ref _, _, I.laid (t' := tk) (fun b u e => hk b u (Heap.lt_size e) e) (Nat.le_refl _) (setO_new R), rfl, q _ m (I.hok.fresh (Nat.le_refl _)) hm⟩
end
end K22

set_option Elab.async false
set_option linter.all false
set_option maxRecDepth 100000
set_option maxHeartbeats 4000000
namespace K22
open PySem PySem.Spec PyProof.Rows L2
local macro_rules | `(tactic| walk_at "go1") => `(tactic| with_reducible first
  | refine g_seq ?_ | refine g_asg ?_ | refine g_name ?_ | refine g_c ?_ | refine g_op ?_ | refine g_cons ?_ | refine g_nil ?_ | refine g_cb ?_ | refine g_call ?_ | refine g_meth ?_
  | refine g_I0 ?_ | refine g_ret ?_ | refine g_retN ?_ | refine g_drop ?_ | refine g_if ?_ | refine g_test ?_ | refine g_tB ?_ | refine g_bool ?_
  | refine g_not ?_ | refine g_and ?_ | refine g_or ?_ | refine g_yes ?_ | refine g_tup ?_ | refine g_lst ?_ | refine g_slice ?_ | refine g_part ?_ | refine g_nopart ?_ | refine g_int ?_ | refine g_fld ?_ | refine g_dget ?_
  | refine g_din ?_ | refine g_dnotin ?_ | refine g_bm0 ?_ | refine g_bm ?_ | refine g_ifexp ?_ | refine g_andv ?_ | refine g_orv ?_ | refine g_notv ?_ | refine g_chain ?_ | refine g_U ?_ | refine g_next ?_ | refine g_brk ?_ | refine g_cont ?_
  | refine g_sfld ?_ | refine g_sdput ?_ | refine g_gtup ?_ | refine g_gcons ?_ | refine g_gnil ?_ | refine g_gsub ?_ | refine g_forT ?_ | refine g_forL ?_ | refine g_forR ?_ | refine g_lcT ?_ | refine g_lcL ?_ | refine g_lcR ?_ | refine g_un ?_ | refine g_sfa ?_ | refine g_ip ?_ | refine g_addI ?_ | refine g_subI ?_
  | (show Ends.nx _ _ _; refine g_nxm ?_) | (show Ends.rt _ _ _; refine g_rtm ?_) | (show Ends.bk _ _ _; refine g_bkm ?_) | (show Ends.ct _ _ _; refine g_ctm ?_))
local macro_rules | `(tactic| walk_at "go2") => `(tactic| first
  | ((with_reducible show tVar _ _ _ _); refine g_var rfl ?_)
  | ((with_reducible show rEq _ _ _ _); refine g_eq rfl ?_)
  | ((with_reducible show rNe _ _ _ _); refine g_ne rfl ?_)
  | ((with_reducible show tAug _ _ _ _ _ _); refine g_aug rfl ?_))
local macro_rules | `(tactic| walk_at "go") => `(tactic| repeat (first | walk_at "go1" | walk_at "go2"))
section
variable {P : Program} {w : World} {K : PySem.W.Frag} {mg : Str → Option Value} {base : Heap}
/-! ### parts_in -/
def spPartsIn : Sp := fun vs H Q _ => ∃ (a : Addr) (f : F), vs = [.ref a] ∧ FA H f a ∧ ∀ p as H', H p = none → Same H H' → H' p = some (.lst (as.map V.ref)) → FAs H' f.kids as → Q (.ref p) H'
/-- the statements among the items -/
def itKids : List It → List F
  | [] => []
  | .n _ :: r => itKids r
  | .f g :: r => g :: itKids r
theorem itKids_its (f : F) : itKids f.its = f.kids := by cases f <;> rfl
theorem itKids_snoc (g : F) : ∀ is : List It, itKids (is ++ [.f g]) = itKids is ++ [g]
  | [] => rfl
  | .n _ :: r => itKids_snoc g r
  | .f h :: r => congrArg (h :: ·) (itKids_snoc g r)
theorem itKids_snoc_n (i : Int) : ∀ is : List It, itKids (is ++ [.n i]) = itKids is
  | [] => rfl
  | .n _ :: r => itKids_snoc_n i r
  | .f h :: r => congrArg (h :: ·) (itKids_snoc_n i r)
theorem itKids_len : ∀ is : List It, (itKids is).length ≤ is.length
  | [] => Nat.le_refl _
  | .n _ :: r => Nat.le_succ_of_le (itKids_len r)
  | .f _ :: r => Nat.succ_le_succ (itKids_len r)
theorem mem_itKids {g : F} : ∀ {is : List It}, It.f g ∈ is → g ∈ itKids is
  | .n _ :: r, h => mem_itKids (is := r) ((List.mem_cons.mp h).resolve_left fun z => nomatch z)
  | .f k :: r, h => by
    rcases List.mem_cons.mp h with e | h
    · cases e
      exact List.mem_cons_self
    · exact List.mem_cons_of_mem _ (mem_itKids h)
-- slots of parts_in: 0:statement 1:part
abbrev n_parts_in : List Str := ["statement", "part"]
theorem sc_parts_in : FnScope n_parts_in p_parts_in (defScope s_parts_in) := ⟨rfl, rfl, rfl, by decide +kernel, rfl, by decide +kernel, by decide +kernel⟩
theorem ok_parts_in (T : Top w K mg) : Ok P w K mg base 1 a_parts_in p_parts_in spPartsIn := by
  refine T.F_parts_in.ok sc_parts_in (fun vs H Q E h => ?_) (fun cdv A outer s H vs Q E hr h => ?_)
  · obtain ⟨a, f, rfl, _⟩ := h
    rfl
  · obtain ⟨a, f, rfl, hf, k⟩ := h
    refine ⟨_, PSs.nox (pss_one (ps_ret (pe_lc (own := [("part", 1)]) (g := gName 1) rfl sc_parts_in.nd (kpi_tup K (pe_slice (ks_tup K) (pv 0) (po_some pe_int) po_none)) (blkOk_by (N := n_parts_in) (sc := (defScope s_parts_in)) (by decide +kernel)) (fun _ _ _ _ _ => (pg_name (i := 1) sc_parts_in.nd rfl (Or.inl rfl))) (fun _ _ _ _ _ => (pts_one (pt_val (pe_callB (kc_isi K) (by rfl) T.z_isinstance bt_isinstance (pa_cons (pv 1) (pa_cons (pe_tyn (by rfl) T.z_tuple bt_tuple) pa_nil)))))) (fun _ _ _ _ _ => (pv 1))))), ?_⟩
    obtain ⟨ys, e, hi⟩ := hf.tup
    walk_at "go"
    refine slice1 e fun p hp => ?_
    have s1 := same_new (o := .tup ys) hp
    refine g_rlcT (SqT.of upd_same) fun D hD => ?_
    have nD : p ≠ D := ne_of_none upd_same hD
    have s2 := s1.new (o := .lst []) hD
    refine ⟨fun i H2 => ∃ as, Same H H2 ∧ H2 p = some (.tup ys) ∧ H2 D = some (.lst (as.map V.ref)) ∧ FAs H2 (itKids (f.its.take i)) as, ⟨[], s2, by rw [upd_ne nD]; exact upd_same, upd_same, .nil⟩, fun i H2 _ ⟨_, _, z, _⟩ => SqT.of z, ?_, ?_⟩
    · rintro i y H2 hy ⟨as, s3, hp3, hD3, hk⟩
      obtain ⟨it, hit, hv⟩ := Pd.get (Its.mono s3 hi) hy
      refine g_turn rfl ?_
      walk_at "go"
      refine isi_item hv ?_
      walk_at "go"
      cases it with
      | n z =>
        refine iteF ⟨as, s3, hp3, hD3, ?_⟩
        rw [take_snoc hit, itKids_snoc_n]
        exact hk
      | f g =>
        obtain ⟨u, rfl, hu⟩ := hv
        refine iteT ?_
        walk_at "go"
        have z := Paired.length hk
        have z1 := itKids_len (f.its.take i)
        have z2 := its_len f
        have z3 := List.length_take_le' i f.its
        refine g_add hD3 (lt_line (by rw [List.length_map]; omega)) ⟨as ++ [u], s3.mut (s1.free hD), by rw [upd_ne nD]; exact hp3, by rw [upd_same]; simp, ?_⟩
        rw [take_snoc hit, itKids_snoc]
        exact FAs.monoT (SameT.lst hD3) (Pd.snoc hu hk)
    · rintro H2 ⟨as, s3, hp3, hD3, hk⟩
      rw [List.take_of_length_le (by rw [Paired.length hi]; exact Nat.le_refl _), itKids_its] at hk
      exact k D as H2 (s1.free hD) s3 hD3 hk
/-! ### dual -/
def F.dual : F → F
  | .const b => .const (!b)
  | .fact b p => .fact (!b) p
  | .var x => .var x
  | .bin b f g => .bin (!b) f.dual g.dual
  | .mod b l f => .mod (!b) l f.dual
  | .fix b x f => .fix (!b) x f.dual
def F.ht : F → Nat
  | .bin _ f g => max f.ht g.ht + 1
  | .mod _ _ f => f.ht + 1
  | .fix _ _ f => f.ht + 1
  | _ => 0
def mapIt (g : F → F) : It → It
  | .n i => .n i
  | .f h => .f (g h)
theorem F.dual_its (f : F) : f.dual.its = f.its.map (mapIt F.dual) := by cases f <;> rfl
theorem kid_ht {f g : F} (h : It.f g ∈ f.its) : g.ht < f.ht := by
  cases f <;> simp [F.its] at h <;> simp only [F.ht]
  · rcases h with h | h <;> subst h <;> omega
  · subst h
    omega
  · subst h
    omega
theorem Top.opp (T : Top w K mg) (f : F) : KDct K w (He.ga K "OPPOSITES") f.kind (.str f.dual.kind) := by
  obtain ⟨es, n, D⟩ := T.c.tab 0 (t := (fun K => He.ga K "OPPOSITES", oppT.map (·.1))) rfl
  have hv := (He.ba (He.ba T.e).2).1
  have key : ∀ q ∈ oppT, KDct K w (He.ga K "OPPOSITES") q.1 (q.2.v K) := fun q hq => by
    obtain ⟨u, e, r⟩ := He.valsB_ok hv hq
    exact ⟨es, n, u, D.at_, D.lit, e, r⟩
  cases f with
  | const b => cases b with
    | true => exact key ("true", .str "false") (by simp [oppT])
    | false => exact key ("false", .str "true") (by simp [oppT])
  | fact b p => cases b with
    | true => exact key ("has", .str "lacks") (by simp [oppT])
    | false => exact key ("lacks", .str "has") (by simp [oppT])
  | var x => exact key ("var", .str "var") (by simp [oppT])
  | bin b f g => cases b with
    | true => exact key ("and", .str "or") (by simp [oppT])
    | false => exact key ("or", .str "and") (by simp [oppT])
  | mod b l f => cases b with
    | true => exact key ("all", .str "some") (by simp [oppT])
    | false => exact key ("some", .str "all") (by simp [oppT])
  | fix b x f => cases b with
    | true => exact key ("most", .str "least") (by simp [oppT])
    | false => exact key ("least", .str "most") (by simp [oppT])
theorem ok_none {k : Nat} {f : Addr} {fd : FuncData} {ps : List Str} {sp : Sp} (no : ∀ vs H Q E, ¬ sp vs H Q E) : FnOk P w K mg base CX0 k f fd ps sp :=
  ⟨fun vs H Q E h => absurd h (no vs H Q E), fun A outer s H args us vs Q E _ _ _ _ h => absurd h (no vs H Q E)⟩
def spDual (n : Nat) : Sp := fun vs H Q _ => ∃ (a : Addr) (f : F), vs = [.ref a] ∧ FA H f a ∧ f.ht < n ∧ ∀ p H', Same H H' → FA H' f.dual p → Q (.ref p) H'
-- slots of dual: 0:statement 1:found 2:part
abbrev n_dual : List Str := ["statement", "found", "part"]
theorem sc_dual : FnScope n_dual p_dual (defScope s_dual) := ⟨rfl, rfl, rfl, by decide +kernel, rfl, by decide +kernel, by decide +kernel⟩
theorem ok_dual (T : Top w K mg) (n : Nat) : Ok P w K mg base n a_dual p_dual (spDual n) := by
  induction n with
  | zero => exact ok_none fun vs H Q E ⟨a, f, _, _, h, _⟩ => absurd h (Nat.not_lt_zero _)
  | succ n G_dual =>
    refine T.F_dual.ok sc_dual (fun vs H Q E h => ?_) (fun cdv A outer s H vs Q E hr h => ?_)
    · obtain ⟨a, f, rfl, _⟩ := h
      rfl
    · obtain ⟨a, f, rfl, hf, hn, k⟩ := h
      refine ⟨_, PSs.nox (pss_cons (ps_set (i := 1) sc_dual.nd rfl (Or.inl rfl) (pe_lst (pa_cons (pe_ix ix_kdict (pe_gref (by rfl) T.g_OPPOSITES) (pe_ix (ki_tup K) (pv 0) pe_int (fun _ _ => rfl)) (fun _ _ => rfl)) pa_nil)))
    (pss_cons (ps_for PassesOwn.never rfl (kpi_tup K (pe_slice (ks_tup K) (pv 0) (po_some pe_int) po_none)) (pg_name (i := 2) sc_dual.nd rfl (Or.inl rfl)) (pss_one (ps_if (pt_val (pe_callB (kc_isi K) (by rfl) T.z_isinstance bt_isinstance (pa_cons (pv 2) (pa_cons (pe_tyn (by rfl) T.z_tuple bt_tuple) pa_nil)))) (pss_one (ps_expr (kpe_app K (pv 1) (pe_call G_dual (hr.mono (by omega)) rfl T.g_dual T.F_dual.kp T.b_dual .nil pass0 (pa_cons (pv 2) pa_nil))))) (pss_one (ps_expr (kpe_app K (pv 1) (pv 2)))))))
    (pss_one (ps_ret (pe_callTy (kc_tuple K) (by rfl) T.z_tuple bt_tuple (pa_cons (pv 1) pa_nil)))))), ?_⟩
      obtain ⟨ys, e, hi⟩ := hf.tup
      walk_at "go"
      refine g_ixT (SqT.of e) at0 ?_
      refine ⟨_, _, _, rfl, rfl, T.opp f, ?_⟩
      walk_at "go"
      refine g_newL 1 rfl (by decide) fun l hl => ?_
      walk_at "go"
      have s1 := same_new (o := .lst [.str f.dual.kind]) hl
      refine slice1 (s1 _ _ e) fun p hp => ?_
      have npl : p ≠ l := (ne_of_none upd_same hp).symm
      have nl : l ≠ p := npl.symm
      refine g_rforT (SqT.of upd_same) (fun i σ' H2 => ∃ zs v, σ' = [some (.ref a), some (.ref l), v] ∧ Same H H2 ∧ H2 p = some (.tup ys) ∧ H2 l = some (.lst (.str f.dual.kind :: zs)) ∧ Paired (ItV H2) ((f.its.take i).map (mapIt F.dual)) zs)
        ⟨[], none, rfl, (s1.new hp), upd_same, by rw [upd_ne nl]; exact upd_same, .nil⟩ (fun i _ H2 _ ⟨_, _, _, _, z, _⟩ => SqT.of z) ?_ ?_
      · rintro i y σ' H2 hy ⟨zs, v, rfl, s2, hp2, hl2, hz⟩
        obtain ⟨it, hit, hv⟩ := Pd.get (Its.mono s2 hi) hy
        have z0 := Paired.length hz
        have z1 := List.length_take_le' i f.its
        have z2 := its_len f
        rw [List.length_map] at z0
        walk_at "go"
        refine isi_item hv ?_
        walk_at "go"
        cases it with
        | n z =>
          refine iteF ?_
          walk_at "go"
          refine g_tyL (SqL.of hl2) ?_
          walk_at "go"
          refine g_app hl2 (lt_line (by rw [List.length_cons]; omega)) ?_
          refine ⟨zs ++ [y], _, rfl, s2.mut hl, by rw [upd_ne npl]; exact hp2, by rw [upd_same]; rfl, ?_⟩
          rw [take_snoc hit, List.map_append]
          exact Its.monoT (SameT.lst hl2) (Pd.snoc hv hz)
        | f g =>
          obtain ⟨u, rfl, hu⟩ := hv
          refine iteT ?_
          walk_at "go"
          refine g_tyL (SqL.of hl2) ?_
          walk_at "go"
          have := kid_ht (List.mem_of_getElem? hit)
          refine ⟨u, g, rfl, hu, by omega, fun q H3 s3 hq => ?_⟩
          have hl3 := s3 _ _ hl2
          walk_at "go"
          refine g_app hl3 (lt_line (by rw [List.length_cons]; omega)) ?_
          refine ⟨zs ++ [.ref q], _, rfl, (s2.trans s3).mut hl, by rw [upd_ne npl]; exact s3 _ _ hp2, by rw [upd_same]; rfl, ?_⟩
          rw [take_snoc hit, List.map_append]
          exact Its.monoT (SameT.lst hl3) (Pd.snoc ⟨q, rfl, hq⟩ (Its.mono s3 hz))
      · rintro σ' H2 ⟨zs, v, rfl, s2, hp2, hl2, hz⟩
        rw [List.take_of_length_le (by rw [Paired.length hi]; exact Nat.le_refl _), ← F.dual_its] at hz
        walk_at "go"
        refine g_tupL hl2 fun q hq => ?_
        walk_at "go"
        exact k q _ (s2.new hq) (FA.of upd_same (Its.mono (same_new hq) hz))
end
end K22

set_option Elab.async false
set_option linter.all false
set_option maxRecDepth 100000
set_option maxHeartbeats 4000000
namespace K22
open PySem PySem.Spec PyProof.Rows L2
local macro_rules | `(tactic| walk_at "go1") => `(tactic| with_reducible first
  | refine g_seq ?_ | refine g_asg ?_ | refine g_name ?_ | refine g_c ?_ | refine g_op ?_ | refine g_cons ?_ | refine g_nil ?_ | refine g_cb ?_ | refine g_call ?_ | refine g_meth ?_
  | refine g_I0 ?_ | refine g_ret ?_ | refine g_retN ?_ | refine g_drop ?_ | refine g_if ?_ | refine g_test ?_ | refine g_tB ?_ | refine g_bool ?_
  | refine g_not ?_ | refine g_and ?_ | refine g_or ?_ | refine g_yes ?_ | refine g_tup ?_ | refine g_lst ?_ | refine g_slice ?_ | refine g_part ?_ | refine g_nopart ?_ | refine g_int ?_ | refine g_fld ?_ | refine g_dget ?_
  | refine g_din ?_ | refine g_dnotin ?_ | refine g_bm0 ?_ | refine g_bm ?_ | refine g_ifexp ?_ | refine g_andv ?_ | refine g_orv ?_ | refine g_notv ?_ | refine g_chain ?_ | refine g_U ?_ | refine g_next ?_ | refine g_brk ?_ | refine g_cont ?_
  | refine g_sfld ?_ | refine g_sdput ?_ | refine g_gtup ?_ | refine g_gcons ?_ | refine g_gnil ?_ | refine g_gsub ?_ | refine g_forT ?_ | refine g_forL ?_ | refine g_forR ?_ | refine g_lcT ?_ | refine g_lcL ?_ | refine g_lcR ?_ | refine g_un ?_ | refine g_sfa ?_ | refine g_ip ?_ | refine g_addI ?_ | refine g_subI ?_
  | (show Ends.nx _ _ _; refine g_nxm ?_) | (show Ends.rt _ _ _; refine g_rtm ?_) | (show Ends.bk _ _ _; refine g_bkm ?_) | (show Ends.ct _ _ _; refine g_ctm ?_))
local macro_rules | `(tactic| walk_at "go2") => `(tactic| first
  | ((with_reducible show tVar _ _ _ _); refine g_var rfl ?_)
  | ((with_reducible show rEq _ _ _ _); refine g_eq rfl ?_)
  | ((with_reducible show rNe _ _ _ _); refine g_ne rfl ?_)
  | ((with_reducible show tAug _ _ _ _ _ _); refine g_aug rfl ?_))
local macro_rules | `(tactic| walk_at "go") => `(tactic| repeat (first | walk_at "go1" | walk_at "go2"))
section
variable {P : Program} {w : World} {K : PySem.W.Frag} {mg : Str → Option Value} {base : Heap}
theorem Top.binders (T : Top w K mg) (H : Hp) : SqT K H (He.ga K "BINDERS") [V.str "least", V.str "most"] := He.tupB_ok (He.ba T.e).1 H
/-! ### free variables -/
/-- the free variables lie in D -/
def F.Cl : F → (Int → Prop) → Prop
  | .var x, D => D x
  | .bin _ f g, D => f.Cl D ∧ g.Cl D
  | .mod _ _ f, D => f.Cl D
  | .fix _ x f, D => f.Cl fun y => y = x ∨ D y
  | _, _ => True
theorem F.Cl.imp : ∀ {f : F} {D E : Int → Prop}, f.Cl D → (∀ x, D x → E x) → f.Cl E
  | .var x, D, E, h, i => i x h
  | .bin _ f g, D, E, h, i => ⟨F.Cl.imp h.1 i, F.Cl.imp h.2 i⟩
  | .mod _ _ f, D, E, h, i => F.Cl.imp (f := f) h i
  | .fix _ x f, D, E, h, i => F.Cl.imp (f := f) h fun y => Or.imp_right (i y)
  | .const _, D, E, h, i => trivial
  | .fact _ _, D, E, h, i => trivial
theorem F.Cl.kid {f g : F} {D : Int → Prop} (h : f.Cl D) (n : f.isFix = false) (hg : g ∈ f.kids) : g.Cl D := by
  cases f <;> simp [F.kids] at hg
  · rcases hg with e | e <;> subst e
    · exact h.1
    · exact h.2
  · subst hg
    exact h
  · cases n
theorem kids_ht {f g : F} (h : g ∈ f.kids) : g.ht < f.ht := by
  cases f <;> simp [F.kids] at h <;> simp only [F.ht]
  · rcases h with h | h <;> subst h <;> omega
  · subst h
    omega
  · subst h
    omega
theorem inV_int (x : Int) (bs : List Int) : inV (.int x) (bs.map V.int) = decide (x ∈ bs) := by
  induction bs with
  | nil => rfl
  | cons b r ih =>
    have e : inV (.int x) ((b :: r).map V.int) = (eqV (.int b) (.int x) || inV (.int x) (r.map V.int)) := rfl
    rw [e, ih]
    have e2 : eqV (.int b) (.int x) = decide (b = x) := by
      first | rfl | (simp [eqV]; done) | (show (b == x) = _; by_cases h : b = x <;> simp [h])
    rw [e2]
    by_cases h : b = x
    · subst h
      simp
    · have h' : ¬ x = b := fun z => h z.symm
      simp [h, h']
theorem flat_ints (bs : List Int) : (bs.map V.int).all flatV = true := by
  induction bs with
  | nil => rfl
  | cons b r ih => exact ih
def spAddFree (n : Nat) : Sp := fun vs H Q _ => ∃ (a bA fA : Addr) (f : F) (bs : List Int), vs = [.ref a, .ref bA, .ref fA] ∧ FA H f a ∧ H bA = some (.lst (bs.map V.int)) ∧ f.Cl (· ∈ bs) ∧ f.ht < n ∧ bs.length + f.ht ≤ 1000 ∧ ∀ H', Same H H' → Q .non H'
-- slots of add_free: 0:statement 1:bound 2:found 3:part
abbrev n_add_free : List Str := ["statement", "bound", "found", "part"]
theorem sc_add_free : FnScope n_add_free p_add_free (defScope s_add_free) := ⟨rfl, rfl, rfl, by decide +kernel, rfl, by decide +kernel, by decide +kernel⟩
theorem ok_add_free (T : Top w K mg) (n : Nat) : Ok P w K mg base (n + 1) a_add_free p_add_free (spAddFree n) := by
  induction n with
  | zero => exact ok_none fun vs H Q E ⟨_, _, _, _, _, _, _, _, _, h, _⟩ => absurd h (Nat.not_lt_zero _)
  | succ n G_add_free =>
    have G_parts_in := ok_parts_in (P := P) (base := base) T
    refine T.F_add_free.ok sc_add_free (fun vs H Q E h => ?_) (fun cdv A outer s H vs Q E hr h => ?_)
    · obtain ⟨a, bA, fA, f, bs, rfl, _⟩ := h
      rfl
    · obtain ⟨a, bA, fA, f, bs, rfl, hf, hb, hc, hn, hlen, k⟩ := h
      have hu := hu_of hr
      refine ⟨_, PSs.nox (pss_one (ps_if (pt_cmpR op_eq (pe_ix (ki_tup K) (pv 0) pe_int (fun _ _ => rfl)) pe_str (nomark _)) (pss_one (ps_if (pt_cmpR (ko_notIn K) (pe_ix (ki_tup K) (pv 0) pe_int (fun _ _ => rfl)) (pv 1) (by rfl)) (pss_one (ps_dput hu (pv 2) (pe_ix (ki_tup K) (pv 0) pe_int (fun _ _ => rfl)) pe_bl rfl)) pss_nil)) (pss_one (ps_if (pt_cmpR (ko_in K) (pe_ix (ki_tup K) (pv 0) pe_int (fun _ _ => rfl)) (pe_gref (by rfl) T.g_BINDERS) (by rfl)) (pss_one (ps_expr (pe_call G_add_free (hr.mono (by omega)) rfl T.g_add_free T.F_add_free.kp T.b_add_free .nil pass0 (pa_cons (pe_ix (ki_tup K) (pv 0) pe_int (fun _ _ => rfl)) (pa_cons (pe_op op_cat (pv 1) (pe_lst (pa_cons (pe_ix (ki_tup K) (pv 0) pe_int (fun _ _ => rfl)) pa_nil))) (pa_cons (pv 2) pa_nil)))))) (pss_one (ps_for PassesOwn.never rfl (kpi_list K (pe_call G_parts_in (hr.mono (by omega)) rfl T.g_parts_in T.F_parts_in.kp T.b_parts_in .nil pass0 (pa_cons (pv 0) pa_nil))) (pg_name (i := 3) sc_add_free.nd rfl (Or.inl rfl)) (pss_one (ps_expr (pe_call G_add_free (hr.mono (by omega)) rfl T.g_add_free T.F_add_free.kp T.b_add_free .nil pass0 (pa_cons (pv 3) (pa_cons (pv 1) (pa_cons (pv 2) pa_nil)))))))))))), ?_⟩
      obtain ⟨ys, e, hi⟩ := hf.tup
      walk_at "go"
      refine g_ixT (SqT.of e) at0 ?_
      walk_at "go"
      refine iteB (k_var f) (fun hv => ?_) (fun hv => ?_)
      · cases f <;> cases hv
        rename_i x
        obtain _ | ⟨h1, h2⟩ := hi
        cases h1
        walk_at "go"
        refine g_ixT (SqT.of e) at1 ?_
        walk_at "go"
        refine g_notInL (SqL.of hb) rfl (flat_ints bs) ?_
        walk_at "go"
        rw [inV_int, decide_eq_true (show x ∈ bs from hc)]
        refine iteF ?_
        walk_at "go"
        exact k H (Same.refl H)
      · walk_at "go"
        refine g_ixT (SqT.of e) at0 ?_
        walk_at "go"
        refine g_inT (T.binders _) rfl rfl ?_
        walk_at "go"
        refine iteB (k_fix f) (fun hx => ?_) (fun hx => ?_)
        · cases f <;> cases hx
          rename_i b x g
          obtain ⟨u, e, hg⟩ := hf
          walk_at "go"
          refine g_ixT (SqT.of e) at2 ?_
          walk_at "go"
          refine g_ixT (SqT.of e) at1 ?_
          have hn' : g.ht + 1 < n + 1 := hn
          have hl' : bs.length + (g.ht + 1) ≤ 1000 := hlen
          walk_at "go"
          refine g_newL 1 rfl (by decide) fun l hl => ?_
          have s1 := same_new (o := .lst [V.int x]) hl
          refine ⟨bA, l, bs.map V.int, _, rfl, rfl, s1 _ _ hb, upd_same, le_line (by rw [List.length_map]; show bs.length + 1 ≤ 100000; omega), fun q hq => ?_⟩
          have s2 := s1.new (o := .lst (bs.map V.int ++ [V.int x])) hq
          walk_at "go"
          refine ⟨u, q, fA, g, bs ++ [x], rfl, hg.mono s2, by rw [upd_same, List.map_append]; rfl, F.Cl.imp (f := g) hc fun y hy => ?_, by omega, by rw [List.length_append]; show bs.length + 1 + g.ht ≤ 1000; omega, fun H' s3 => ?_⟩
          · rcases hy with hy | hy
            · exact List.mem_append_right _ (by rw [hy]; exact List.mem_singleton.mpr rfl)
            · exact List.mem_append_left _ hy
          · walk_at "go"
            exact k H' (s2.trans s3)
        · walk_at "go"
          refine ⟨a, f, rfl, hf, fun p as H1 hp s1 hp1 hk => ?_⟩
          refine g_rforL (SqL.of hp1) (fun i σ' H2 => ∃ v, σ' = [some (.ref a), some (.ref bA), some (.ref fA), v] ∧ Same H1 H2) ⟨_, rfl, Same.refl _⟩ (fun i _ H2 _ ⟨_, _, z⟩ => SqL.of (z _ _ hp1)) ?_ ?_
          · rintro i y σ' H2 hy ⟨v, rfl, s2⟩
            rw [List.getElem?_map] at hy
            obtain ⟨u, hu', rfl⟩ := Option.map_eq_some_iff.mp hy
            obtain ⟨g, hg, hgu⟩ := Pd.get hk hu'
            have hmem := List.mem_of_getElem? hg
            have := kids_ht hmem
            walk_at "go"
            refine ⟨u, bA, fA, g, bs, rfl, hgu.mono s2, s2 _ _ (s1 _ _ hb), hc.kid hx hmem, by omega, by omega, fun H3 s3 => ?_⟩
            walk_at "go"
            exact ⟨_, rfl, s2.trans s3⟩
          · rintro σ' H2 ⟨v, rfl, s2⟩
            walk_at "go"
            exact k H2 (s1.trans s2)
end
end K22

set_option Elab.async false
set_option linter.all false
set_option maxRecDepth 100000
set_option maxHeartbeats 4000000
namespace K22
open PySem PySem.Spec PyProof.Rows L2
local macro_rules | `(tactic| walk_at "go1") => `(tactic| with_reducible first
  | refine g_seq ?_ | refine g_asg ?_ | refine g_name ?_ | refine g_c ?_ | refine g_op ?_ | refine g_cons ?_ | refine g_nil ?_ | refine g_cb ?_ | refine g_call ?_ | refine g_meth ?_
  | refine g_I0 ?_ | refine g_ret ?_ | refine g_retN ?_ | refine g_drop ?_ | refine g_if ?_ | refine g_test ?_ | refine g_tB ?_ | refine g_bool ?_
  | refine g_not ?_ | refine g_and ?_ | refine g_or ?_ | refine g_yes ?_ | refine g_tup ?_ | refine g_lst ?_ | refine g_slice ?_ | refine g_part ?_ | refine g_nopart ?_ | refine g_int ?_ | refine g_fld ?_ | refine g_dget ?_
  | refine g_din ?_ | refine g_dnotin ?_ | refine g_bm0 ?_ | refine g_bm ?_ | refine g_ifexp ?_ | refine g_andv ?_ | refine g_orv ?_ | refine g_notv ?_ | refine g_chain ?_ | refine g_U ?_ | refine g_next ?_ | refine g_brk ?_ | refine g_cont ?_
  | refine g_sfld ?_ | refine g_sdput ?_ | refine g_gtup ?_ | refine g_gcons ?_ | refine g_gnil ?_ | refine g_gsub ?_ | refine g_forT ?_ | refine g_forL ?_ | refine g_forR ?_ | refine g_lcT ?_ | refine g_lcL ?_ | refine g_lcR ?_ | refine g_un ?_ | refine g_sfa ?_ | refine g_ip ?_ | refine g_addI ?_ | refine g_subI ?_
  | (show Ends.nx _ _ _; refine g_nxm ?_) | (show Ends.rt _ _ _; refine g_rtm ?_) | (show Ends.bk _ _ _; refine g_bkm ?_) | (show Ends.ct _ _ _; refine g_ctm ?_))
local macro_rules | `(tactic| walk_at "go2") => `(tactic| first
  | ((with_reducible show tVar _ _ _ _); refine g_var rfl ?_)
  | ((with_reducible show rEq _ _ _ _); refine g_eq rfl ?_)
  | ((with_reducible show rNe _ _ _ _); refine g_ne rfl ?_)
  | ((with_reducible show tAug _ _ _ _ _ _); refine g_aug rfl ?_))
local macro_rules | `(tactic| walk_at "go") => `(tactic| repeat (first | walk_at "go1" | walk_at "go2"))
section
variable {P : Program} {w : World} {K : PySem.W.Frag} {mg : Str → Option Value} {base : Heap}
abbrev F.Closed (f : F) : Prop := f.Cl fun _ => False
def spFree : Sp := fun vs H Q _ => ∃ (a : Addr) (f : F), vs = [.ref a] ∧ FA H f a ∧ f.Closed ∧ f.ht < 12 ∧ ∀ p H', Same H H' → H' p = some (.lst []) → Q (.ref p) H'
-- slots of free_variables: 0:statement 1:found
abbrev n_free_variables : List Str := ["statement", "found"]
theorem sc_free_variables : FnScope n_free_variables p_free_variables (defScope s_free_variables) := ⟨rfl, rfl, rfl, by decide +kernel, rfl, by decide +kernel, by decide +kernel⟩
theorem ok_free_variables (T : Top w K mg) : Ok P w K mg base 14 a_free_variables p_free_variables spFree := by
  have G_add_free := ok_add_free (P := P) (base := base) T 12
  refine T.F_free_variables.ok sc_free_variables (fun vs H Q E h => ?_) (fun cdv A outer s H vs Q E hr h => ?_)
  · obtain ⟨a, f, rfl, _⟩ := h
    rfl
  · obtain ⟨a, f, rfl, hf, hc, hn, k⟩ := h
    refine ⟨_, PSs.nox (pss_cons (ps_set (i := 1) sc_free_variables.nd rfl (Or.inl rfl) pe_dnewK)
    (pss_cons (ps_expr (pe_call G_add_free (hr.mono (by omega)) rfl T.g_add_free T.F_add_free.kp T.b_add_free .nil pass0 (pa_cons (pv 0) (pa_cons (pe_lst pa_nil) (pa_cons (pv 1) pa_nil)))))
    (pss_one (ps_ret (pe_callB (call_sortedDI rfl) (by rfl) T.z_sorted bt_sorted (pa_cons (pv 1) pa_nil)))))), ?_⟩
    walk_at "go"
    intro d hd
    have s1 := same_new (o := .dK []) hd
    walk_at "go"
    refine g_newL 0 rfl (by decide) fun l hl => ?_
    have s2 := s1.new (o := .lst []) hl
    walk_at "go"
    refine ⟨a, l, d, f, [], rfl, hf.mono s2, upd_same, F.Cl.imp (f := f) hc fun _ z => z.elim, hn, by show 0 + f.ht ≤ 1000; omega, fun H' s3 => ?_⟩
    have hd' := s3 _ _ (show (upd (upd H d (.dK [])) l (.lst [])) d = some (.dK []) by rw [upd_ne (ne_of_none upd_same hl)]; exact upd_same)
    walk_at "go"
    refine ⟨d, [], [], rfl, .inl hd', rfl, by decide, fun ys p hy _ hp => ?_⟩
    have : ys = [] := by
      cases ys with
      | nil => rfl
      | cons y r => exact absurd hy.length_eq (by simp)
    subst this
    walk_at "go"
    exact k p _ ((s2.trans s3).new hp) upd_same
def spCheck : Sp := fun vs H Q _ => ∃ (a : Addr) (f : F), vs = [.ref a] ∧ FA H f a ∧ f.Closed ∧ f.ht < 12 ∧ ∀ H', Same H H' → Q .non H'
-- slots of check_closed: 0:statement
abbrev n_check_closed : List Str := ["statement"]
theorem sc_check_closed : FnScope n_check_closed p_check_closed (defScope s_check_closed) := ⟨rfl, rfl, rfl, by decide +kernel, rfl, by decide +kernel, by decide +kernel⟩
theorem ok_check_closed (T : Top w K mg) : Ok P w K mg base 15 a_check_closed p_check_closed spCheck := by
  have G_free_variables := ok_free_variables (P := P) (base := base) T
  refine T.F_check_closed.ok sc_check_closed (fun vs H Q E h => ?_) (fun cdv A outer s H vs Q E hr h => ?_)
  · obtain ⟨a, f, rfl, _⟩ := h
    rfl
  · obtain ⟨a, f, rfl, hf, hc, hn, k⟩ := h
    refine ⟨_, PSs.nox (pss_one (ps_if (pt_cmpR op_gt (pe_callB (kc_len K) (by rfl) T.z_len bt_len (pa_cons (pe_call G_free_variables (hr.mono (by omega)) rfl T.g_free_variables T.F_free_variables.kp T.b_free_variables .nil pass0 (pa_cons (pv 0) pa_nil)) pa_nil)) pe_int (nomark _)) (pss_one ps_never) pss_nil)), ?_⟩
    walk_at "go"
    refine ⟨a, f, rfl, hf, hc, hn, fun p H1 s1 hp => ?_⟩
    walk_at "go"
    refine g_len (.inl (SqL.of hp)) ?_
    walk_at "go"
    refine iteF ?_
    walk_at "go"
    exact k H1 s1
/-! ### Renamer -/
def upE (env : Int → Option Int) (x n : Int) : Int → Option Int := fun y => if y = x then some n else env y
def F.ren : F → (Int → Option Int) → Int → F × Int
  | .var x, env, n => (.var ((env x).getD 0), n)
  | .bin b f g, env, n => (.bin b (f.ren env n).1 (g.ren env (f.ren env n).2).1, (g.ren env (f.ren env n).2).2)
  | .mod b l f, env, n => (.mod b l (f.ren env n).1, (f.ren env n).2)
  | .fix b x f, env, n => (.fix b n (f.ren (upE env x n) (n + 1)).1, (f.ren (upE env x n) (n + 1)).2)
  | .const b, _, n => (.const b, n)
  | .fact b p, _, n => (.fact b p, n)
def renIts : List It → (Int → Option Int) → Int → List It × Int
  | [], _, n => ([], n)
  | .n i :: r, env, n => (.n i :: (renIts r env n).1, (renIts r env n).2)
  | .f g :: r, env, n => (.f (g.ren env n).1 :: (renIts r env (g.ren env n).2).1, (renIts r env (g.ren env n).2).2)
theorem renIts_n (i : Int) (env : Int → Option Int) : ∀ (is : List It) (n : Int), renIts (is ++ [.n i]) env n = ((renIts is env n).1 ++ [.n i], (renIts is env n).2)
  | [], n => rfl
  | .n j :: r, n => by
    simp only [List.cons_append, renIts]
    rw [renIts_n i env r n]
  | .f g :: r, n => by
    simp only [List.cons_append, renIts]
    rw [renIts_n i env r _]
theorem renIts_f (h : F) (env : Int → Option Int) : ∀ (is : List It) (n : Int), renIts (is ++ [.f h]) env n = ((renIts is env n).1 ++ [.f (h.ren env (renIts is env n).2).1], (h.ren env (renIts is env n).2).2)
  | [], n => rfl
  | .n j :: r, n => by
    simp only [List.cons_append, renIts]
    rw [renIts_f h env r n]
  | .f g :: r, n => by
    simp only [List.cons_append, renIts]
    rw [renIts_f h env r _]
theorem ren_its {f : F} (h1 : f.isVar = false) (h2 : f.isFix = false) (env : Int → Option Int) (n : Int) : (f.ren env n).1.kind = f.kind ∧ (f.ren env n).1.its = (renIts f.its env n).1 ∧ (f.ren env n).2 = (renIts f.its env n).2 := by
  cases f <;> first | (cases h1; done) | (cases h2; done) | exact ⟨rfl, rfl, rfl⟩
theorem renIts_len (env : Int → Option Int) : ∀ (is : List It) (n : Int), (renIts is env n).1.length = is.length
  | [], n => rfl
  | .n j :: r, n => congrArg Nat.succ (renIts_len env r n)
  | .f g :: r, n => congrArg Nat.succ (renIts_len env r _)
/-- the names' dict -/
def NmAt (H : Hp) (a : Addr) (env : Int → Option Int) (z : Nat) : Prop := ∃ kvs : List (Key × V), H a = some (.dK kvs) ∧ (∀ x, valV kvs (Sum.inl x) = (env x).map V.int) ∧ kvs.length ≤ z
def cntF (n : Int) : List (Str × V) := putF "count" (.int n) []
theorem cnt_get (n : Int) : (cntF n).lookup ("count" : Str) = some (.int n) := by
  unfold cntF
  rw [lookup_putF, if_pos rfl]
theorem cnt_put (n m : Int) : putF "count" (.int m) (cntF n) = cntF m := by
  show (if ("count" : Str) = "count" then [(("count" : Str), V.int m)] else _) = _
  rw [if_pos rfl]
  rfl
/-- all but p as it was -/
def SameX (p : Addr) (H H' : Hp) : Prop := ∀ b o, b ≠ p → H b = some o → H' b = some o
theorem SameX.trans {p : Addr} {H H1 H2 : Hp} (a : SameX p H H1) (b : SameX p H1 H2) : SameX p H H2 := fun c o h e => b c o h (a c o h e)
theorem _root_.L2.Same.x {H H' : Hp} (s : Same H H') (p : Addr) : SameX p H H' := fun b o _ e => s b o e
theorem SameX.upd {p : Addr} {H : Hp} {o : HO} : SameX p H (upd H p o) := fun b u h e => by rw [upd_ne h]; exact e
theorem SameX.t {p : Addr} {H H' : Hp} {C dx : Addr} {fs : List (Str × V)} (s : SameX p H H') (h : H p = some (.ins C dx fs)) : SameT H H' := fun b xs e => s b _ (ne_of e h fun z => nomatch z) e
/-- a thing that H0 doesn't know may change -/
theorem SameX.mut {p : Addr} {H0 H : Hp} {q : Addr} {o : HO} (s : SameX p H0 H) (h : H0 q = none) : SameX p H0 (L2.upd H q o) := fun b u n e => by rw [upd_ne (ne_of_none e h)]; exact s b u n e
theorem SameX.new {p : Addr} {H0 H : Hp} {q : Addr} {o : HO} (s : SameX p H0 H) (h : H q = none) : SameX p H0 (L2.upd H q o) := fun b u n e => by rw [upd_ne (ne_of_none (s b u n e) h)]; exact s b u n e
def spRenInit : Sp := fun vs H Q _ => ∃ (p C dx : Addr), vs = [.ref p] ∧ C = C ∧ H p = some (.ins C dx []) ∧ (∀ H', SameX p H H' → H' p = some (.ins C dx (cntF 0)) → Q .non H')
def RenC (K : PySem.W.Frag) : Addr := He.ga K "Renamer"
-- slots of Renamer.__init__: 0:self
abbrev n_Renamer_init : List Str := ["self"]
theorem sc_Renamer_init : FnScope n_Renamer_init p_Renamer_init (defScope s_Renamer_init) := ⟨rfl, rfl, rfl, by decide +kernel, rfl, by decide +kernel, by decide +kernel⟩
theorem ok_Renamer_init (T : Top w K mg) : Ok P w K mg base 1 a_Renamer_init p_Renamer_init (fun vs H Q _ => ∃ (p dx : Addr), vs = [.ref p] ∧ H p = some (.ins (He.ga K "Renamer") dx []) ∧ ∀ H', SameX p H H' → H' p = some (.ins (He.ga K "Renamer") dx (cntF 0)) → Q .non H') := by
  refine T.F_Renamer_init.ok sc_Renamer_init (fun vs H Q E h => ?_) (fun cdv A outer s H vs Q E hr h => ?_)
  · obtain ⟨a, f, rfl, _⟩ := h
    rfl
  · obtain ⟨p, dx, rfl, hp, k⟩ := h
    refine ⟨_, PSs.nox (pss_one (ps_fld (pv 0) pe_int rfl)), ?_⟩
    walk_at "go"
    refine g_rput hp T.c_Renamer T.n_Renamer_count (by decide) ?_
    walk_at "go"
    exact k _ SameX.upd upd_same
end
end K22

set_option Elab.async false
set_option linter.all false
set_option maxRecDepth 100000
set_option maxHeartbeats 4000000
namespace K22
open PySem PySem.Spec PyProof.Rows L2
local macro_rules | `(tactic| walk_at "go1") => `(tactic| with_reducible first
  | refine g_seq ?_ | refine g_asg ?_ | refine g_name ?_ | refine g_c ?_ | refine g_op ?_ | refine g_cons ?_ | refine g_nil ?_ | refine g_cb ?_ | refine g_call ?_ | refine g_meth ?_
  | refine g_I0 ?_ | refine g_ret ?_ | refine g_retN ?_ | refine g_drop ?_ | refine g_if ?_ | refine g_test ?_ | refine g_tB ?_ | refine g_bool ?_
  | refine g_not ?_ | refine g_and ?_ | refine g_or ?_ | refine g_yes ?_ | refine g_tup ?_ | refine g_lst ?_ | refine g_slice ?_ | refine g_part ?_ | refine g_nopart ?_ | refine g_int ?_ | refine g_fld ?_ | refine g_dget ?_
  | refine g_din ?_ | refine g_dnotin ?_ | refine g_bm0 ?_ | refine g_bm ?_ | refine g_ifexp ?_ | refine g_andv ?_ | refine g_orv ?_ | refine g_notv ?_ | refine g_chain ?_ | refine g_U ?_ | refine g_next ?_ | refine g_brk ?_ | refine g_cont ?_
  | refine g_sfld ?_ | refine g_sdput ?_ | refine g_gtup ?_ | refine g_gcons ?_ | refine g_gnil ?_ | refine g_gsub ?_ | refine g_forT ?_ | refine g_forL ?_ | refine g_forR ?_ | refine g_lcT ?_ | refine g_lcL ?_ | refine g_lcR ?_ | refine g_un ?_ | refine g_sfa ?_ | refine g_ip ?_ | refine g_addI ?_ | refine g_subI ?_
  | (show Ends.nx _ _ _; refine g_nxm ?_) | (show Ends.rt _ _ _; refine g_rtm ?_) | (show Ends.bk _ _ _; refine g_bkm ?_) | (show Ends.ct _ _ _; refine g_ctm ?_))
local macro_rules | `(tactic| walk_at "go2") => `(tactic| first
  | ((with_reducible show tVar _ _ _ _); refine g_var rfl ?_)
  | ((with_reducible show rEq _ _ _ _); refine g_eq rfl ?_)
  | ((with_reducible show rNe _ _ _ _); refine g_ne rfl ?_)
  | ((with_reducible show tAug _ _ _ _ _ _); refine g_aug rfl ?_))
local macro_rules | `(tactic| walk_at "go") => `(tactic| repeat (first | walk_at "go1" | walk_at "go2"))
section
variable {P : Program} {w : World} {K : PySem.W.Frag} {mg : Str → Option Value} {base : Heap}
theorem NmAt.x {p : Addr} {H H' : Hp} {C dx : Addr} {fs : List (Str × V)} {a : Addr} {env : Int → Option Int} {z : Nat} (h : NmAt H a env z) (s : SameX p H H') (hp : H p = some (.ins C dx fs)) : NmAt H' a env z := by
  obtain ⟨kvs, e, r⟩ := h
  exact ⟨kvs, s _ _ (ne_of e hp fun z => nomatch z) e, r⟩
theorem cnt_no {m : Str} (n : Int) (h : ¬ m = "count") : (cntF n).lookup m = none := by
  unfold cntF
  rw [lookup_putF, if_neg h]
  rfl
def spRenamed (C : Addr) (n : Nat) : Sp := fun vs H Q _ => ∃ (p dx a nA : Addr) (f : F) (m : Int) (env : Int → Option Int) (z : Nat), vs = [.ref p, .ref a, .ref nA] ∧ H p = some (.ins C dx (cntF m)) ∧ FA H f a ∧ NmAt H nA env z ∧ z + f.ht ≤ 1000 ∧
  f.Cl (fun x => (env x).isSome = true) ∧ f.ht < n ∧ ∀ q H', SameX p H H' → H' p = some (.ins C dx (cntF (f.ren env m).2)) → FA H' (f.ren env m).1 q → Q (.ref q) H'
-- slots of Renamer.renamed: 0:self 1:statement 2:names 3:kind 4:number 5:inner 6:found 7:part
abbrev n_Renamer_renamed : List Str := ["self", "statement", "names", "kind", "number", "inner", "found", "part"]
theorem sc_Renamer_renamed : FnScope n_Renamer_renamed p_Renamer_renamed (defScope s_Renamer_renamed) := ⟨rfl, rfl, rfl, by decide +kernel, rfl, by decide +kernel, by decide +kernel⟩
theorem ok_Renamer_renamed (T : Top w K mg) (n : Nat) : Ok P w K mg base n a_Renamer_renamed p_Renamer_renamed (spRenamed (He.ga K "Renamer") n) := by
  induction n with
  | zero => exact ok_none fun vs H Q E ⟨_, _, _, _, _, _, _, _, _, _, _, _, _, _, h, _⟩ => absurd h (Nat.not_lt_zero _)
  | succ n G_Renamer_renamed =>
    refine T.F_Renamer_renamed.ok sc_Renamer_renamed (fun vs H Q E h => ?_) (fun cdv A outer s H vs Q E hr h => ?_)
    · obtain ⟨_, _, _, _, _, _, _, _, rfl, _⟩ := h
      rfl
    · obtain ⟨p, dx, a, nA, f, m, env, z, rfl, hp, hf, hN, hz, hc, hn, k⟩ := h
      have hu := hu_of hr
      refine ⟨_, PSs.nox (pss_cons (ps_set (i := 3) sc_Renamer_renamed.nd rfl (Or.inl rfl) (pe_ix (ki_tup K) (pv 1) pe_int (fun _ _ => rfl)))
    (pss_cons (ps_if (pt_cmpR op_eq (pv 3) pe_str (nomark _)) (pss_one (ps_ret (pe_tup (pa_cons pe_str (pa_cons (pe_dget hu (pv 2) (pe_ix (ki_tup K) (pv 1) pe_int (fun _ _ => rfl)) (fun _ _ => rfl)) pa_nil))))) pss_nil)
    (pss_cons (ps_if (pt_cmpR (ko_in K) (pv 3) (pe_gref (by rfl) T.g_BINDERS) (by rfl)) (pss_cons (ps_set (i := 4) sc_Renamer_renamed.nd rfl (Or.inl rfl) (kpe_fld K (pv 0)))
      (pss_cons (ps_fldaug (pv 0) pe_int in_add)
      (pss_cons (ps_set (i := 5) sc_Renamer_renamed.nd rfl (Or.inl rfl) (pe_callTy (call_dictD) (by rfl) T.z_dict bt_dict (pa_cons (pv 2) pa_nil)))
      (pss_cons (ps_dput hu (pv 5) (pe_ix (ki_tup K) (pv 1) pe_int (fun _ _ => rfl)) (pv 4) rfl)
      (pss_one (ps_ret (pe_tup (pa_cons (pv 3) (pa_cons (pv 4) (pa_cons (pe_meth (pv 0) T.c_Renamer T.t_Renamer_renamed G_Renamer_renamed (hr.mono (by omega)) T.b_Renamer_renamed .nil pass0 (pa_cons (pe_ix (ki_tup K) (pv 1) pe_int (fun _ _ => rfl)) (pa_cons (pv 5) pa_nil))) pa_nil)))))))))) pss_nil)
    (pss_cons (ps_set (i := 6) sc_Renamer_renamed.nd rfl (Or.inl rfl) (pe_lst (pa_cons (pv 3) pa_nil)))
    (pss_cons (ps_for PassesOwn.never rfl (kpi_tup K (pe_slice (ks_tup K) (pv 1) (po_some pe_int) po_none)) (pg_name (i := 7) sc_Renamer_renamed.nd rfl (Or.inl rfl)) (pss_one (ps_if (pt_val (pe_callB (kc_isi K) (by rfl) T.z_isinstance bt_isinstance (pa_cons (pv 7) (pa_cons (pe_tyn (by rfl) T.z_tuple bt_tuple) pa_nil)))) (pss_one (ps_expr (kpe_app K (pv 6) (pe_meth (pv 0) T.c_Renamer T.t_Renamer_renamed G_Renamer_renamed (hr.mono (by omega)) T.b_Renamer_renamed .nil pass0 (pa_cons (pv 7) (pa_cons (pv 2) pa_nil)))))) (pss_one (ps_expr (kpe_app K (pv 6) (pv 7)))))))
    (pss_one (ps_ret (pe_callTy (kc_tuple K) (by rfl) T.z_tuple bt_tuple (pa_cons (pv 6) pa_nil))))))))), ?_⟩
      obtain ⟨ys, e, hi⟩ := hf.tup
      walk_at "go"
      refine g_ixT (SqT.of e) at0 ?_
      walk_at "go"
      refine iteB (k_var f) (fun hv => ?_) (fun hv => ?_)
      · cases f <;> cases hv
        rename_i x
        obtain ⟨y, hy⟩ := Option.isSome_iff_exists.mp (show (env x).isSome = true from hc)
        obtain ⟨kvs, hk1, hk2, hk3⟩ := id hN
        have e : H a = some (.tup [.str "var", .int x]) := hf
        walk_at "go"
        refine g_ixT (SqT.of e) at1 ?_
        refine g_rdg (k := Sum.inl x) (v := .int y) hk1 (by rw [hk2, hy]; rfl) ?_
        walk_at "go"
        refine g_newT 2 rfl (by decide) fun q hq => ?_
        walk_at "go"
        have s1 := same_new (o := .tup [.str "var", .int y]) hq
        refine k q _ (s1.x p) (s1 _ _ hp) ?_
        show (upd H q (.tup [.str "var", .int y])) q = some (.tup [.str "var", .int ((env x).getD 0)])
        rw [upd_same, hy]
        rfl
      · walk_at "go"
        refine g_inT (T.binders _) rfl rfl ?_
        walk_at "go"
        refine iteB (k_fix f) (fun hx => ?_) (fun hx => ?_)
        · cases f <;> cases hx
          rename_i b x g
          obtain ⟨u, e, hg⟩ := hf
          obtain ⟨kvs, hk1, hk2, hk3⟩ := id hN
          have hn' : g.ht + 1 < n + 1 := hn
          have hz' : z + (g.ht + 1) ≤ 1000 := hz
          walk_at "go"
          refine g_rfld hp T.c_Renamer T.n_Renamer_count (cnt_get m) ?_
          walk_at "go"
          refine g_rfa hp T.c_Renamer T.n_Renamer_count (cnt_get m) ?_
          walk_at "go"
          refine g_rfs hp (show 1 < 1000 by decide) ?_
          rw [cnt_put]
          have nap : nA ≠ p := ne_of hk1 hp fun z => nomatch z
          have s1 : SameX p H (upd H p (.ins (He.ga K "Renamer") dx (cntF (m + 1)))) := SameX.upd
          walk_at "go"
          refine ⟨nA, kvs, rfl, .inl (s1 _ _ nap hk1), fun d hd => ?_⟩
          have ndp : d ≠ p := (ne_of_none upd_same hd).symm
          have s2 := s1.new (o := .dK kvs) hd
          walk_at "go"
          refine g_ixT (SqT.of (s2.t hp _ _ e)) at1 ?_
          refine g_rdp (k := Sum.inl x) upd_same (lt_line (by omega)) ?_
          rw [upd_upd]
          have s3 := s1.new (o := .dK (putK kvs (Sum.inl x) (.int m))) hd
          walk_at "go"
          have hp3 : (upd (upd H p (.ins (He.ga K "Renamer") dx (cntF (m + 1)))) d (.dK (putK kvs (Sum.inl x) (.int m)))) p = some (.ins (He.ga K "Renamer") dx (cntF (m + 1))) := by rw [upd_ne ndp.symm]; exact upd_same
          refine g_rm hp3 (cnt_no _ (by decide +kernel)) ?_
          walk_at "go"
          refine g_ixT (SqT.of (s3.t hp _ _ e)) at2 ?_
          walk_at "go"
          refine ⟨p, dx, u, d, g, m + 1, upE env x m, z + 1, rfl, hp3, hg.monoT (s3.t hp), ⟨_, upd_same, fun y => ?_, by have := length_putK kvs (Sum.inl x) (.int m); omega⟩, by omega, F.Cl.imp (f := g) hc fun y hy => ?_, by omega, fun q H4 s4 hp4 hq => ?_⟩
          · rw [valV_put]
            unfold upE
            by_cases hyx : y = x
            · subst hyx
              rw [if_pos rfl, if_pos rfl]
              rfl
            · rw [if_neg (fun z => hyx (Sum.inl.inj z)), if_neg hyx]
              exact hk2 y
          · unfold upE
            by_cases hyx : y = x
            · rw [if_pos hyx]
              rfl
            · rw [if_neg hyx]
              exact hy.resolve_left hyx
          · walk_at "go"
            refine g_newT 3 rfl (by decide) fun r hr' => ?_
            walk_at "go"
            refine k r _ ((s3.trans s4).new hr') (by rw [upd_ne (ne_of_none hp4 hr')]; exact hp4) ?_
            exact ⟨q, upd_same, hq.mono (same_new hr')⟩
        · have R := ren_its hv hx env m
          walk_at "go"
          refine g_newL 1 rfl (by decide) fun l hl => ?_
          walk_at "go"
          have s1 := same_new (o := .lst [.str f.kind]) hl
          refine slice1 (s1 _ _ e) fun c hc' => ?_
          have ncl : c ≠ l := (ne_of_none upd_same hc').symm
          have nl := ncl.symm
          have s2 := s1.new (o := .tup ys) hc'
          have npl : p ≠ l := ne_of_none hp hl
          refine g_rforT (SqT.of upd_same) (fun i σ' H2 => ∃ zs v, σ' = [some (.ref p), some (.ref a), some (.ref nA), some (.str f.kind), none, none, some (.ref l), v] ∧ SameX p H H2 ∧ H2 p = some (.ins (He.ga K "Renamer") dx (cntF (renIts (f.its.take i) env m).2)) ∧ H2 c = some (.tup ys) ∧ H2 l = some (.lst (.str f.kind :: zs)) ∧ Paired (ItV H2) (renIts (f.its.take i) env m).1 zs)
            ⟨[], none, rfl, s2.x p, s2 _ _ hp, upd_same, by rw [upd_ne nl]; exact upd_same, .nil⟩ (fun i _ H2 _ ⟨_, _, _, _, _, z, _⟩ => SqT.of z) ?_ ?_
          · rintro i y σ' H2 hy ⟨zs, v, rfl, s3, hp2, hc2, hl2, hz2⟩
            obtain ⟨it, hit, hv2⟩ := Pd.get (Its.monoT (s3.t hp) hi) hy
            have z0 := Paired.length hz2
            rw [renIts_len] at z0
            have z1 := List.length_take_le' i f.its
            have z2 := its_len f
            walk_at "go"
            refine isi_item hv2 ?_
            walk_at "go"
            cases it with
            | n z =>
              refine iteF ?_
              walk_at "go"
              refine g_tyL (SqL.of hl2) ?_
              walk_at "go"
              refine g_app hl2 (lt_line (by rw [List.length_cons]; omega)) ?_
              walk_at "go"
              refine ⟨zs ++ [y], _, rfl, s3.mut hl, by rw [upd_ne npl, take_snoc hit, renIts_n]; exact hp2, by rw [upd_ne ncl]; exact hc2, by rw [upd_same]; rfl, ?_⟩
              rw [take_snoc hit, renIts_n]
              exact Its.monoT (SameT.lst hl2) (Pd.snoc hv2 hz2)
            | f g =>
              obtain ⟨u, rfl, hu2⟩ := hv2
              refine iteT ?_
              walk_at "go"
              refine g_tyL (SqL.of hl2) ?_
              walk_at "go"
              refine g_rm hp2 (cnt_no _ (by decide +kernel)) ?_
              walk_at "go"
              have hmem := List.mem_of_getElem? hit
              have := kid_ht hmem
              refine ⟨p, dx, u, nA, g, _, env, z, rfl, hp2, hu2, hN.x s3 hp, by omega, hc.kid hx (itKids_its f ▸ mem_itKids hmem), by omega, fun q H4 s4 hp4 hq => ?_⟩
              have hl4 := s4 _ _ npl.symm hl2
              walk_at "go"
              refine g_app hl4 (lt_line (by rw [List.length_cons]; omega)) ?_
              walk_at "go"
              refine ⟨zs ++ [.ref q], _, rfl, (s3.trans s4).mut hl, by rw [upd_ne npl, take_snoc hit, renIts_f]; exact hp4, by rw [upd_ne ncl]; exact s4.t hp2 _ _ hc2, by rw [upd_same]; rfl, ?_⟩
              rw [take_snoc hit, renIts_f]
              exact Its.monoT (SameT.lst hl4) (Pd.snoc ⟨q, rfl, hq⟩ (Its.monoT (s4.t hp2) hz2))
          · rintro σ' H2 ⟨zs, v, rfl, s3, hp2, hc2, hl2, hz2⟩
            rw [List.take_of_length_le (by rw [Paired.length hi]; exact Nat.le_refl _)] at hz2 hp2
            rw [← R.2.1] at hz2
            rw [← R.2.2] at hp2
            walk_at "go"
            refine g_tupL hl2 fun q hq => ?_
            walk_at "go"
            exact k q _ (s3.new hq) (by rw [upd_ne (ne_of_none hp2 hq)]; exact hp2) (FA.of (by rw [upd_same, R.1]) (Its.mono (same_new hq) hz2))
end
end K22

set_option Elab.async false
set_option linter.all false
set_option maxRecDepth 100000
set_option maxHeartbeats 4000000
namespace K22
open PySem PySem.Spec PyProof.Rows L2
local macro_rules | `(tactic| walk_at "go1") => `(tactic| with_reducible first
  | refine g_seq ?_ | refine g_asg ?_ | refine g_name ?_ | refine g_c ?_ | refine g_op ?_ | refine g_cons ?_ | refine g_nil ?_ | refine g_cb ?_ | refine g_call ?_ | refine g_meth ?_
  | refine g_I0 ?_ | refine g_ret ?_ | refine g_retN ?_ | refine g_drop ?_ | refine g_if ?_ | refine g_test ?_ | refine g_tB ?_ | refine g_bool ?_
  | refine g_not ?_ | refine g_and ?_ | refine g_or ?_ | refine g_yes ?_ | refine g_tup ?_ | refine g_lst ?_ | refine g_slice ?_ | refine g_part ?_ | refine g_nopart ?_ | refine g_int ?_ | refine g_fld ?_ | refine g_dget ?_
  | refine g_din ?_ | refine g_dnotin ?_ | refine g_bm0 ?_ | refine g_bm ?_ | refine g_ifexp ?_ | refine g_andv ?_ | refine g_orv ?_ | refine g_notv ?_ | refine g_chain ?_ | refine g_U ?_ | refine g_next ?_ | refine g_brk ?_ | refine g_cont ?_
  | refine g_sfld ?_ | refine g_sdput ?_ | refine g_gtup ?_ | refine g_gcons ?_ | refine g_gnil ?_ | refine g_gsub ?_ | refine g_forT ?_ | refine g_forL ?_ | refine g_forR ?_ | refine g_lcT ?_ | refine g_lcL ?_ | refine g_lcR ?_ | refine g_un ?_ | refine g_sfa ?_ | refine g_ip ?_ | refine g_addI ?_ | refine g_subI ?_
  | (show Ends.nx _ _ _; refine g_nxm ?_) | (show Ends.rt _ _ _; refine g_rtm ?_) | (show Ends.bk _ _ _; refine g_bkm ?_) | (show Ends.ct _ _ _; refine g_ctm ?_))
local macro_rules | `(tactic| walk_at "go2") => `(tactic| first
  | ((with_reducible show tVar _ _ _ _); refine g_var rfl ?_)
  | ((with_reducible show rEq _ _ _ _); refine g_eq rfl ?_)
  | ((with_reducible show rNe _ _ _ _); refine g_ne rfl ?_)
  | ((with_reducible show tAug _ _ _ _ _ _); refine g_aug rfl ?_))
local macro_rules | `(tactic| walk_at "go") => `(tactic| repeat (first | walk_at "go1" | walk_at "go2"))
section
variable {P : Program} {w : World} {K : PySem.W.Frag} {mg : Str → Option Value} {base : Heap}
def env0 : Int → Option Int := fun _ => none
def F.tidy (f : F) : F := (f.ren env0 0).1
theorem g_make0 {σ : L2.St} {H : Hp} {Q : VK} {C : Addr} {sp : Sp} {E : XK} (q : ∀ x dx, H x = none → H dx = none → dx ≠ x → sp [.ref x] (upd (upd H dx (.own x)) x (.ins C dx [])) (fun v H' => v = .non ∧ Q (.ref x) H') E) : tMake C sp [] E tNil σ H Q := q
theorem same_make {H : Hp} {x dx C : Addr} (nx : H x = none) (ndx : H dx = none) : Same H (upd (upd H dx (.own x)) x (.ins C dx [])) := fun b o e => by
  rw [upd_ne (ne_of_none e nx), upd_ne (ne_of_none e ndx)]
  exact e
/-- all but p as it was, and p is new -/
theorem SameX.new_of {p : Addr} {H0 H H' : Hp} (s : SameX p H H') (h : H0 p = none) (s0 : Same H0 H) : Same H0 H' := fun b o e => s b o (ne_of_none e h) (s0 b o e)
def spTidy : Sp := fun vs H Q _ => ∃ (a : Addr) (f : F), vs = [.ref a] ∧ FA H f a ∧ f.Closed ∧ f.ht < 12 ∧ ∀ p H', Same H H' → FA H' f.tidy p → Q (.ref p) H'
-- slots of tidy: 0:statement
abbrev n_tidy : List Str := ["statement"]
theorem sc_tidy : FnScope n_tidy p_tidy (defScope s_tidy) := ⟨rfl, rfl, rfl, by decide +kernel, rfl, by decide +kernel, by decide +kernel⟩
theorem ok_tidy (T : Top w K mg) : Ok P w K mg base 16 a_tidy p_tidy spTidy := by
  have G_check_closed := ok_check_closed (P := P) (base := base) T
  have G_Renamer_init := ok_Renamer_init (P := P) (base := base) T
  have G_Renamer_renamed := ok_Renamer_renamed (P := P) (base := base) T 12
  refine T.F_tidy.ok sc_tidy (fun vs H Q E h => ?_) (fun cdv A outer s H vs Q E hr h => ?_)
  · obtain ⟨a, f, rfl, _⟩ := h
    rfl
  · obtain ⟨a, f, rfl, hf, hc, hn, k⟩ := h
    refine ⟨_, PSs.nox (pss_cons (ps_expr (pe_call G_check_closed (hr.mono (by omega)) rfl T.g_check_closed T.F_check_closed.kp T.b_check_closed .nil pass0 (pa_cons (pv 0) pa_nil)))
    (pss_one (ps_ret (pe_meth (pe_make0 T.m_Renamer G_Renamer_init (hr.mono (by omega)) (by rfl) T.g_Renamer T.b_Renamer_init .nil pass0) T.c_Renamer T.t_Renamer_renamed G_Renamer_renamed (hr.mono (by omega)) T.b_Renamer_renamed .nil pass0 (pa_cons (pv 0) (pa_cons pe_dnewK pa_nil)) (ht := mcall_of (abase_call (by decide)) fun _ => rfl))))), ?_⟩
    walk_at "go"
    refine ⟨a, f, rfl, hf, hc, hn, fun H1 s1 => ?_⟩
    walk_at "go"
    refine g_make0 fun x dx nx ndx nex => ?_
    have s2 := same_make (C := He.ga K "Renamer") nx ndx
    refine ⟨x, dx, rfl, upd_same, fun H3 s3 h3 => ⟨rfl, ?_⟩⟩
    have s4 : Same H1 H3 := s3.new_of nx s2
    refine g_rm h3 (cnt_no _ (by decide +kernel)) ?_
    walk_at "go"
    intro d hd
    walk_at "go"
    have ndx : x ≠ d := ne_of_none h3 hd
    have s5 := s4.new (o := .dK []) hd
    refine ⟨x, dx, a, d, f, 0, env0, 0, rfl, by rw [upd_ne ndx]; exact h3, hf.mono (s1.trans s5), ⟨[], upd_same, fun _ => rfl, Nat.le_refl _⟩, by omega, F.Cl.imp (f := f) hc fun _ z => z.elim, hn, fun q H' s6 hp6 hq => ?_⟩
    walk_at "go"
    exact k q H' (s1.trans (s6.new_of nx s5)) hq
/-! ### substituted, unfolded -/
def F.sub : F → Int → F → F
  | .var y, x, t => if y = x then t else .var y
  | .bin b f g, x, t => .bin b (f.sub x t) (g.sub x t)
  | .mod b l f, x, t => .mod b l (f.sub x t)
  | .fix b y f, x, t => if y = x then .fix b y f else .fix b y (f.sub x t)
  | .const b, _, _ => .const b
  | .fact b p, _, _ => .fact b p
def F.unf : F → F
  | .fix b x f => f.sub x (.fix b x f)
  | f => f
theorem sub_its {f : F} {x : Int} {t : F} (h1 : f.isVar = false) (h2 : ∀ b g, f ≠ .fix b x g) : (f.sub x t).kind = f.kind ∧ (f.sub x t).its = f.its.map (mapIt fun g => g.sub x t) := by
  cases f with
  | var y => cases h1
  | fix b y g =>
    have hy : ¬ y = x := fun z => h2 b g (by rw [z])
    show (if y = x then _ else _ : F).kind = _ ∧ (if y = x then _ else _ : F).its = _
    rw [if_neg hy]
    exact ⟨rfl, rfl⟩
  | _ => exact ⟨rfl, rfl⟩
def spSub (n : Nat) : Sp := fun vs H Q _ => ∃ (a b : Addr) (f t : F) (x : Int), vs = [.ref a, .int x, .ref b] ∧ FA H f a ∧ FA H t b ∧ f.ht < n ∧ ∀ p H', Same H H' → FA H' (f.sub x t) p → Q (.ref p) H'
-- slots of substituted: 0:statement 1:variable 2:other 3:kind 4:found 5:part
abbrev n_substituted : List Str := ["statement", "variable", "other", "kind", "found", "part"]
theorem sc_substituted : FnScope n_substituted p_substituted (defScope s_substituted) := ⟨rfl, rfl, rfl, by decide +kernel, rfl, by decide +kernel, by decide +kernel⟩
theorem ok_substituted (T : Top w K mg) (n : Nat) : Ok P w K mg base n a_substituted p_substituted (spSub n) := by
  induction n with
  | zero => exact ok_none fun vs H Q E ⟨_, _, _, _, _, _, _, _, h, _⟩ => absurd h (Nat.not_lt_zero _)
  | succ n G_substituted =>
    refine T.F_substituted.ok sc_substituted (fun vs H Q E h => ?_) (fun cdv A outer s H vs Q E hr h => ?_)
    · obtain ⟨_, _, _, _, _, rfl, _⟩ := h
      rfl
    · obtain ⟨a, b, f, t, x, rfl, hf, ht, hn, k⟩ := h
      refine ⟨_, PSs.nox (pss_cons (ps_set (i := 3) sc_substituted.nd rfl (Or.inl rfl) (pe_ix (ki_tup K) (pv 0) pe_int (fun _ _ => rfl)))
    (pss_cons (ps_if (pt_cmpR op_eq (pv 3) pe_str (nomark _)) (pss_cons (ps_if (pt_cmpR op_eq (pe_ix (ki_tup K) (pv 0) pe_int (fun _ _ => rfl)) (pv 1) (nomark _)) (pss_one (ps_ret (pv 2))) pss_nil)
      (pss_one (ps_ret (pv 0)))) pss_nil)
    (pss_cons (ps_if (PW.pt (pw_and (pt_cmpR (ko_in K) (pv 3) (pe_gref (by rfl) T.g_BINDERS) (by rfl)) (pw_and1 (pt_cmpR op_eq (pe_ix (ki_tup K) (pv 0) pe_int (fun _ _ => rfl)) (pv 1) (nomark _))))) (pss_one (ps_ret (pv 0))) pss_nil)
    (pss_cons (ps_set (i := 4) sc_substituted.nd rfl (Or.inl rfl) (pe_lst (pa_cons (pv 3) pa_nil)))
    (pss_cons (ps_for PassesOwn.never rfl (kpi_tup K (pe_slice (ks_tup K) (pv 0) (po_some pe_int) po_none)) (pg_name (i := 5) sc_substituted.nd rfl (Or.inl rfl)) (pss_one (ps_if (pt_val (pe_callB (kc_isi K) (by rfl) T.z_isinstance bt_isinstance (pa_cons (pv 5) (pa_cons (pe_tyn (by rfl) T.z_tuple bt_tuple) pa_nil)))) (pss_one (ps_expr (kpe_app K (pv 4) (pe_call G_substituted (hr.mono (by omega)) rfl T.g_substituted T.F_substituted.kp T.b_substituted .nil pass0 (pa_cons (pv 5) (pa_cons (pv 1) (pa_cons (pv 2) pa_nil))))))) (pss_one (ps_expr (kpe_app K (pv 4) (pv 5)))))))
    (pss_one (ps_ret (pe_callTy (kc_tuple K) (by rfl) T.z_tuple bt_tuple (pa_cons (pv 4) pa_nil))))))))), ?_⟩
      obtain ⟨ys, e, hi⟩ := hf.tup
      walk_at "go"
      refine g_ixT (SqT.of e) at0 ?_
      walk_at "go"
      refine iteB (k_var f) (fun hv => ?_) (fun hv => ?_)
      · cases f <;> cases hv
        rename_i y
        have e : H a = some (.tup [.str "var", .int y]) := hf
        walk_at "go"
        refine g_ixT (SqT.of e) at1 ?_
        walk_at "go"
        have k' : ∀ p H', Same H H' → FA H' (if y = x then t else .var y) p → Q (.ref p) H' := k
        by_cases hy : y = x
        · subst hy
          rw [decide_eq_true rfl]
          refine iteT ?_
          walk_at "go"
          exact k' b H (Same.refl H) (by rw [if_pos rfl]; exact ht)
        · rw [decide_eq_false (fun z => hy (V.int.inj z))]
          refine iteF ?_
          walk_at "go"
          exact k' a H (Same.refl H) (by rw [if_neg hy]; exact hf)
      · have main : (∀ b g, f ≠ .fix b x g) → tSeq (tAsg (tLst (tCons (tVar 3) tNil)) (gName 4)) (tSeq (tFor (iTup K (tSl (rSlT K) (tVar 0) (tPart (tC (V.int 1))) tNoPart)) (gName 5) (tIfS (tB (tCB (rIsi K) (tCons (tVar 5) (tCons (tC (V.ty "tuple")) tNil))))
            (tDrop (tBM K "list" rAppend (tVar 4) (tCons (tCall (spSub n) [] E0 (tCons (tVar 5) (tCons (tVar 1) (tCons (tVar 2) tNil)))) tNil))) (tDrop (tBM K "list" rAppend (tVar 4) (tCons (tVar 5) tNil))))) (tRet (tCB (rTupOf K) (tCons (tVar 4) tNil))))
            { nx := fun x H' => Q V.non H', rt := Q } [some (.ref a), some (.int x), some (.ref b), some (.str f.kind), none, none] H := by
          intro hne
          have R := sub_its (t := t) hv hne
          walk_at "go"
          refine g_newL 1 rfl (by decide) fun l hl => ?_
          walk_at "go"
          have s1 := same_new (o := .lst [.str f.kind]) hl
          refine slice1 (s1 _ _ e) fun c hc' => ?_
          have ncl : c ≠ l := (ne_of_none upd_same hc').symm
          have s2 := s1.new (o := .tup ys) hc'
          refine g_rforT (SqT.of upd_same) (fun i σ' H2 => ∃ zs v, σ' = [some (.ref a), some (.int x), some (.ref b), some (.str f.kind), some (.ref l), v] ∧ Same H H2 ∧ H2 c = some (.tup ys) ∧ H2 l = some (.lst (.str f.kind :: zs)) ∧ Paired (ItV H2) ((f.its.take i).map (mapIt fun g => g.sub x t)) zs)
            ⟨[], none, rfl, s2, upd_same, by rw [upd_ne ncl.symm]; exact upd_same, .nil⟩ (fun i _ H2 _ ⟨_, _, _, _, z, _⟩ => SqT.of z) ?_ ?_
          · rintro i y σ' H2 hy ⟨zs, v, rfl, s3, hc2, hl2, hz2⟩
            obtain ⟨it, hit, hv2⟩ := Pd.get (Its.mono s3 hi) hy
            have z0 := Paired.length hz2
            rw [List.length_map] at z0
            have z1 := List.length_take_le' i f.its
            have z2 := its_len f
            walk_at "go"
            refine isi_item hv2 ?_
            walk_at "go"
            cases it with
            | n z =>
              refine iteF ?_
              walk_at "go"
              refine g_tyL (SqL.of hl2) ?_
              walk_at "go"
              refine g_app hl2 (lt_line (by rw [List.length_cons]; omega)) ?_
              walk_at "go"
              refine ⟨zs ++ [y], _, rfl, s3.mut hl, by rw [upd_ne ncl]; exact hc2, by rw [upd_same]; rfl, ?_⟩
              rw [take_snoc hit, List.map_append]
              exact Its.monoT (SameT.lst hl2) (Pd.snoc hv2 hz2)
            | f g =>
              obtain ⟨u, rfl, hu2⟩ := hv2
              refine iteT ?_
              walk_at "go"
              refine g_tyL (SqL.of hl2) ?_
              walk_at "go"
              have := kid_ht (List.mem_of_getElem? hit)
              refine ⟨u, b, g, t, x, rfl, hu2, ht.mono s3, by omega, fun q H4 s4 hq => ?_⟩
              have hl4 := s4 _ _ hl2
              walk_at "go"
              refine g_app hl4 (lt_line (by rw [List.length_cons]; omega)) ?_
              walk_at "go"
              refine ⟨zs ++ [.ref q], _, rfl, (s3.trans s4).mut hl, by rw [upd_ne ncl]; exact s4 _ _ hc2, by rw [upd_same]; rfl, ?_⟩
              rw [take_snoc hit, List.map_append]
              exact Its.monoT (SameT.lst hl4) (Pd.snoc ⟨q, rfl, hq⟩ (Its.mono s4 hz2))
          · rintro σ' H2 ⟨zs, v, rfl, s3, hc2, hl2, hz2⟩
            rw [List.take_of_length_le (by rw [Paired.length hi]; exact Nat.le_refl _), ← R.2] at hz2
            walk_at "go"
            refine g_tupL hl2 fun q hq => ?_
            walk_at "go"
            exact k q _ (s3.new hq) (FA.of (by rw [upd_same, R.1]) (Its.mono (same_new hq) hz2))
        walk_at "go"
        refine g_inT (T.binders _) rfl rfl ?_
        walk_at "go"
        refine iteB (k_fix f) (fun hx => ?_) (fun hx => ?_)
        · cases f <;> cases hx
          rename_i c y g
          obtain ⟨u, e, hg⟩ := id hf
          walk_at "go"
          refine g_ixT (SqT.of e) at1 ?_
          walk_at "go"
          by_cases hy : y = x
          · subst hy
            rw [decide_eq_true rfl]
            refine iteT ?_
            walk_at "go"
            refine k a H (Same.refl H) ?_
            show FA H (if y = y then _ else _) a
            rw [if_pos rfl]
            exact hf
          · rw [decide_eq_false (fun z => hy (V.int.inj z))]
            refine iteF ?_
            exact main fun b g z => hy (by cases z; rfl)
        · refine iteF ?_
          exact main fun b g z => by
            rw [z] at hx
            cases hx
def spUnf : Sp := fun vs H Q _ => ∃ (a : Addr) (f : F), vs = [.ref a] ∧ FA H f a ∧ f.isFix = true ∧ f.ht ≤ 12 ∧ ∀ p H', Same H H' → FA H' f.unf p → Q (.ref p) H'
-- slots of unfolded: 0:statement
abbrev n_unfolded : List Str := ["statement"]
theorem sc_unfolded : FnScope n_unfolded p_unfolded (defScope s_unfolded) := ⟨rfl, rfl, rfl, by decide +kernel, rfl, by decide +kernel, by decide +kernel⟩
theorem ok_unfolded (T : Top w K mg) : Ok P w K mg base 13 a_unfolded p_unfolded spUnf := by
  have G_substituted := ok_substituted (P := P) (base := base) T 12
  refine T.F_unfolded.ok sc_unfolded (fun vs H Q E h => ?_) (fun cdv A outer s H vs Q E hr h => ?_)
  · obtain ⟨a, f, rfl, _⟩ := h
    rfl
  · obtain ⟨a, f, rfl, hf, hx, hn, k⟩ := h
    refine ⟨_, PSs.nox (pss_one (ps_ret (pe_call G_substituted (hr.mono (by omega)) rfl T.g_substituted T.F_substituted.kp T.b_substituted .nil pass0 (pa_cons (pe_ix (ki_tup K) (pv 0) pe_int (fun _ _ => rfl)) (pa_cons (pe_ix (ki_tup K) (pv 0) pe_int (fun _ _ => rfl)) (pa_cons (pv 0) pa_nil)))))), ?_⟩
    cases f <;> cases hx
    rename_i b x g
    obtain ⟨u, e, hg⟩ := id hf
    have hn' : g.ht + 1 ≤ 12 := hn
    walk_at "go"
    refine g_ixT (SqT.of e) at2 ?_
    walk_at "go"
    refine g_ixT (SqT.of e) at1 ?_
    walk_at "go"
    refine ⟨u, a, g, _, x, rfl, hg, hf, by omega, fun p H' s hp => ?_⟩
    walk_at "go"
    exact k p H' s hp
/-! ### next_in_closure -/
def F.nxt : F → List F
  | .fix b x f => [(F.fix b x f).unf]
  | f => f.kids
def spNext : Sp := fun vs H Q _ => ∃ (a : Addr) (f : F), vs = [.ref a] ∧ FA H f a ∧ f.ht ≤ 12 ∧ ∀ p as H', H p = none → Same H H' → H' p = some (.lst (as.map V.ref)) → FAs H' f.nxt as → Q (.ref p) H'
-- slots of next_in_closure: 0:statement 1:kind
abbrev n_next_in_closure : List Str := ["statement", "kind"]
theorem sc_next_in_closure : FnScope n_next_in_closure p_next_in_closure (defScope s_next_in_closure) := ⟨rfl, rfl, rfl, by decide +kernel, rfl, by decide +kernel, by decide +kernel⟩
theorem ok_next_in_closure (T : Top w K mg) : Ok P w K mg base 14 a_next_in_closure p_next_in_closure spNext := by
  have G_unfolded := ok_unfolded (P := P) (base := base) T
  have G_parts_in := ok_parts_in (P := P) (base := base) T
  refine T.F_next_in_closure.ok sc_next_in_closure (fun vs H Q E h => ?_) (fun cdv A outer s H vs Q E hr h => ?_)
  · obtain ⟨a, f, rfl, _⟩ := h
    rfl
  · obtain ⟨a, f, rfl, hf, hn, k⟩ := h
    refine ⟨_, PSs.nox (pss_cons (ps_set (i := 1) sc_next_in_closure.nd rfl (Or.inl rfl) (pe_ix (ki_tup K) (pv 0) pe_int (fun _ _ => rfl)))
    (pss_cons (ps_if (pt_cmpR (ko_in K) (pv 1) (pe_gref (by rfl) T.g_BINDERS) (by rfl)) (pss_one (ps_ret (pe_lst (pa_cons (pe_call G_unfolded (hr.mono (by omega)) rfl T.g_unfolded T.F_unfolded.kp T.b_unfolded .nil pass0 (pa_cons (pv 0) pa_nil)) pa_nil)))) pss_nil)
    (pss_one (ps_ret (pe_call G_parts_in (hr.mono (by omega)) rfl T.g_parts_in T.F_parts_in.kp T.b_parts_in .nil pass0 (pa_cons (pv 0) pa_nil)))))), ?_⟩
    obtain ⟨ys, e, hi⟩ := hf.tup
    walk_at "go"
    refine g_ixT (SqT.of e) at0 ?_
    walk_at "go"
    refine g_inT (T.binders _) rfl rfl ?_
    walk_at "go"
    refine iteB (k_fix f) (fun hx => ?_) (fun hx => ?_)
    · walk_at "go"
      refine ⟨a, f, rfl, hf, hx, hn, fun p H1 s1 hp => ?_⟩
      walk_at "go"
      refine g_newL 1 rfl (by decide) fun l hl => ?_
      walk_at "go"
      refine k l [p] _ (s1.free hl) (s1.new hl) upd_same ?_
      cases f <;> cases hx
      exact .cons (hp.mono (same_new hl)) .nil
    · walk_at "go"
      refine ⟨a, f, rfl, hf, fun p as H1 hp s1 h1 hk => ?_⟩
      walk_at "go"
      refine k p as H1 hp s1 h1 ?_
      cases f <;> first | (cases hx; done) | exact hk
end
end K22

set_option Elab.async false
set_option linter.all false
set_option maxHeartbeats 400000
namespace K22
/-! ### the closure, in plain Lean -/
namespace F
def size : F → Nat
  | .bin _ f g => f.size + g.size + 1
  | .mod _ _ f => f.size + 1
  | .fix _ _ f => f.size + 1
  | _ => 1
theorem size_le : ∀ f : F, f.size + 1 ≤ 2 ^ (f.ht + 1)
  | .bin _ f g => by
    have h1 := size_le f
    have h2 := size_le g
    have e1 : 2 ^ (f.ht + 1) ≤ 2 ^ (max f.ht g.ht + 1) := Nat.pow_le_pow_right (by decide) (by omega)
    have e2 : 2 ^ (g.ht + 1) ≤ 2 ^ (max f.ht g.ht + 1) := Nat.pow_le_pow_right (by decide) (by omega)
    show f.size + g.size + 1 + 1 ≤ 2 ^ (max f.ht g.ht + 1 + 1)
    rw [Nat.pow_succ]
    omega
  | .mod _ _ f => by
    have h1 := size_le f
    have : 1 ≤ 2 ^ (f.ht + 1) := Nat.one_le_two_pow
    show f.size + 1 + 1 ≤ 2 ^ (f.ht + 1 + 1)
    rw [Nat.pow_succ]
    omega
  | .fix _ _ f => by
    have h1 := size_le f
    have : 1 ≤ 2 ^ (f.ht + 1) := Nat.one_le_two_pow
    show f.size + 1 + 1 ≤ 2 ^ (f.ht + 1 + 1)
    rw [Nat.pow_succ]
    omega
  | .const _ => (show 2 ≤ 2 ^ 1 by decide)
  | .fact _ _ => (show 2 ≤ 2 ^ 1 by decide)
  | .var _ => (show 2 ≤ 2 ^ 1 by decide)
/-- binders ascend inwards, from m on -/
def Up : F → Int → Prop
  | .bin _ f g, m => f.Up m ∧ g.Up m
  | .mod _ _ f, m => f.Up m
  | .fix _ x f, m => m ≤ x ∧ f.Up (x + 1)
  | _, _ => True
theorem Up.le : ∀ {f : F} {m k : Int}, f.Up m → k ≤ m → f.Up k
  | .bin _ f g, m, k, h, e => ⟨Up.le h.1 e, Up.le h.2 e⟩
  | .mod _ _ f, m, k, h, e => Up.le (f := f) h e
  | .fix _ x f, m, k, h, e => ⟨Int.le_trans e h.1, h.2⟩
  | .const _, _, _, _, _ => trivial
  | .fact _ _, _, _, _, _ => trivial
  | .var _, _, _, _, _ => trivial
/-- a statement with values for its variables -/
def subE : F → List (Int × F) → F
  | .var x, σ => (σ.lookup x).getD (.var x)
  | .bin b f g, σ => .bin b (f.subE σ) (g.subE σ)
  | .mod b l f, σ => .mod b l (f.subE σ)
  | .fix b x f, σ => .fix b x (f.subE σ)
  | .const b, _ => .const b
  | .fact b p, _ => .fact b p
theorem subE_nil : ∀ f : F, f.subE [] = f
  | .var x => rfl
  | .bin b f g => by
    show F.bin b (f.subE []) (g.subE []) = _
    rw [subE_nil f, subE_nil g]
  | .mod b l f => by
    show F.mod b l (f.subE []) = _
    rw [subE_nil f]
  | .fix b x f => by
    show F.fix b x (f.subE []) = _
    rw [subE_nil f]
  | .const b => rfl
  | .fact b p => rfl
/-- a variable that is not free -/
theorem sub_notFree : ∀ {t : F} {D : Int → Prop} {x : Int} {s : F}, t.Cl D → ¬ D x → t.sub x s = t
  | .var y, D, x, s, h, n => by
    show (if y = x then s else F.var y) = _
    rw [if_neg fun e => n (by rw [← e]; exact h)]
  | .bin b f g, D, x, s, h, n => by
    show F.bin b (f.sub x s) (g.sub x s) = _
    rw [sub_notFree h.1 n, sub_notFree h.2 n]
  | .mod b l f, D, x, s, h, n => by
    show F.mod b l (f.sub x s) = _
    rw [sub_notFree (t := f) h n]
  | .fix b y f, D, x, s, h, n => by
    show (if y = x then F.fix b y f else F.fix b y (f.sub x s)) = _
    by_cases e : y = x
    · rw [if_pos e]
    · rw [if_neg e, sub_notFree (t := f) h fun z => z.elim (fun q => e q.symm) n]
  | .const b, _, _, _, _, _ => rfl
  | .fact b p, _, _, _, _, _ => rfl
end F
abbrev Sub := List (Int × F)
/-- an environment of closed statements, its variables below m -/
def SOk (σ : Sub) (m : Int) : Prop := ∀ p ∈ σ, p.2.Closed ∧ p.1 < m
def Dom (σ : Sub) (x : Int) : Prop := ∃ t, σ.lookup x = some t
theorem lookup_mem {σ : Sub} {x : Int} {t : F} (h : σ.lookup x = some t) : (x, t) ∈ σ := by
  induction σ with
  | nil => cases h
  | cons p r ih =>
    obtain ⟨y, u⟩ := p
    rw [List.lookup_cons] at h
    by_cases e : (x == y) = true
    · rw [e] at h
      have e1 : u = t := Option.some.inj h
      have e2 : x = y := beq_iff_eq.mp e
      rw [e1, e2]
      exact List.mem_cons_self
    · have e' : (x == y) = false := Bool.eq_false_iff.mpr e
      rw [e'] at h
      exact List.mem_cons_of_mem _ (ih h)
theorem dom_cons {σ : Sub} {x : Int} {t : F} (y : Int) : Dom ((x, t) :: σ) y ↔ y = x ∨ Dom σ y := by
  unfold Dom
  rw [List.lookup_cons]
  by_cases e : y = x
  · subst e
    simp
  · have e' : (y == x) = false := beq_eq_false_iff_ne.mpr e
    rw [e']
    simp [e]
theorem SOk.dom {σ : Sub} {m x : Int} (h : SOk σ m) (d : Dom σ x) : x < m := let ⟨_, e⟩ := d; (h _ (lookup_mem e)).2
theorem SOk.le {σ : Sub} {m k : Int} (h : SOk σ m) (e : m ≤ k) : SOk σ k := fun p hp => ⟨(h p hp).1, Int.lt_of_lt_of_le (h p hp).2 e⟩
theorem subE_cl : ∀ {f : F} {σ : Sub} {D : Int → Prop}, f.Cl (fun x => Dom σ x ∨ D x) → (∀ p ∈ σ, p.2.Closed) → (f.subE σ).Cl D
  | .var x, σ, D, h, c => by
    show ((σ.lookup x).getD (.var x)).Cl D
    cases e : σ.lookup x with
    | none =>
      rcases (show Dom σ x ∨ D x from h) with ⟨t, q⟩ | q
      · rw [e] at q
        cases q
      · exact q
    | some t => exact (c _ (lookup_mem e)).imp fun _ z => z.elim
  | .bin b f g, σ, D, h, c => ⟨subE_cl h.1 c, subE_cl h.2 c⟩
  | .mod b l f, σ, D, h, c => subE_cl (f := f) h c
  | .fix b x f, σ, D, h, c => subE_cl (f := f) (F.Cl.imp (f := f) h fun y z => by
      rcases z with z | z | z
      · exact .inr (.inl z)
      · exact .inl z
      · exact .inr (.inr z)) c
  | .const b, _, _, _, _ => trivial
  | .fact b p, _, _, _, _ => trivial
/-- one more value -/
theorem sub_subE : ∀ {f : F} {σ : Sub} {v : Int} {t : F}, f.Up (v + 1) → SOk σ v → (f.subE σ).sub v t = f.subE ((v, t) :: σ)
  | .var x, σ, v, t, u, h => by
    show ((σ.lookup x).getD (.var x)).sub v t = (((v, t) :: σ).lookup x).getD (.var x)
    rw [List.lookup_cons]
    by_cases e : x = v
    · subst e
      have n : σ.lookup x = none := by
        cases q : σ.lookup x with
        | none => rfl
        | some s => exact absurd (h _ (lookup_mem q)).2 (Int.lt_irrefl _)
      rw [n]
      simp [F.sub]
    · have e' : (x == v) = false := beq_eq_false_iff_ne.mpr e
      rw [e']
      cases q : σ.lookup x with
      | none => simp [F.sub, e]
      | some s => exact F.sub_notFree (h _ (lookup_mem q)).1 id
  | .bin b f g, σ, v, t, u, h => by
    show F.bin b ((f.subE σ).sub v t) ((g.subE σ).sub v t) = _
    rw [sub_subE u.1 h, sub_subE u.2 h]
    rfl
  | .mod b l f, σ, v, t, u, h => by
    show F.mod b l ((f.subE σ).sub v t) = _
    rw [sub_subE (f := f) u h]
    rfl
  | .fix b x f, σ, v, t, u, h => by
    have hx : ¬ x = v := fun e => by
      have := u.1
      omega
    show (if x = v then F.fix b x (f.subE σ) else F.fix b x ((f.subE σ).sub v t)) = _
    rw [if_neg hx, sub_subE (f := f) (F.Up.le u.2 (by have := u.1; omega)) h]
    rfl
  | .const b, _, _, _, _, _ => rfl
  | .fact b p, _, _, _, _, _ => rfl
theorem unf_subE {b : Bool} {v : Int} {f : F} {σ : Sub} (u : f.Up (v + 1)) (h : SOk σ v) : ((F.fix b v f).subE σ).unf = f.subE ((v, (F.fix b v f).subE σ) :: σ) := sub_subE u h
/-- the closure's statements, place by place -/
def F.cl : F → Sub → List F
  | .bin b f g, σ => (F.bin b f g).subE σ :: (f.cl σ ++ g.cl σ)
  | .mod b l f, σ => (F.mod b l f).subE σ :: f.cl σ
  | .fix b x f, σ => (F.fix b x f).subE σ :: f.cl ((x, (F.fix b x f).subE σ) :: σ)
  | f, σ => [f.subE σ]
theorem cl_head (f : F) (σ : Sub) : ∃ r, f.cl σ = f.subE σ :: r := by cases f <;> exact ⟨_, rfl⟩
theorem cl_self (f : F) (σ : Sub) : f.subE σ ∈ f.cl σ := by
  obtain ⟨r, e⟩ := cl_head f σ
  rw [e]
  exact List.mem_cons_self
theorem cl_len : ∀ (f : F) (σ : Sub), (f.cl σ).length = f.size
  | .bin b f g, σ => by
    show (f.cl σ ++ g.cl σ).length + 1 = f.size + g.size + 1
    rw [List.length_append, cl_len f, cl_len g]
  | .mod b l f, σ => by
    show (f.cl σ).length + 1 = f.size + 1
    rw [cl_len f]
  | .fix b x f, σ => by
    show (f.cl _).length + 1 = f.size + 1
    rw [cl_len f]
  | .const _, _ => rfl
  | .fact _ _, _ => rfl
  | .var _, _ => rfl
theorem sok_cons {b : Bool} {v : Int} {f : F} {σ : Sub} {m : Int} (hm : m ≤ v) (h : SOk σ m) (c : (F.fix b v f).Cl (Dom σ)) : SOk ((v, (F.fix b v f).subE σ) :: σ) (v + 1) := fun p hp => by
  rcases List.mem_cons.mp hp with e | hp
  · rw [e]
    exact ⟨subE_cl (c.imp fun _ z => .inl z) fun q hq => (h q hq).1, by show v < v + 1; omega⟩
  · exact ⟨(h p hp).1, by have := (h p hp).2; omega⟩
theorem cl_cons {b : Bool} {v : Int} {f : F} {σ : Sub} {t : F} (c : (F.fix b v f).Cl (Dom σ)) : f.Cl (Dom ((v, t) :: σ)) := F.Cl.imp (f := f) c fun y z => (dom_cons y).mpr z
theorem cl_nxt {L : List F} : ∀ {f : F} {σ : Sub} {m : Int}, f.Up m → SOk σ m → f.Cl (Dom σ) → (∀ p ∈ σ, ∀ y ∈ p.2.nxt, y ∈ L) → (∀ x ∈ f.cl σ, x ∈ L) → ∀ x ∈ f.cl σ, ∀ y ∈ x.nxt, y ∈ L
  | .var v, σ, m, u, h, c, n, s, x, hx, y, hy => by
    obtain ⟨t, e⟩ := (show Dom σ v from c)
    have e2 : x = t := by
      have q := List.mem_singleton.mp (show x ∈ [(σ.lookup v).getD (.var v)] from hx)
      rw [q, e]
      rfl
    subst e2
    exact n _ (lookup_mem e) y hy
  | .bin b f g, σ, m, u, h, c, n, s, x, hx, y, hy => by
    rcases List.mem_cons.mp hx with e | hx
    · subst e
      have hy' : y ∈ [f.subE σ, g.subE σ] := hy
      rcases List.mem_cons.mp hy' with e | hy'
      · rw [e]
        exact s _ (List.mem_cons_of_mem _ (List.mem_append_left _ (cl_self f σ)))
      · rw [List.mem_singleton.mp hy']
        exact s _ (List.mem_cons_of_mem _ (List.mem_append_right _ (cl_self g σ)))
    · rcases List.mem_append.mp hx with hx | hx
      · exact cl_nxt u.1 h c.1 n (fun z hz => s z (List.mem_cons_of_mem _ (List.mem_append_left _ hz))) x hx y hy
      · exact cl_nxt u.2 h c.2 n (fun z hz => s z (List.mem_cons_of_mem _ (List.mem_append_right _ hz))) x hx y hy
  | .mod b l f, σ, m, u, h, c, n, s, x, hx, y, hy => by
    rcases List.mem_cons.mp hx with e | hx
    · subst e
      have hy' : y ∈ [f.subE σ] := hy
      rw [List.mem_singleton.mp hy']
      exact s _ (List.mem_cons_of_mem _ (cl_self f σ))
    · exact cl_nxt (f := f) u h c n (fun z hz => s z (List.mem_cons_of_mem _ hz)) x hx y hy
  | .fix b v f, σ, m, u, h, c, n, s, x, hx, y, hy => by
    have key : ∀ y ∈ ((F.fix b v f).subE σ).nxt, y ∈ L := fun y hy => by
      have hy' : y ∈ [((F.fix b v f).subE σ).unf] := hy
      rw [List.mem_singleton.mp hy', unf_subE u.2 (h.le u.1)]
      exact s _ (List.mem_cons_of_mem _ (cl_self f _))
    rcases List.mem_cons.mp hx with e | hx
    · subst e
      exact key y hy
    · refine cl_nxt (f := f) u.2 (sok_cons u.1 h c) (cl_cons c) (fun p hp => ?_) (fun z hz => s z (List.mem_cons_of_mem _ hz)) x hx y hy
      rcases List.mem_cons.mp hp with e | hp
      · rw [e]
        exact key
      · exact n p hp
  | .const b, σ, m, u, h, c, n, s, x, hx, y, hy => by
    rw [List.mem_singleton.mp (show x ∈ [F.const b] from hx)] at hy
    cases hy
  | .fact b p, σ, m, u, h, c, n, s, x, hx, y, hy => by
    rw [List.mem_singleton.mp (show x ∈ [F.fact b p] from hx)] at hy
    cases hy
/-- a set closed under next holds the closure -/
theorem cl_sub {L : List F} (hL : ∀ x ∈ L, ∀ y ∈ x.nxt, y ∈ L) : ∀ {f : F} {σ : Sub} {m : Int}, f.Up m → SOk σ m → f.Cl (Dom σ) → f.subE σ ∈ L → ∀ x ∈ f.cl σ, x ∈ L
  | .bin b f g, σ, m, u, h, c, s, x, hx => by
    rcases List.mem_cons.mp hx with e | hx
    · rw [e]
      exact s
    · rcases List.mem_append.mp hx with hx | hx
      · exact cl_sub hL u.1 h c.1 (hL _ s _ List.mem_cons_self) x hx
      · exact cl_sub hL u.2 h c.2 (hL _ s _ (List.mem_cons_of_mem _ List.mem_cons_self)) x hx
  | .mod b l f, σ, m, u, h, c, s, x, hx => by
    rcases List.mem_cons.mp hx with e | hx
    · rw [e]
      exact s
    · exact cl_sub hL (f := f) u h c (hL _ s _ List.mem_cons_self) x hx
  | .fix b v f, σ, m, u, h, c, s, x, hx => by
    rcases List.mem_cons.mp hx with e | hx
    · rw [e]
      exact s
    · refine cl_sub hL (f := f) u.2 (sok_cons u.1 h c) (cl_cons c) ?_ x hx
      rw [← unf_subE u.2 (h.le u.1)]
      exact hL _ s _ List.mem_cons_self
  | .const b, σ, m, u, h, c, s, x, hx => by
    rw [List.mem_singleton.mp hx]
    exact s
  | .fact b p, σ, m, u, h, c, s, x, hx => by
    rw [List.mem_singleton.mp hx]
    exact s
  | .var v, σ, m, u, h, c, s, x, hx => by
    rw [List.mem_singleton.mp hx]
    exact s
/-! heights -/
def bnd : Nat → Nat → Nat
  | 0, e => e
  | h + 1, e => max (h + 1 + e) (bnd h (h + 1 + e))
theorem bnd_ge : ∀ (h e : Nat), h + e ≤ bnd h e
  | 0, e => by simp [bnd]
  | h + 1, e => by
    unfold bnd
    omega
theorem bnd_mono : ∀ {h k e d : Nat}, h ≤ k → e ≤ d → bnd h e ≤ bnd k d
  | 0, k, e, d, _, i => Nat.le_trans i (Nat.le_trans (Nat.le_add_left _ _) (bnd_ge k d))
  | h + 1, 0, e, d, i, _ => absurd i (Nat.not_succ_le_zero h)
  | h + 1, k + 1, e, d, i, j => by
    unfold bnd
    have := bnd_mono (h := h) (k := k) (e := h + 1 + e) (d := k + 1 + d) (by omega) (by omega)
    omega
theorem subE_ht : ∀ {f : F} {σ : Sub} {e : Nat}, (∀ p ∈ σ, p.2.ht ≤ e) → (f.subE σ).ht ≤ f.ht + e
  | .var x, σ, e, h => by
    show ((σ.lookup x).getD (.var x)).ht ≤ 0 + e
    cases q : σ.lookup x with
    | none => exact Nat.zero_le _
    | some t =>
      have q2 : t.ht ≤ e := h _ (lookup_mem q)
      show t.ht ≤ 0 + e
      omega
  | .bin b f g, σ, e, h => by
    have h1 := subE_ht (f := f) h
    have h2 := subE_ht (f := g) h
    show max (f.subE σ).ht (g.subE σ).ht + 1 ≤ max f.ht g.ht + 1 + e
    omega
  | .mod b l f, σ, e, h => by
    have h1 := subE_ht (f := f) h
    show (f.subE σ).ht + 1 ≤ f.ht + 1 + e
    omega
  | .fix b x f, σ, e, h => by
    have h1 := subE_ht (f := f) h
    show (f.subE σ).ht + 1 ≤ f.ht + 1 + e
    omega
  | .const b, _, _, _ => Nat.zero_le _
  | .fact b p, _, _, _ => Nat.zero_le _
theorem cl_ht : ∀ {f : F} {σ : Sub} {e : Nat}, (∀ p ∈ σ, p.2.ht ≤ e) → ∀ x ∈ f.cl σ, x.ht ≤ bnd f.ht e
  | .bin b f g, σ, e, h, x, hx => by
    rcases List.mem_cons.mp hx with q | hx
    · rw [q]
      exact Nat.le_trans (subE_ht h) (bnd_ge _ _)
    · rcases List.mem_append.mp hx with hx | hx
      · exact Nat.le_trans (cl_ht h x hx) (bnd_mono (by show f.ht ≤ max f.ht g.ht + 1; omega) (Nat.le_refl _))
      · exact Nat.le_trans (cl_ht h x hx) (bnd_mono (by show g.ht ≤ max f.ht g.ht + 1; omega) (Nat.le_refl _))
  | .mod b l f, σ, e, h, x, hx => by
    rcases List.mem_cons.mp hx with q | hx
    · rw [q]
      exact Nat.le_trans (subE_ht h) (bnd_ge _ _)
    · exact Nat.le_trans (cl_ht h x hx) (bnd_mono (by show f.ht ≤ f.ht + 1; omega) (Nat.le_refl _))
  | .fix b v f, σ, e, h, x, hx => by
    rcases List.mem_cons.mp hx with q | hx
    · rw [q]
      exact Nat.le_trans (subE_ht h) (bnd_ge _ _)
    · have := cl_ht (f := f) (σ := (v, (F.fix b v f).subE σ) :: σ) (e := f.ht + 1 + e) (fun p hp => by
        rcases List.mem_cons.mp hp with q | hp
        · rw [q]
          exact subE_ht h
        · have := h p hp
          omega) x hx
      show x.ht ≤ max (f.ht + 1 + e) (bnd f.ht (f.ht + 1 + e))
      omega
  | .const b, σ, e, h, x, hx => by
    rw [List.mem_singleton.mp (show x ∈ [F.const b] from hx)]
    exact Nat.zero_le _
  | .fact b p, σ, e, h, x, hx => by
    rw [List.mem_singleton.mp (show x ∈ [F.fact b p] from hx)]
    exact Nat.zero_le _
  | .var v, σ, e, h, x, hx => by
    rw [List.mem_singleton.mp hx]
    exact Nat.le_trans (subE_ht h) (bnd_ge _ _)
/-! the tidy form -/
theorem ren_ht : ∀ (f : F) (env : Int → Option Int) (n : Int), (f.ren env n).1.ht = f.ht
  | .bin b f g, env, n => by
    show max _ _ + 1 = max _ _ + 1
    rw [ren_ht f, ren_ht g]
  | .mod b l f, env, n => by
    show _ + 1 = _ + 1
    rw [ren_ht f]
  | .fix b x f, env, n => by
    show _ + 1 = _ + 1
    rw [ren_ht f]
  | .const b, _, _ => rfl
  | .fact b p, _, _ => rfl
  | .var v, _, _ => rfl
theorem ren_le : ∀ (f : F) (env : Int → Option Int) (n : Int), n ≤ (f.ren env n).2
  | .bin b f g, env, n => Int.le_trans (ren_le f env n) (ren_le g env _)
  | .mod b l f, env, n => ren_le f env n
  | .fix b x f, env, n => Int.le_trans (by omega) (ren_le f (upE env x n) (n + 1))
  | .const b, _, _ => Int.le_refl _
  | .fact b p, _, _ => Int.le_refl _
  | .var v, _, _ => Int.le_refl _
theorem ren_up : ∀ (f : F) (env : Int → Option Int) (n : Int), (f.ren env n).1.Up n
  | .bin b f g, env, n => ⟨ren_up f env n, (ren_up g env _).le (ren_le f env n)⟩
  | .mod b l f, env, n => ren_up f env n
  | .fix b x f, env, n => ⟨Int.le_refl _, ren_up f _ _⟩
  | .const b, _, _ => trivial
  | .fact b p, _, _ => trivial
  | .var v, _, _ => trivial
theorem ren_cl : ∀ {f : F} {env : Int → Option Int} {n : Int} {D E : Int → Prop}, f.Cl D → (∀ x, D x → ∃ y, env x = some y ∧ E y) → (f.ren env n).1.Cl E
  | .bin b f g, env, n, D, E, h, k => ⟨ren_cl h.1 k, ren_cl h.2 k⟩
  | .mod b l f, env, n, D, E, h, k => ren_cl (f := f) h k
  | .fix b x f, env, n, D, E, h, k => ren_cl (f := f) h fun y hy => by
      unfold upE
      by_cases e : y = x
      · exact ⟨n, if_pos e, .inl rfl⟩
      · obtain ⟨z, z1, z2⟩ := k y (hy.resolve_left e)
        exact ⟨z, by rw [if_neg e]; exact z1, .inr z2⟩
  | .const b, _, _, _, _, _, _ => trivial
  | .fact b p, _, _, _, _, _, _ => trivial
  | .var v, env, n, D, E, h, k => by
    obtain ⟨y, e, q⟩ := k v h
    show E ((env v).getD 0)
    rw [e]
    exact q
theorem tidy_closed {f : F} (h : f.Closed) : f.tidy.Closed := ren_cl h fun _ z => z.elim
theorem tidy_ht (f : F) : f.tidy.ht = f.ht := ren_ht f _ _
theorem tidy_up (f : F) : f.tidy.Up 0 := ren_up f _ _
/-- the closure of a statement -/
def F.clos (f : F) : List F := f.tidy.cl []
theorem sok_nil (m : Int) : SOk [] m := fun _ h => nomatch h
theorem clos_nxt {f : F} (h : f.Closed) : ∀ x ∈ f.clos, ∀ y ∈ x.nxt, y ∈ f.clos := cl_nxt (tidy_up f) (sok_nil 0) ((tidy_closed h).imp fun _ z => z.elim) (fun _ h => nomatch h) fun _ h => h
theorem clos_sub {f : F} (h : f.Closed) {L : List F} (hL : ∀ x ∈ L, ∀ y ∈ x.nxt, y ∈ L) (h0 : f.tidy ∈ L) : ∀ x ∈ f.clos, x ∈ L := cl_sub hL (tidy_up f) (sok_nil 0) ((tidy_closed h).imp fun _ z => z.elim) (by rw [F.subE_nil]; exact h0)
theorem clos_head (f : F) : f.tidy ∈ f.clos := by
  have := cl_self f.tidy []
  rw [F.subE_nil] at this
  exact this
theorem clos_len {f : F} (h : f.ht ≤ 3) : f.clos.length ≤ 15 := by
  have e1 := F.size_le f.tidy
  have e2 : 2 ^ (f.tidy.ht + 1) ≤ 2 ^ 4 := Nat.pow_le_pow_right (by decide) (by rw [tidy_ht]; omega)
  unfold F.clos
  rw [cl_len]
  omega
theorem clos_ht {f : F} (h : f.ht ≤ 3) : ∀ x ∈ f.clos, x.ht ≤ 6 := fun x hx => by
  have := cl_ht (f := f.tidy) (σ := []) (e := 0) (fun _ h => nomatch h) x hx
  have e := bnd_mono (h := f.tidy.ht) (k := 3) (e := 0) (d := 0) (by rw [tidy_ht]; exact h) (Nat.le_refl _)
  exact Nat.le_trans this (Nat.le_trans e (by decide))
end K22

set_option Elab.async false
set_option linter.all false
set_option maxHeartbeats 400000
namespace K22
open PySem PySem.Spec PyProof.Rows L2
/-! ### keys of statements -/
def F.key : F → NestedKey
  | .const b => .tup [.text (kC b)]
  | .fact b p => .tup [.text (kP b), .num p]
  | .var x => .tup [.text "var", .num x]
  | .bin b f g => .tup [.text (kB b), f.key, g.key]
  | .mod b l f => .tup [.text (kM b), .num l, f.key]
  | .fix b x f => .tup [.text (kX b), .num x, f.key]
theorem kC_inj : ∀ b c : Bool, kC b = kC c → b = c := by decide +kernel
theorem kP_inj : ∀ b c : Bool, kP b = kP c → b = c := by decide +kernel
theorem kB_inj : ∀ b c : Bool, kB b = kB c → b = c := by decide +kernel
theorem kM_inj : ∀ b c : Bool, kM b = kM c → b = c := by decide +kernel
theorem kX_inj : ∀ b c : Bool, kX b = kX c → b = c := by decide +kernel
theorem kP_var : ∀ b : Bool, ¬ kP b = "var" := by decide +kernel
theorem kM_kX : ∀ b c : Bool, ¬ kM b = kX c := by decide +kernel
theorem key_tup : ∀ f : F, ∃ ks, f.key = .tup ks
  | .const _ => ⟨_, rfl⟩
  | .fact _ _ => ⟨_, rfl⟩
  | .var _ => ⟨_, rfl⟩
  | .bin _ _ _ => ⟨_, rfl⟩
  | .mod _ _ _ => ⟨_, rfl⟩
  | .fix _ _ _ => ⟨_, rfl⟩
theorem key_notNum (f : F) (i : Int) : ¬ f.key = .num i := fun e => by
  obtain ⟨ks, q⟩ := key_tup f
  rw [q] at e
  cases e
theorem key_inj : ∀ {f g : F}, f.key = g.key → f = g := by
  intro f
  induction f with
  | const b =>
    intro g h
    cases g <;> simp [F.key] at h
    rw [kC_inj _ _ h]
  | fact b p =>
    intro g h
    cases g <;> simp [F.key] at h
    · rw [kP_inj _ _ h.1, h.2]
    · exact absurd h.1 (kP_var b)
  | var x =>
    intro g h
    cases g <;> simp [F.key] at h
    · exact absurd h.1.symm (kP_var _)
    · rw [h]
  | bin b f1 f2 ih1 ih2 =>
    intro g h
    cases g <;> simp [F.key] at h
    · rw [kB_inj _ _ h.1, ih1 h.2.1, ih2 h.2.2]
    · exact absurd h.2.1 (key_notNum _ _)
    · exact absurd h.2.1 (key_notNum _ _)
  | mod b l f ih =>
    intro g h
    cases g <;> simp [F.key] at h
    · exact absurd h.2.1.symm (key_notNum _ _)
    · rw [kM_inj _ _ h.1, h.2.1, ih h.2.2]
    · exact absurd h.1 (kM_kX _ _)
  | fix b x f ih =>
    intro g h
    cases g <;> simp [F.key] at h
    · exact absurd h.2.1.symm (key_notNum _ _)
    · exact absurd h.1.symm (kM_kX _ _)
    · rw [kX_inj _ _ h.1, h.2.1, ih h.2.2]
theorem key_depth : ∀ f : F, f.key.depth = f.ht + 1
  | .const _ => rfl
  | .fact _ _ => rfl
  | .var _ => rfl
  | .bin b f g => by
    have h1 := key_depth f
    have h2 := key_depth g
    show max 0 (max f.key.depth (max g.key.depth 0)) + 1 = max f.ht g.ht + 1 + 1
    omega
  | .mod b l f => by
    have h1 := key_depth f
    show max 0 (max 0 (max f.key.depth 0)) + 1 = f.ht + 1 + 1
    omega
  | .fix b x f => by
    have h1 := key_depth f
    show max 0 (max 0 (max f.key.depth 0)) + 1 = f.ht + 1 + 1
    omega
theorem FA.keyV {H : Hp} : ∀ {f : F} {a : Addr}, FA H f a → KeyV H f.key (.ref a)
  | .const b, a, h => ⟨a, _, rfl, h, _, _, rfl, rfl, rfl⟩
  | .fact b p, a, h => ⟨a, _, rfl, h, _, _, rfl, rfl, _, _, rfl, rfl, rfl⟩
  | .var x, a, h => ⟨a, _, rfl, h, _, _, rfl, rfl, _, _, rfl, rfl, rfl⟩
  | .bin b f g, a, ⟨u, w, e, h1, h2⟩ => ⟨a, _, rfl, e, _, _, rfl, rfl, _, _, rfl, FA.keyV h1, _, _, rfl, FA.keyV h2, rfl⟩
  | .mod b l f, a, ⟨u, e, h1⟩ => ⟨a, _, rfl, e, _, _, rfl, rfl, _, _, rfl, rfl, _, _, rfl, FA.keyV h1, rfl⟩
  | .fix b x f, a, ⟨u, e, h1⟩ => ⟨a, _, rfl, e, _, _, rfl, rfl, _, _, rfl, rfl, _, _, rfl, FA.keyV h1, rfl⟩
/-- entries -/
def ents : List F → List Addr → List Ent
  | f :: fs, a :: as => (f.key, a, V.bl true) :: ents fs as
  | _, _ => []
theorem ents_len : ∀ {fs : List F} {as : List Addr}, fs.length = as.length → (ents fs as).length = fs.length
  | [], [], _ => rfl
  | f :: fs, a :: as, h => congrArg Nat.succ (ents_len (Nat.succ.inj h))
  | [], _ :: _, h => by cases h
  | _ :: _, [], h => by cases h
theorem ents_snoc : ∀ {fs : List F} {as : List Addr} (f : F) (a : Addr), fs.length = as.length → ents (fs ++ [f]) (as ++ [a]) = ents fs as ++ [(f.key, a, V.bl true)]
  | [], [], f, a, _ => rfl
  | g :: fs, b :: as, f, a, h => by
    show _ :: ents (fs ++ [f]) (as ++ [a]) = _ :: (ents fs as ++ _)
    rw [ents_snoc f a (Nat.succ.inj h)]
  | [], _ :: _, _, _, h => by cases h
  | _ :: _, [], _, _, h => by cases h
theorem ents_val : ∀ {fs : List F} {as : List Addr} (f : F), fs.length = as.length → (valN (ents fs as) f.key).isSome = decide (f ∈ fs)
  | [], [], f, _ => rfl
  | g :: fs, b :: as, f, h => by
    by_cases e : g = f
    · subst e
      have : valN (ents (g :: fs) (b :: as)) g.key = some (V.bl true) := by simp [valN, ents]
      rw [this]
      simp
    · have e2 : ¬ g.key = f.key := fun z => e (key_inj z)
      have : valN (ents (g :: fs) (b :: as)) f.key = valN (ents fs as) f.key := by simp [valN, ents, e2]
      rw [this, ents_val f (Nat.succ.inj h)]
      have e3 : ¬ f = g := fun z => e z.symm
      simp [e3]
  | [], _ :: _, _, h => by cases h
  | _ :: _, [], _, h => by cases h
theorem nodup_le {α : Type} [DecidableEq α] : ∀ {l m : List α}, l.Nodup → (∀ x ∈ l, x ∈ m) → l.length ≤ m.length
  | [], m, _, _ => Nat.zero_le _
  | a :: l, m, h, s => by
    have h1 := List.nodup_cons.mp h
    have ha := s a List.mem_cons_self
    have := nodup_le (l := l) (m := m.erase a) h1.2 fun x hx => by
      have hne : x ≠ a := fun e => h1.1 (e ▸ hx)
      exact (List.mem_erase_of_ne hne).mpr (s x (List.mem_cons_of_mem _ hx))
    rw [List.length_erase_of_mem ha] at this
    have : 0 < m.length := List.length_pos_of_mem ha
    show l.length + 1 ≤ m.length
    omega
theorem nodup_snoc {α : Type} {l : List α} {x : α} (h : l.Nodup) (n : x ∉ l) : (l ++ [x]).Nodup := by
  rw [List.nodup_append]
  refine ⟨h, List.nodup_cons.mpr ⟨(fun z => nomatch z), List.nodup_nil⟩, fun a ha b hb e => ?_⟩
  rw [List.mem_singleton.mp hb] at e
  exact n (e ▸ ha)
structure CloOk (f : F) (cs : List F) : Prop where
  hd : ∃ r, cs = f.tidy :: r
  nd : cs.Nodup
  sub : ∀ x ∈ cs, x ∈ f.clos
  all : ∀ x ∈ f.clos, x ∈ cs
theorem CloOk.len {f : F} {cs : List F} (h : CloOk f cs) (z : f.ht ≤ 3) : cs.length ≤ 15 := Nat.le_trans (nodup_le h.nd h.sub) (clos_len z)
end K22

set_option Elab.async false
set_option linter.all false
set_option maxHeartbeats 400000
namespace K22
open PySem PySem.Spec PyProof.Rows L2
/-! ### rows -/
/-- the row of a statement can be made: n calls deep, the row h high -/
def F.Sk : Nat → Nat → F → Prop
  | 0, _, _ => False
  | _ + 1, _, .const _ => True
  | _ + 1, _, .fact _ _ => True
  | _ + 1, _, .var _ => False
  | _ + 1, h, .mod _ _ _ => 1 ≤ h
  | n + 1, h, .bin _ f g => ∃ k, h = k + 1 ∧ f.Sk n k ∧ g.Sk n k
  | n + 1, h, .fix b x f => (F.fix b x f).unf.Sk n h
abbrev St2 : Type := F × Int
/-- the least binder -/
def lst (z x : Int) : Int := if z < 0 ∨ x < z then x else z
/-- r is the row of a statement, the states numbered so -/
def RowR (sts : List St2) : Nat → F → Int → F → Prop
  | 0, _, _, _ => False
  | _ + 1, .const b, _, r => r = .const b
  | _ + 1, .fact b p, _, r => r = .fact b p
  | _ + 1, .var _, _, _ => False
  | _ + 1, .mod b l f, z, r => ∃ i : Nat, sts[i]? = some (f, z) ∧ r = .mod b l (.var (i : Nat))
  | n + 1, .bin b f g, z, r => ∃ r1 r2, RowR sts n f z r1 ∧ RowR sts n g z r2 ∧ r = .bin b r1 r2
  | n + 1, .fix b x f, z, r => RowR sts n (F.fix b x f).unf (lst z x) r
theorem pre_get {α : Type} {l m : List α} (h : l <+: m) {i : Nat} {x : α} (e : l[i]? = some x) : m[i]? = some x := by
  obtain ⟨t, rfl⟩ := h
  rw [List.getElem?_append_left (List.getElem?_eq_some_iff.mp e).1]
  exact e
theorem RowR.mono {sts sts' : List St2} (h : sts <+: sts') : ∀ {n : Nat} {f : F} {z : Int} {r : F}, RowR sts n f z r → RowR sts' n f z r
  | 0, _, _, _, q => q.elim
  | _ + 1, .const _, _, _, q => q
  | _ + 1, .fact _ _, _, _, q => q
  | _ + 1, .var _, _, _, q => q
  | _ + 1, .mod _ _ _, _, _, ⟨i, e, q⟩ => ⟨i, pre_get h e, q⟩
  | n + 1, .bin _ _ _, _, _, ⟨r1, r2, a, b, q⟩ => ⟨r1, r2, RowR.mono (n := n) h a, RowR.mono (n := n) h b, q⟩
  | n + 1, .fix _ _ _, _, _, q => RowR.mono (n := n) h q
/-! entries that tell a place -/
def entI {α : Type} (key : α → NestedKey) : List α → List Addr → Nat → List Ent
  | x :: xs, b :: bs, i => (key x, b, .int (i : Nat)) :: entI key xs bs (i + 1)
  | _, _, _ => []
theorem entI_len {α : Type} (key : α → NestedKey) : ∀ {xs : List α} {bs : List Addr} (i : Nat), xs.length = bs.length → (entI key xs bs i).length = xs.length
  | [], [], _, _ => rfl
  | x :: xs, b :: bs, i, h => congrArg Nat.succ (entI_len key (i + 1) (Nat.succ.inj h))
  | [], _ :: _, _, h => nomatch h
  | _ :: _, [], _, h => nomatch h
theorem entI_snoc {α : Type} (key : α → NestedKey) (x : α) (b : Addr) : ∀ {xs : List α} {bs : List Addr} (i : Nat), xs.length = bs.length → entI key (xs ++ [x]) (bs ++ [b]) i = entI key xs bs i ++ [(key x, b, .int ((i + xs.length : Nat) : Int))]
  | [], [], i, _ => rfl
  | y :: xs, c :: bs, i, h => by
    show _ :: entI key (xs ++ [x]) (bs ++ [b]) (i + 1) = _ :: (entI key xs bs (i + 1) ++ _)
    rw [entI_snoc key x b (i + 1) (Nat.succ.inj h)]
    have : i + 1 + xs.length = i + (y :: xs).length := by
      rw [List.length_cons]
      omega
    rw [this]
  | [], _ :: _, _, h => nomatch h
  | _ :: _, [], _, h => nomatch h
theorem entI_none {α : Type} {key : α → NestedKey} (inj : ∀ x y, key x = key y → x = y) {k : α} : ∀ {xs : List α} {bs : List Addr} (i : Nat), k ∉ xs → valN (entI key xs bs i) (key k) = none
  | [], _, _, _ => rfl
  | x :: xs, [], _, _ => rfl
  | x :: xs, b :: bs, i, h => by
    have e : ¬ key x = key k := fun z => h (by rw [inj _ _ z]; exact List.mem_cons_self)
    have : valN (entI key (x :: xs) (b :: bs) i) (key k) = valN (entI key xs bs (i + 1)) (key k) := by simp [valN, entI, e]
    rw [this]
    exact entI_none inj (i + 1) fun z => h (List.mem_cons_of_mem _ z)
theorem entI_some {α : Type} {key : α → NestedKey} (inj : ∀ x y, key x = key y → x = y) {k : α} : ∀ {xs : List α} {bs : List Addr} (i : Nat), xs.length = bs.length → k ∈ xs → ∃ j : Nat, xs[j]? = some k ∧ valN (entI key xs bs i) (key k) = some (.int ((i + j : Nat) : Int))
  | [], _, _, _, h => nomatch h
  | x :: xs, [], _, h, _ => nomatch h
  | x :: xs, b :: bs, i, hl, h => by
    by_cases e : x = k
    · subst e
      exact ⟨0, rfl, by simp [valN, entI]⟩
    · have e' : ¬ key x = key k := fun z => e (inj _ _ z)
      obtain ⟨j, h1, h2⟩ := entI_some inj (i + 1) (Nat.succ.inj hl) ((List.mem_cons.mp h).resolve_left fun z => e z.symm)
      refine ⟨j + 1, h1, ?_⟩
      have : valN (entI key (x :: xs) (b :: bs) i) (key k) = valN (entI key xs bs (i + 1)) (key k) := by simp [valN, entI, e']
      rw [this, h2]
      have : i + 1 + j = i + (j + 1) := by omega
      rw [this]
theorem entI_mem {α : Type} {key : α → NestedKey} {R : α → Addr → Prop} : ∀ {xs : List α} {bs : List Addr} {i : Nat} {e : Ent}, Paired R xs bs → e ∈ entI key xs bs i → ∃ x b, R x b ∧ e.1 = key x ∧ e.2.1 = b ∧ x ∈ xs
  | _, _, _, _, .nil, h => nomatch h
  | _, _, i, e, .cons (a := x) (b := b) r t, h => by
    rcases List.mem_cons.mp h with rfl | h
    · exact ⟨x, b, r, rfl, rfl, List.mem_cons_self⟩
    · obtain ⟨x, b, h1, h2, h3, h4⟩ := entI_mem t h
      exact ⟨x, b, h1, h2, h3, List.mem_cons_of_mem _ h4⟩
end K22

set_option Elab.async false
set_option linter.all false
set_option maxHeartbeats 400000
namespace K22
open PySem PySem.Spec PyProof.Rows L2
/-! ### games, attractors -/
structure Gm where
  os : List Bool
  prs : List Nat
  mv : List (List Nat)
namespace Gm
def n (G : Gm) : Nat := G.mv.length
def own (G : Gm) (x : Nat) : Bool := G.os.getD x false
def pri (G : Gm) (x : Nat) : Nat := G.prs.getD x 0
def mvs (G : Gm) (x : Nat) : List Nat := G.mv.getD x []
structure Ok (G : Gm) : Prop where
  l1 : G.os.length = G.n
  l2 : G.prs.length = G.n
  up : ∀ x, (G.mvs x).Pairwise (· < ·)
  lt : ∀ x y, y ∈ G.mvs x → y < G.n
  le : G.n ≤ 51200
end Gm
theorem Gm.Ok.nd {G : Gm} (h : G.Ok) (x : Nat) : (G.mvs x).Nodup := List.Pairwise.imp (fun {a b} z => by omega) (h.up x)
/-- a set that the player's opponent need not leave, disjoint from T -/
def Trap (G : Gm) (I : Nat → Bool) (pl : Bool) (V : Nat → Prop) : Prop := ∀ x, V x → I x = true → (G.own x = pl → ∀ y ∈ G.mvs x, I y = true → V y) ∧ (G.own x ≠ pl → ∃ y ∈ G.mvs x, I y = true ∧ V y)
structure AttOk (G : Gm) (I : Nat → Bool) (pl : Bool) (T Q : List Nat) : Prop where
  tq : ∀ t ∈ T, t ∈ Q
  nd : Q.Nodup
  sub : ∀ x ∈ Q, x < G.n ∧ I x = true
  own : ∀ x, x < G.n → I x = true → x ∉ Q → G.own x = pl → ∀ y ∈ G.mvs x, y ∉ Q
  opp : ∀ x, x < G.n → I x = true → x ∉ Q → G.own x ≠ pl → ∀ y ∈ G.mvs x, y ∈ Q → ∃ z ∈ G.mvs x, I z = true ∧ z ∉ Q
  trap : ∀ V, Trap G I pl V → (∀ t ∈ T, ¬ V t) → ∀ x ∈ Q, ¬ V x
/-- how many moves of x are done; lie inside -/
def cntD (G : Gm) (D : Nat → Nat → Bool) (x : Nat) : Nat := ((G.mvs x).filter fun t => D x t).length
def insN (G : Gm) (I : Nat → Bool) (x : Nat) : Nat := ((G.mvs x).filter fun t => I t).length
structure AInv (G : Gm) (I : Nat → Bool) (pl : Bool) (T : List Nat) (D : Nat → Nat → Bool) (qs : List Nat) (left : List (Key × V)) : Prop where
  tq : ∀ t ∈ T, t ∈ qs
  nd : qs.Nodup
  sub : ∀ x ∈ qs, x < G.n ∧ I x = true
  dn : ∀ x t, D x t = true → t ∈ qs
  own : ∀ x, x < G.n → I x = true → x ∉ qs → G.own x = pl → ∀ t ∈ G.mvs x, D x t = false
  opp : ∀ x, x < G.n → I x = true → x ∉ qs → G.own x ≠ pl → valV left (Sum.inl (x : Int)) = (if cntD G D x = 0 then none else some (.int ((insN G I x : Int) - (cntD G D x : Nat)))) ∧ (cntD G D x = 0 ∨ cntD G D x < insN G I x)
  trap : ∀ V, Trap G I pl V → (∀ t ∈ T, ¬ V t) → ∀ x ∈ qs, ¬ V x
theorem cntD_congr {G : Gm} {D D' : Nat → Nat → Bool} {x : Nat} (h : ∀ t ∈ G.mvs x, D x t = D' x t) : cntD G D x = cntD G D' x := by
  unfold cntD
  rw [List.filter_congr h]
theorem AInv.congr {G : Gm} {I : Nat → Bool} {pl : Bool} {T : List Nat} {D D' : Nat → Nat → Bool} {qs : List Nat} {left : List (Key × V)} (A : AInv G I pl T D qs left) (h : ∀ x, ∀ t ∈ G.mvs x, D x t = D' x t) (hd : ∀ x t, D' x t = true → t ∈ qs) : AInv G I pl T D' qs left :=
  ⟨A.tq, A.nd, A.sub, hd, fun x h1 h2 h3 h4 t ht => by rw [← h x t ht]; exact A.own x h1 h2 h3 h4 t ht, fun x h1 h2 h3 h4 => by rw [← cntD_congr (h x)]; exact A.opp x h1 h2 h3 h4, A.trap⟩
/-- one more move is done -/
def addD (D : Nat → Nat → Bool) (x t0 : Nat) : Nat → Nat → Bool := fun y t => D y t || (decide (y = x) && decide (t = t0))
theorem addD_ne {D : Nat → Nat → Bool} {x t0 y t : Nat} (h : y ≠ x) : addD D x t0 y t = D y t := by
  unfold addD
  rw [decide_eq_false h]
  simp
theorem addD_ne2 {D : Nat → Nat → Bool} {x t0 y t : Nat} (h : t ≠ t0) : addD D x t0 y t = D y t := by
  unfold addD
  rw [decide_eq_false h]
  simp
theorem addD_same {D : Nat → Nat → Bool} {x t0 : Nat} : addD D x t0 x t0 = true := by simp [addD]
theorem addD_dn {D : Nat → Nat → Bool} {x t0 : Nat} {qs : List Nat} (h : ∀ x t, D x t = true → t ∈ qs) (h0 : t0 ∈ qs) : ∀ y t, addD D x t0 y t = true → t ∈ qs := fun y t e => by
  unfold addD at e
  rcases Bool.or_eq_true_iff.mp e with e | e
  · exact h y t e
  · have := of_decide_eq_true (Bool.and_eq_true_iff.mp e).2
    rw [this]
    exact h0
theorem filt_one {l : List Nat} (hn : l.Nodup) {p : Nat → Bool} {t0 : Nat} (h0 : t0 ∈ l) (hp : p t0 = false) : (l.filter fun t => p t || decide (t = t0)).length = (l.filter p).length + 1 := by
  induction l with
  | nil => cases h0
  | cons a l ih =>
    obtain ⟨n1, n2⟩ := List.nodup_cons.mp hn
    by_cases e : a = t0
    · subst e
      have : (l.filter fun t => p t || decide (t = a)) = l.filter p := List.filter_congr fun t ht => by
        have : t ≠ a := fun z => by
          subst z
          exact n1 ht
        simp [this]
      rw [List.filter_cons_of_pos (by simp), this, List.filter_cons_of_neg (by simp [hp])]
      rfl
    · have hm := (List.mem_cons.mp h0).resolve_left fun z => e z.symm
      have ih' := ih n2 hm
      cases hq : p a
      · rw [List.filter_cons_of_neg (by simp [hq, e]), List.filter_cons_of_neg (by simp [hq])]
        exact ih'
      · rw [List.filter_cons_of_pos (by simp [hq]), List.filter_cons_of_pos (by simp [hq]), List.length_cons, List.length_cons, ih']
theorem cntD_add {G : Gm} (h : G.Ok) {D : Nat → Nat → Bool} {x t0 : Nat} (h0 : t0 ∈ G.mvs x) (hD : D x t0 = false) : cntD G (addD D x t0) x = cntD G D x + 1 := by
  unfold cntD
  rw [← filt_one (h.nd x) h0 hD]
  congr 1
  refine List.filter_congr fun t _ => ?_
  simp [addD]
theorem filt_le {l : List Nat} {p q : Nat → Bool} (h : ∀ t ∈ l, p t = true → q t = true) : (l.filter p).length ≤ (l.filter q).length := by
  induction l with
  | nil => exact Nat.le_refl _
  | cons a l ih =>
    have ih' := ih fun t ht => h t (List.mem_cons_of_mem _ ht)
    cases hp : p a
    · rw [List.filter_cons_of_neg (by simp [hp])]
      cases hq : q a
      · rw [List.filter_cons_of_neg (by simp [hq])]
        exact ih'
      · rw [List.filter_cons_of_pos hq]
        exact Nat.le_succ_of_le ih'
    · rw [List.filter_cons_of_pos hp, List.filter_cons_of_pos (h a List.mem_cons_self hp)]
      exact Nat.succ_le_succ ih'
theorem filt_eq {l : List Nat} {p q : Nat → Bool} (h : ∀ t ∈ l, p t = true → q t = true) (e : (l.filter q).length ≤ (l.filter p).length) : ∀ t ∈ l, q t = true → p t = true := by
  induction l with
  | nil => exact fun t ht => nomatch ht
  | cons a l ih =>
    have h' := fun t ht => h t (List.mem_cons_of_mem a ht)
    have le := filt_le h'
    intro t ht hqt
    cases hp : p a with
    | false =>
      have e1 : (a :: l).filter p = l.filter p := List.filter_cons_of_neg (by simp [hp])
      rw [e1] at e
      cases hq : q a with
      | false =>
        have e2 : (a :: l).filter q = l.filter q := List.filter_cons_of_neg (by simp [hq])
        rw [e2] at e
        rcases List.mem_cons.mp ht with rfl | ht
        · rw [hq] at hqt
          cases hqt
        · exact ih h' e t ht hqt
      | true =>
        have e2 : (a :: l).filter q = a :: l.filter q := List.filter_cons_of_pos hq
        rw [e2, List.length_cons] at e
        omega
    | true =>
      have e1 : (a :: l).filter p = a :: l.filter p := List.filter_cons_of_pos hp
      have e2 : (a :: l).filter q = a :: l.filter q := List.filter_cons_of_pos (h a List.mem_cons_self hp)
      rw [e1, e2, List.length_cons, List.length_cons] at e
      rcases List.mem_cons.mp ht with rfl | ht
      · exact hp
      · exact ih h' (by omega) t ht hqt
section
variable {G : Gm} {I : Nat → Bool} {pl : Bool} {T : List Nat} {D : Nat → Nat → Bool} {qs : List Nat} {left : List (Key × V)} {x t0 : Nat}
theorem AInv.cnt_le (A : AInv G I pl T D qs left) (x : Nat) : cntD G D x ≤ insN G I x := filt_le fun t _ h => (A.sub t (A.dn x t h)).2
/-- x is outside, or there already -/
theorem AInv.skip (A : AInv G I pl T D qs left) (h0 : t0 ∈ qs) (hx : I x = false ∨ x ∈ qs) : AInv G I pl T (addD D x t0) qs left := by
  have ne : ∀ y, I y = true → y ∉ qs → y ≠ x := fun y h1 h2 e => by
    subst e
    rcases hx with hx | hx
    · rw [h1] at hx
      cases hx
    · exact h2 hx
  refine ⟨A.tq, A.nd, A.sub, addD_dn A.dn h0, fun y h1 h2 h3 h4 t ht => ?_, fun y h1 h2 h3 h4 => ?_, A.trap⟩
  · rw [addD_ne (ne y h2 h3)]
    exact A.own y h1 h2 h3 h4 t ht
  · rw [cntD_congr (D' := D) fun t _ => addD_ne (ne y h2 h3)]
    exact A.opp y h1 h2 h3 h4
theorem AInv.push (A : AInv G I pl T D qs left) (h0 : t0 ∈ qs) (hn : x < G.n) (hI : I x = true) (hq : x ∉ qs) {left' : List (Key × V)} (hl : ∀ y : Nat, y ≠ x → valV left' (Sum.inl (y : Int)) = valV left (Sum.inl (y : Int)))
    (ht : ∀ V, Trap G I pl V → (∀ t ∈ T, ¬ V t) → ¬ V x) : AInv G I pl T (addD D x t0) (qs ++ [x]) left' := by
  have mem : ∀ y, y ∉ qs ++ [x] → y ∉ qs ∧ y ≠ x := fun y h => ⟨fun z => h (List.mem_append_left _ z), fun z => h (List.mem_append_right _ (List.mem_singleton.mpr z))⟩
  refine ⟨fun t h => List.mem_append_left _ (A.tq t h), nodup_snoc A.nd hq, fun y hy => ?_, fun y t h => List.mem_append_left _ (addD_dn A.dn h0 y t h), fun y h1 h2 h3 h4 t h5 => ?_, fun y h1 h2 h3 h4 => ?_, fun V hV hT y hy => ?_⟩
  · rcases List.mem_append.mp hy with h | h
    · exact A.sub y h
    · rw [List.mem_singleton.mp h]
      exact ⟨hn, hI⟩
  · obtain ⟨m1, m2⟩ := mem y h3
    rw [addD_ne m2]
    exact A.own y h1 h2 m1 h4 t h5
  · obtain ⟨m1, m2⟩ := mem y h3
    rw [cntD_congr (D' := D) fun t _ => addD_ne m2, hl y m2]
    exact A.opp y h1 h2 m1 h4
  · rcases List.mem_append.mp hy with h | h
    · exact A.trap V hV hT y h
    · rw [List.mem_singleton.mp h]
      exact ht V hV hT
theorem AInv.ownS (A : AInv G I pl T D qs left) (h0 : t0 ∈ qs) (hm : t0 ∈ G.mvs x) (hn : x < G.n) (hI : I x = true) (hq : x ∉ qs) (ho : G.own x = pl) : AInv G I pl T (addD D x t0) (qs ++ [x]) left :=
  A.push h0 hn hI hq (fun _ _ => rfl) fun V hV hT hx => A.trap V hV hT t0 h0 ((hV x hx hI).1 ho t0 hm (A.sub t0 h0).2)
theorem AInv.oppS (ok : G.Ok) (A : AInv G I pl T D qs left) (h0 : t0 ∈ qs) (hm : t0 ∈ G.mvs x) (hD : D x t0 = false) (hn : x < G.n) (hI : I x = true) (hq : x ∉ qs) (ho : G.own x ≠ pl) {left' : List (Key × V)}
    (hl : ∀ y : Nat, y ≠ x → valV left' (Sum.inl (y : Int)) = valV left (Sum.inl (y : Int))) (hx : valV left' (Sum.inl (x : Int)) = some (.int ((insN G I x : Int) - (cntD G D x : Nat) - 1))) :
    cntD G D x < insN G I x ∧ ((insN G I x : Int) - (cntD G D x : Nat) - 1 = 0 → AInv G I pl T (addD D x t0) (qs ++ [x]) left') ∧ ((insN G I x : Int) - (cntD G D x : Nat) - 1 ≠ 0 → AInv G I pl T (addD D x t0) qs left') := by
  have hc := cntD_add ok hm hD
  have dn' := addD_dn (x := x) A.dn h0
  have le : cntD G (addD D x t0) x ≤ insN G I x := filt_le fun t _ h => (A.sub t (dn' x t h)).2
  refine ⟨by omega, fun e => ?_, fun e => ?_⟩
  · refine A.push h0 hn hI hq hl fun V hV hT hVx => ?_
    obtain ⟨y, hy, hIy, hVy⟩ := (hV x hVx hI).2 ho
    have all := filt_eq (l := G.mvs x) (p := fun t => addD D x t0 x t) (q := fun t => I t) (fun t _ h => (A.sub t (dn' x t h)).2) (by show insN G I x ≤ cntD G (addD D x t0) x; omega)
    exact A.trap V hV hT y (dn' x y (all y hy hIy)) hVy
  · refine ⟨A.tq, A.nd, A.sub, dn', fun y h1 h2 h3 h4 t h5 => ?_, fun y h1 h2 h3 h4 => ?_, A.trap⟩
    · have : y ≠ x := fun z => ho (z ▸ h4)
      rw [addD_ne this]
      exact A.own y h1 h2 h3 h4 t h5
    · by_cases ey : y = x
      · subst ey
        rw [hc, hx]
        refine ⟨?_, .inr (by omega)⟩
        rw [if_neg (by omega)]
        congr 2
        omega
      · rw [cntD_congr (D' := D) fun t _ => addD_ne ey, hl y ey]
        exact A.opp y h1 h2 h3 h4
/-- the start -/
theorem AInv.start (nd : T.Nodup) (hT : ∀ t ∈ T, t < G.n ∧ I t = true) : AInv G I pl T (fun _ _ => false) T [] := by
  have z : ∀ x, cntD G (fun _ _ => false) x = 0 := fun x => by
    unfold cntD
    rw [List.filter_eq_nil_iff.mpr fun t _ => by simp]
    rfl
  refine ⟨fun _ h => h, nd, hT, (fun _ _ h => nomatch h), (fun _ _ _ _ _ _ _ => rfl), (fun x _ _ _ _ => ?_), fun V _ hV => hV⟩
  rw [z x]
  exact ⟨rfl, .inl rfl⟩
/-- the end: every move into the queue is done -/
theorem AInv.fin (A : AInv G I pl T D qs left) (h : ∀ x, ∀ t ∈ G.mvs x, t ∈ qs → D x t = true) : AttOk G I pl T qs := by
  refine ⟨A.tq, A.nd, A.sub, fun x h1 h2 h3 h4 y hy hq => ?_, fun x h1 h2 h3 h4 y hy hq => ?_, A.trap⟩
  · have e1 := A.own x h1 h2 h3 h4 y hy
    rw [h x y hy hq] at e1
    cases e1
  · obtain ⟨_, hc⟩ := A.opp x h1 h2 h3 h4
    have pos : 0 < cntD G D x := List.length_pos_of_mem (List.mem_filter.mpr ⟨hy, h x y hy hq⟩)
    have lt : cntD G D x < insN G I x := hc.resolve_left (by omega)
    refine Classical.byContradiction fun no => ?_
    have : insN G I x ≤ cntD G D x := filt_le fun t ht hIt => by
      refine h x t ht (Classical.byContradiction fun nq => no ⟨t, ht, hIt, nq⟩)
    omega
end
end K22

set_option Elab.async false
set_option linter.all false
set_option maxHeartbeats 400000
namespace K22
/-! ### certificates: who has one wins -/
/-- a's successor b behind a position of priority p, for the player pl -/
def Dec (pl : Bool) (p : Nat) (a b : Nat → Nat) : Prop := (∀ q, p ≤ q → b q ≤ a q) ∧ ((p % 2 == 1) ≠ pl → b p < a p)
structure Cert (G : Gm) (pl : Bool) (I : Nat → Bool) (C : Nat → (Nat → Nat) → Prop) : Prop where
  own : ∀ x a, I x = true → C x a → G.own x = pl → ∃ y ∈ G.mvs x, I y = true ∧ ∃ b, C y b ∧ Dec pl (G.pri x) a b
  opp : ∀ x a, I x = true → C x a → G.own x ≠ pl → ∀ y ∈ G.mvs x, I y = true → ∃ b, C y b ∧ Dec pl (G.pri x) a b
/-- the winners w are right for all certificates -/
def Sep (G : Gm) (I : Nat → Bool) (w : Nat → Bool) : Prop := ∀ pl C, Cert G pl I C → ∀ x a, I x = true → C x a → w x = pl
/-- each position inside has a move inside -/
def Live (G : Gm) (I : Nat → Bool) : Prop := ∀ x, I x = true → ∃ y ∈ G.mvs x, I y = true
def minus (I : Nat → Bool) (Q : List Nat) : Nat → Bool := fun x => I x && !decide (x ∈ Q)
theorem minus_t {I : Nat → Bool} {Q : List Nat} {x : Nat} : minus I Q x = true ↔ I x = true ∧ x ∉ Q := by
  unfold minus
  rw [Bool.and_eq_true, Bool.not_eq_true', decide_eq_false_iff_not]
theorem Cert.trap {G : Gm} {pl : Bool} {I : Nat → Bool} {C : Nat → (Nat → Nat) → Prop} (c : Cert G pl I C) : Trap G I (!pl) fun x => ∃ a, C x a := fun x ⟨a, h⟩ hI => by
  refine ⟨fun e y hy hIy => ?_, fun e => ?_⟩
  · obtain ⟨b, hb, _⟩ := c.opp x a hI h (by rw [e]; cases pl <;> decide) y hy hIy
    exact ⟨b, hb⟩
  · obtain ⟨y, hy, hIy, b, hb, _⟩ := c.own x a hI h (by revert e; cases G.own x <;> cases pl <;> simp)
    exact ⟨y, hy, hIy, b, hb⟩
/-- behind an attractor of its own player a certificate stays one -/
theorem Cert.off {G : Gm} {pl : Bool} {I : Nat → Bool} {C : Nat → (Nat → Nat) → Prop} (c : Cert G pl I C) {T Q : List Nat} (hI : ∀ x, I x = true → x < G.n) (A : AttOk G I pl T Q) : Cert G pl (minus I Q) C := by
  refine ⟨fun x a hx h e => ?_, fun x a hx h e y hy hIy => ?_⟩
  · obtain ⟨hx1, hx2⟩ := minus_t.mp hx
    obtain ⟨y, hy, hIy, b, hb, d⟩ := c.own x a hx1 h e
    exact ⟨y, hy, minus_t.mpr ⟨hIy, A.own x (hI x hx1) hx1 hx2 e y hy⟩, b, hb, d⟩
  · exact c.opp x a (minus_t.mp hx).1 h e y hy (minus_t.mp hIy).1
/-- .. and behind one that it doesn't meet -/
theorem Cert.off' {G : Gm} {pl : Bool} {I : Nat → Bool} {C : Nat → (Nat → Nat) → Prop} (c : Cert G pl I C) {Q : List Nat} (h : ∀ x a, C x a → I x = true → x ∉ Q) : Cert G pl (minus I Q) C := by
  refine ⟨fun x a hx hC e => ?_, fun x a hx hC e y hy hIy => ?_⟩
  · obtain ⟨hx1, hx2⟩ := minus_t.mp hx
    obtain ⟨y, hy, hIy, b, hb, d⟩ := c.own x a hx1 hC e
    exact ⟨y, hy, minus_t.mpr ⟨hIy, h y b hb hIy⟩, b, hb, d⟩
  · exact c.opp x a (minus_t.mp hx).1 hC e y hy (minus_t.mp hIy).1
theorem Live.off {G : Gm} {pl : Bool} {I : Nat → Bool} {T Q : List Nat} (l : Live G I) (hI : ∀ x, I x = true → x < G.n) (A : AttOk G I pl T Q) : Live G (minus I Q) := fun x hx => by
  obtain ⟨hx1, hx2⟩ := minus_t.mp hx
  obtain ⟨y, hy, hIy⟩ := l x hx1
  by_cases e : G.own x = pl
  · exact ⟨y, hy, minus_t.mpr ⟨hIy, A.own x (hI x hx1) hx1 hx2 e y hy⟩⟩
  · by_cases hq : y ∈ Q
    · obtain ⟨z, hz, h1, h2⟩ := A.opp x (hI x hx1) hx1 hx2 e y hy hq
      exact ⟨z, hz, minus_t.mpr ⟨h1, h2⟩⟩
    · exact ⟨y, hy, minus_t.mpr ⟨hIy, hq⟩⟩
/-- no lost position: the player of the greatest priority wins all -/
theorem sep_all {G : Gm} {I : Nat → Bool} {top : Nat} {H N : List Nat} {w : Nat → Bool} (hI : ∀ x, I x = true → x < G.n) (l : Live G I) (ht : ∀ x, I x = true → G.pri x ≤ top) (hH : ∀ x, x ∈ H ↔ I x = true ∧ G.pri x = top)
    (A : AttOk G I (top % 2 == 1) H N) (S : Sep G (minus I N) w) (no : ∀ x, minus I N x = true → w x = (top % 2 == 1)) : Sep G I fun _ => (top % 2 == 1) := by
  intro pl C c x a hx h
  refine Classical.byContradiction fun ne => ?_
  have ne' : pl = !(top % 2 == 1) := by
    revert ne
    generalize (top % 2 == 1) = b
    cases b <;> cases pl <;> simp
  -- the least value at top
  have least : ∃ m, (∃ x a, I x = true ∧ C x a ∧ a top = m) ∧ ∀ x a, I x = true → C x a → m ≤ a top := by
    have ex : ∃ m, ∃ x a, I x = true ∧ C x a ∧ a top = m := ⟨_, x, a, hx, h, rfl⟩
    have : ∀ n, (∃ x a, I x = true ∧ C x a ∧ a top = n) → ∃ m, (∃ x a, I x = true ∧ C x a ∧ a top = m) ∧ ∀ x a, I x = true → C x a → m ≤ a top := by
      intro n
      induction n using Nat.strongRecOn with
      | ind n ih =>
        intro hn
        by_cases q : ∃ x a, I x = true ∧ C x a ∧ a top < n
        · obtain ⟨x, a, h1, h2, h3⟩ := q
          exact ih _ h3 ⟨x, a, h1, h2, rfl⟩
        · exact ⟨n, hn, fun x a h1 h2 => Nat.le_of_not_lt fun h3 => q ⟨x, a, h1, h2, h3⟩⟩
    obtain ⟨m, hm⟩ := ex
    exact this m hm
  obtain ⟨m, ⟨x0, a0, hx0, h0, e0⟩, hmin⟩ := least
  have step : ∀ x a b, I x = true → C x a → a top = m → Dec pl (G.pri x) a b → ∀ y, I y = true → C y b → b top = m ∧ G.pri x ≠ top := fun x a b hx hC e d y hy hb => by
    have h1 := d.1 top (ht x hx)
    have h2 := hmin y b hy hb
    refine ⟨by omega, fun e2 => ?_⟩
    have h3 := d.2 (by rw [e2, ne']; generalize (top % 2 == 1) = b; cases b <;> decide)
    rw [e2] at h3
    omega
  -- the part with that value
  have c' : Cert G pl I fun x a => C x a ∧ a top = m := by
    refine ⟨fun x a hx hC e => ?_, fun x a hx hC e y hy hIy => ?_⟩
    · obtain ⟨y, hy, hIy, b, hb, d⟩ := c.own x a hx hC.1 e
      exact ⟨y, hy, hIy, b, ⟨hb, (step x a b hx hC.1 hC.2 d y hIy hb).1⟩, d⟩
    · obtain ⟨b, hb, d⟩ := c.opp x a hx hC.1 e y hy hIy
      exact ⟨b, ⟨hb, (step x a b hx hC.1 hC.2 d y hIy hb).1⟩, d⟩
  have nh : ∀ x a, I x = true → C x a → a top = m → G.pri x ≠ top := fun x a hx hC e => by
    by_cases o : G.own x = pl
    · obtain ⟨y, hy, hIy, b, hb, d⟩ := c.own x a hx hC o
      exact (step x a b hx hC e d y hIy hb).2
    · obtain ⟨y, hy, hIy⟩ := l x hx
      obtain ⟨b, hb, d⟩ := c.opp x a hx hC o y hy hIy
      exact (step x a b hx hC e d y hIy hb).2
  have tr := c'.trap
  rw [ne'] at tr
  rw [Bool.not_not] at tr
  have off : ∀ x a, (C x a ∧ a top = m) → I x = true → x ∉ N := fun x a hC hx hN => by
    refine A.trap (fun x => (∃ a, C x a ∧ a top = m) ∧ I x = true) (fun y hy hIy => ?_) (fun t ht' => ?_) x hN ⟨⟨a, hC⟩, hx⟩
    · obtain ⟨t1, t2⟩ := tr y hy.1 hIy
      exact ⟨fun e z hz hIz => ⟨t1 e z hz hIz, hIz⟩, fun e => let ⟨z, hz, h1, h2⟩ := t2 e; ⟨z, hz, h1, h2, h1⟩⟩
    · rintro ⟨⟨b, hb, eb⟩, hIt⟩
      exact nh t b hIt hb eb ((hH t).mp ht').2
  have win := S pl _ (c'.off' off) x0 a0 (minus_t.mpr ⟨hx0, off x0 a0 ⟨h0, e0⟩ hx0⟩) ⟨h0, e0⟩
  rw [no x0 (minus_t.mpr ⟨hx0, off x0 a0 ⟨h0, e0⟩ hx0⟩), ne'] at win
  revert win
  generalize (top % 2 == 1) = b
  cases b <;> decide
/-- lost positions: their attractor is the opponent's, the rest goes on -/
theorem sep_step {G : Gm} {I : Nat → Bool} {pl0 : Bool} {H N L Q : List Nat} {w w' : Nat → Bool} (hI : ∀ x, I x = true → x < G.n) (A : AttOk G I pl0 H N) (S : Sep G (minus I N) w) (hL : ∀ x, x ∈ L ↔ minus I N x = true ∧ w x ≠ pl0)
    (B : AttOk G I (!pl0) L Q) (S' : Sep G (minus I Q) w') : Sep G I fun x => if x ∈ Q then !pl0 else w' x := by
  intro pl C c x a hx h
  by_cases e : pl = pl0
  · subst e
    -- the player's own certificate doesn't meet Q
    have c1 := c.off hI A
    have offL : ∀ t ∈ L, ¬ ((∃ a, C t a) ∧ I t = true) := fun t ht ⟨⟨b, hb⟩, _⟩ => by
      obtain ⟨h1, h2⟩ := (hL t).mp ht
      exact h2 (S pl C c1 t b h1 hb)
    have off : ∀ x a, C x a → I x = true → x ∉ Q := fun x a hC hx hQ => by
      refine B.trap (fun x => (∃ a, C x a) ∧ I x = true) (fun y hy hIy => ?_) offL x hQ ⟨⟨a, hC⟩, hx⟩
      obtain ⟨t1, t2⟩ := c.trap y hy.1 hIy
      exact ⟨fun e z hz hIz => ⟨t1 e z hz hIz, hIz⟩, fun e => let ⟨z, hz, h1, h2⟩ := t2 e; ⟨z, hz, h1, h2, h1⟩⟩
    have nq := off x a h hx
    show (if x ∈ Q then _ else w' x) = pl
    rw [if_neg nq]
    exact S' pl C (c.off' off) x a (minus_t.mpr ⟨hx, nq⟩) h
  · have e' : pl = !pl0 := by
      revert e
      cases pl <;> cases pl0 <;> simp
    show (if x ∈ Q then !pl0 else w' x) = pl
    by_cases nq : x ∈ Q
    · rw [if_pos nq, e']
    · rw [if_neg nq]
      rw [← e'] at B
      exact S' pl C (c.off hI B) x a (minus_t.mpr ⟨hx, nq⟩) h
theorem Sep.congr {G : Gm} {I I' : Nat → Bool} {w w' : Nat → Bool} (S : Sep G I w) (h : ∀ x, I x = I' x) (hw : ∀ x, I x = true → w x = w' x) : Sep G I' w' := by
  have e : I = I' := funext h
  subst e
  exact fun pl C c x a hx hC => by rw [← hw x hx]; exact S pl C c x a hx hC
theorem Sep.nil {G : Gm} {I : Nat → Bool} {w : Nat → Bool} (h : ∀ x, I x = false) : Sep G I w := fun pl C c x a hx _ => by
  rw [h x] at hx
  cases hx
/-- the ends first -/
theorem sep_ends {G : Gm} (ok : G.Ok) {I : Nat → Bool} (hI : ∀ x, I x = true ↔ x < G.n) {E0 E1 A0 A1 : List Nat} (h0 : ∀ x, x ∈ E0 ↔ x < G.n ∧ G.mvs x = [] ∧ G.own x = true) (h1 : ∀ x, x ∈ E1 ↔ x < G.n ∧ G.mvs x = [] ∧ G.own x = false)
    (B0 : AttOk G I false E0 A0) (B1 : AttOk G I true E1 A1) {J : Nat → Bool} (hJ : ∀ x, J x = true ↔ x < G.n ∧ x ∉ A0 ∧ x ∉ A1) :
    Live G J ∧ ∀ w : Nat → Bool, Sep G J w → ∀ pl C, Cert G pl I C → ∀ x a, x < G.n → C x a → (if x ∈ A1 then true else if x ∈ A0 then false else w x) = pl := by
  have live : Live G J := fun x hx => by
    obtain ⟨hn, n0, n1⟩ := (hJ x).mp hx
    have hx' := (hI x).mpr hn
    have ne : G.mvs x ≠ [] := fun e => by
      cases o : G.own x with
      | true => exact n0 (B0.tq x ((h0 x).mpr ⟨hn, e, o⟩))
      | false => exact n1 (B1.tq x ((h1 x).mpr ⟨hn, e, o⟩))
    cases o : G.own x with
    | true =>
      -- its owner is 1: no move into A1; some move out of A0
      obtain ⟨y, hy⟩ := List.exists_mem_of_ne_nil _ ne
      have y1 : ∀ y ∈ G.mvs x, y ∉ A1 := B1.own x hn hx' n1 o
      by_cases q : y ∈ A0
      · obtain ⟨z, hz, _, z0⟩ := B0.opp x hn hx' n0 (by rw [o]; decide) y hy q
        exact ⟨z, hz, (hJ z).mpr ⟨ok.lt x z hz, z0, y1 z hz⟩⟩
      · exact ⟨y, hy, (hJ y).mpr ⟨ok.lt x y hy, q, y1 y hy⟩⟩
    | false =>
      obtain ⟨y, hy⟩ := List.exists_mem_of_ne_nil _ ne
      have y0 : ∀ y ∈ G.mvs x, y ∉ A0 := B0.own x hn hx' n0 o
      by_cases q : y ∈ A1
      · obtain ⟨z, hz, _, z1⟩ := B1.opp x hn hx' n1 (by rw [o]; decide) y hy q
        exact ⟨z, hz, (hJ z).mpr ⟨ok.lt x z hz, y0 z hz, z1⟩⟩
      · exact ⟨y, hy, (hJ y).mpr ⟨ok.lt x y hy, y0 y hy, q⟩⟩
  refine ⟨live, fun w S pl C c x a hx h => ?_⟩
  have tr : Trap G I (!pl) fun x => (∃ a, C x a) ∧ I x = true := fun y hy hIy => by
    obtain ⟨t1, t2⟩ := c.trap y hy.1 hIy
    exact ⟨fun e z hz hIz => ⟨t1 e z hz hIz, hIz⟩, fun e => let ⟨z, hz, h1, h2⟩ := t2 e; ⟨z, hz, h1, h2, h1⟩⟩
  have dead : ∀ t, ((∃ a, C t a) ∧ I t = true) → G.mvs t = [] → G.own t = pl → False := fun t ⟨⟨b, hb⟩, ht⟩ e o => by
    obtain ⟨y, hy, _⟩ := c.own t b ht hb o
    rw [e] at hy
    cases hy
  cases pl with
  | true =>
    have off : ∀ x a, C x a → I x = true → x ∉ A0 := fun x a hC hx hQ => B0.trap _ tr (fun t ht hV => dead t hV ((h0 t).mp ht).2.1 ((h0 t).mp ht).2.2) x hQ ⟨⟨a, hC⟩, hx⟩
    by_cases q1 : x ∈ A1
    · rw [if_pos q1]
    · have q0 := off x a h ((hI x).mpr hx)
      rw [if_neg q1, if_neg q0]
      have c1 := (c.off (fun x hx => (hI x).mp hx) B1).off' (Q := A0) fun x a hC hx => off x a hC (minus_t.mp hx).1
      have e : minus (minus I A1) A0 = J := funext fun y => Bool.eq_iff_iff.mpr (by rw [minus_t, minus_t, hJ, hI]; exact ⟨fun ⟨⟨a, b⟩, c⟩ => ⟨a, c, b⟩, fun ⟨a, c, b⟩ => ⟨⟨a, b⟩, c⟩⟩)
      rw [e] at c1
      exact S true C c1 x a ((hJ x).mpr ⟨hx, q0, q1⟩) h
  | false =>
    have off : ∀ x a, C x a → I x = true → x ∉ A1 := fun x a hC hx hQ => B1.trap _ tr (fun t ht hV => dead t hV ((h1 t).mp ht).2.1 ((h1 t).mp ht).2.2) x hQ ⟨⟨a, hC⟩, hx⟩
    have q1 := off x a h ((hI x).mpr hx)
    rw [if_neg q1]
    by_cases q0 : x ∈ A0
    · rw [if_pos q0]
    · rw [if_neg q0]
      have c1 := (c.off (fun x hx => (hI x).mp hx) B0).off' (Q := A1) fun x a hC hx => off x a hC (minus_t.mp hx).1
      have e : minus (minus I A0) A1 = J := funext fun y => Bool.eq_iff_iff.mpr (by rw [minus_t, minus_t, hJ, hI]; exact ⟨fun ⟨⟨a, b⟩, c⟩ => ⟨a, b, c⟩, fun ⟨a, b, c⟩ => ⟨⟨a, b⟩, c⟩⟩)
      rw [e] at c1
      exact S false C c1 x a ((hJ x).mpr ⟨hx, q0, q1⟩) h
end K22

set_option Elab.async false
set_option linter.all false
set_option maxRecDepth 100000
set_option maxHeartbeats 1000000
namespace K22
open PySem PySem.Spec PyProof.Rows L2
local macro_rules | `(tactic| walk_at "go1") => `(tactic| with_reducible first
  | refine g_seq ?_ | refine g_asg ?_ | refine g_name ?_ | refine g_c ?_ | refine g_op ?_ | refine g_cons ?_ | refine g_nil ?_ | refine g_cb ?_ | refine g_call ?_ | refine g_meth ?_
  | refine g_I0 ?_ | refine g_ret ?_ | refine g_retN ?_ | refine g_drop ?_ | refine g_if ?_ | refine g_test ?_ | refine g_tB ?_ | refine g_bool ?_
  | refine g_not ?_ | refine g_and ?_ | refine g_or ?_ | refine g_yes ?_ | refine g_tup ?_ | refine g_lst ?_ | refine g_slice ?_ | refine g_part ?_ | refine g_nopart ?_ | refine g_int ?_ | refine g_fld ?_ | refine g_dget ?_
  | refine g_din ?_ | refine g_dnotin ?_ | refine g_bm0 ?_ | refine g_bm ?_ | refine g_ifexp ?_ | refine g_andv ?_ | refine g_orv ?_ | refine g_notv ?_ | refine g_chain ?_ | refine g_U ?_ | refine g_next ?_ | refine g_brk ?_ | refine g_cont ?_
  | refine g_sfld ?_ | refine g_sdput ?_ | refine g_gtup ?_ | refine g_gcons ?_ | refine g_gnil ?_ | refine g_gsub ?_ | refine g_forT ?_ | refine g_forL ?_ | refine g_forR ?_ | refine g_lcT ?_ | refine g_lcL ?_ | refine g_lcR ?_ | refine g_un ?_ | refine g_sfa ?_ | refine g_ip ?_ | refine g_nin ?_ | refine g_nnot ?_ | refine g_nget ?_ | refine g_nput ?_ | refine g_ndisp ?_ | refine g_addI ?_ | refine g_subI ?_
  | (show Ends.nx _ _ _; refine g_nxm ?_) | (show Ends.rt _ _ _; refine g_rtm ?_) | (show Ends.bk _ _ _; refine g_bkm ?_) | (show Ends.ct _ _ _; refine g_ctm ?_))
local macro_rules | `(tactic| walk_at "go2") => `(tactic| first
  | ((with_reducible show tVar _ _ _ _); refine g_var rfl ?_)
  | ((with_reducible show rEq _ _ _ _); refine g_eq rfl ?_)
  | ((with_reducible show rNe _ _ _ _); refine g_ne rfl ?_)
  | ((with_reducible show tAug _ _ _ _ _ _); refine g_aug rfl ?_))
local macro_rules | `(tactic| walk_at "go") => `(tactic| repeat (first | walk_at "go1" | walk_at "go2"))
section
variable {P : Program} {w : World} {K : PySem.W.Frag} {mg : Str → Option Value} {base : Heap}
/-- the list and the dict of a closure that is made -/
structure CloSt (P : Program) (w : World) (H0 H : Hp) (l d : Addr) (fs : List F) (as : List Addr) : Prop where
  s : Same H0 H
  l0 : H0 l = none
  d0 : H0 d = none
  ne : l ≠ d
  hl : H l = some (.lst (as.map V.ref))
  fa : FAs H fs as
  nd : NDict P w H d (ents fs as)
theorem CloSt.same {H0 H H' : Hp} {l d : Addr} {fs : List F} {as : List Addr} (c : CloSt P w H0 H l d fs as) (s : Same H H') : CloSt P w H0 H' l d fs as := ⟨c.s.trans s, c.l0, c.d0, c.ne, s _ _ c.hl, c.fa.mono s, c.nd.mono s⟩
def spClosure : Sp := fun vs H Q _ => ∃ (a : Addr) (f : F), vs = [.ref a] ∧ FA H f a ∧ f.Closed ∧ f.ht ≤ 3 ∧ ∀ p as cs H', H p = none → Same H H' → H' p = some (.lst (as.map V.ref)) → FAs H' cs as → CloOk f cs → Q (.ref p) H'
-- slots of closure: 0:statement 1:found 2:seen 3:at 4:part
abbrev n_closure : List Str := ["statement", "found", "seen", "at", "part"]
theorem sc_closure : FnScope n_closure p_closure (defScope s_closure) := ⟨rfl, rfl, rfl, by decide +kernel, rfl, by decide +kernel, by decide +kernel⟩
theorem ok_closure (T : Top w K mg) : Ok P w K mg base 17 a_closure p_closure spClosure := by
  have G_tidy := ok_tidy (P := P) (base := base) T
  have G_next_in_closure := ok_next_in_closure (P := P) (base := base) T
  refine T.F_closure.ok sc_closure (fun vs H Q E h => ?_) (fun cdv A outer s H vs Q E hr h => ?_)
  · obtain ⟨a, f, rfl, _⟩ := h
    rfl
  · obtain ⟨a, f, rfl, hf, hc, hn, k⟩ := h
    have hu : (A.deeper (envOfC "closure" (defScope s_closure) s.heap.objs.size (He.fAd K a_closure) cdv)).units + 64 < cLine := hr.units
    refine ⟨_, PSs.nox (pss_cons (ps_set (i := 1) sc_closure.nd rfl (Or.inl rfl) (pe_lst (pa_cons (pe_call G_tidy (hr.mono (by omega)) rfl T.g_tidy T.F_tidy.kp T.b_tidy .nil pass0 (pa_cons (pv 0) pa_nil)) pa_nil)))
    (pss_cons (ps_set (i := 2) sc_closure.nd rfl (Or.inl rfl) (pe_ndisp P w hu (pe_ix (ki_list K) (pv 1) pe_int (fun _ _ => rfl)) pe_bl))
    (pss_cons (ps_set (i := 3) sc_closure.nd rfl (Or.inl rfl) pe_int)
    (pss_cons (ps_while PassesOwn.never (pt_cmpR op_lt (pv 3) (pe_callB (kc_len K) (by rfl) T.z_len bt_len (pa_cons (pv 1) pa_nil)) (nomark _)) (pss_cons (ps_for PassesOwn.never rfl (kpi_list K (pe_call G_next_in_closure (hr.mono (by omega)) rfl T.g_next_in_closure T.F_next_in_closure.kp T.b_next_in_closure .nil pass0 (pa_cons (pe_ix (ki_list K) (pv 1) (pv 3) (fun _ _ => rfl)) pa_nil))) (pg_name (i := 4) sc_closure.nd rfl (Or.inl rfl)) (pss_one (ps_if (pt_cmp (pc_nnotin P w hu (pv 4) (pv 2))) (pss_cons (ps_nput P w hu (pv 2) (pv 4) pe_bl rfl)
          (pss_one (ps_expr (kpe_app K (pv 1) (pv 4))))) pss_nil)))
      (pss_one (ps_aug (i := 3) sc_closure.nd rfl (.inl rfl) pe_int ip_add))))
    (pss_one (ps_ret (pv 1))))))), ?_⟩
    walk_at "go"
    refine ⟨a, f, rfl, hf, hc, by omega, fun t H1 s1 ht => ?_⟩
    walk_at "go"
    refine g_newL 1 rfl (by decide) fun l hl => ?_
    have s2 := s1.new (o := .lst [.ref t]) hl
    walk_at "go"
    intro d hd
    have nld : l ≠ d := ne_of_none upd_same hd
    have s3 := s2.new (o := DNo P w d []) hd
    walk_at "go"
    refine g_ixL (SqL.of (by rw [upd_ne nld]; exact upd_same)) at0 ?_
    walk_at "go"
    have htk := FA.keyV (ht.mono ((same_new (o := .lst [.ref t]) hl).new (o := DNo P w d []) hd))
    have hht : f.tidy.ht ≤ 3 := by rw [tidy_ht]; exact hn
    refine g_rnd upd_same htk (by rw [key_depth]; omega) ?_
    rw [upd_upd]
    have hfin : (upd (upd H1 l (.lst [.ref t])) d (DNo P w d [(f.tidy.key, t, V.bl true)])) l = some (.lst ([t].map V.ref)) := by rw [upd_ne nld]; exact upd_same
    have st0 : CloSt P w H1 (upd (upd H1 l (.lst [.ref t])) d (DNo P w d [(f.tidy.key, t, V.bl true)])) l d [f.tidy] [t] := by
      have sm : Same H1 (upd (upd H1 l (.lst [.ref t])) d (DNo P w d [(f.tidy.key, t, V.bl true)])) := (same_new hl).new hd
      refine ⟨sm, hl, (same_new (o := .lst [.ref t]) hl).free hd, nld, hfin, .cons (ht.mono sm) .nil, upd_same, fun x hx => ?_⟩
      cases List.mem_singleton.mp hx
      exact ⟨FA.keyV (ht.mono sm), by rw [key_depth]; omega⟩
    walk_at "go"
    refine g_while (W := fun m σ' H2 => ∃ (fs : List F) (as : List Addr) (i : Nat) (v : Option V), σ' = [some (.ref a), some (.ref l), some (.ref d), some (.int (i : Nat)), v] ∧ m = 16 - i ∧ i ≤ fs.length ∧ CloSt P w H1 H2 l d fs as ∧ (∃ r, fs = f.tidy :: r) ∧ fs.Nodup ∧ (∀ x ∈ fs, x ∈ f.clos) ∧ ∀ (j : Nat) (x : F), j < i → fs[j]? = some x → ∀ y ∈ x.nxt, y ∈ fs)
      ⟨_, [t], 0, none, rfl, rfl, Nat.zero_le _, st0, ⟨[], rfl⟩, List.nodup_cons.mpr ⟨(fun z => nomatch z), List.nodup_nil⟩, fun x hx => by rw [List.mem_singleton.mp hx]; exact clos_head f, fun j x h => absurd h (Nat.not_lt_zero _)⟩ ?_
    rintro m σ' H2 ⟨fs, as, i, v, rfl, rfl, hi, st, hhd, hnd, hsub, hpr⟩
    have hlen := Paired.length st.fa
    have hl15 : fs.length ≤ 15 := Nat.le_trans (nodup_le hnd hsub) (clos_len hn)
    walk_at "go"
    refine g_len (.inl (SqL.of st.hl)) ?_
    walk_at "go"
    rw [List.length_map, ← hlen]
    refine iteB (c' := decide (i < fs.length)) (by congr 1; exact propext ⟨fun h => by omega, fun h => by omega⟩) (fun hlt => ?_) (fun hlt => ?_)
    · have hlt := of_decide_eq_true hlt
      obtain ⟨x, hx⟩ : ∃ x, fs[i]? = some x := ⟨_, List.getElem?_eq_getElem hlt⟩
      obtain ⟨u, hu', hxu⟩ := Pd.get' st.fa hx
      have hxc := hsub x (List.mem_of_getElem? hx)
      have hxh := clos_ht hn x hxc
      refine ⟨_, fun _ _ h => h, ?_⟩
      walk_at "go"
      refine g_ixL (SqL.of st.hl) (atI_nat (j := i) (v := V.ref u) (by rw [List.getElem?_map, hu']; rfl)) ?_
      walk_at "go"
      refine ⟨u, x, rfl, hxu, by omega, fun p ks H3 hp s3 hp3 hks => ?_⟩
      have st3 := st.same s3
      have npl : p ≠ l := (ne_of_none st.hl hp).symm
      have npd : p ≠ d := (ne_of_none st.nd.at_ hp).symm
      refine g_rforL (SqL.of hp3) (fun j σ' H4 => ∃ (fs' : List F) (as' : List Addr) (v : Option V), σ' = [some (.ref a), some (.ref l), some (.ref d), some (.int (i : Nat)), v] ∧ H4 p = some (.lst (ks.map V.ref)) ∧ FAs H4 x.nxt ks ∧ (∃ e, fs' = fs ++ e) ∧ CloSt P w H1 H4 l d fs' as' ∧ fs'.Nodup ∧ (∀ x ∈ fs', x ∈ f.clos) ∧ ∀ y ∈ x.nxt.take j, y ∈ fs')
        ⟨fs, as, v, rfl, hp3, hks, ⟨[], (List.append_nil _).symm⟩, st3, hnd, hsub, fun y hy => nomatch hy⟩ (fun j _ H4 _ ⟨_, _, _, _, z, _⟩ => SqL.of z) ?_ ?_
      · rintro j y σ' H4 hy ⟨fs', as', v, rfl, hp4, hk4, ⟨e, he⟩, st4, hnd4, hsub4, ht4⟩
        rw [List.getElem?_map] at hy
        obtain ⟨q, hq, rfl⟩ := Option.map_eq_some_iff.mp hy
        obtain ⟨g, hg, hgq⟩ := Pd.get hk4 hq
        have hgn := List.mem_of_getElem? hg
        have hgc : g ∈ f.clos := clos_nxt hc x hxc g hgn
        have hgh := clos_ht hn g hgc
        have hlen4 := Paired.length st4.fa
        have hl4 : fs'.length ≤ 15 := Nat.le_trans (nodup_le hnd4 hsub4) (clos_len hn)
        walk_at "go"
        refine g_rnn st4.nd (FA.keyV hgq) (by rw [key_depth]; omega) ?_
        walk_at "go"
        rw [ents_val g hlen4]
        by_cases hin : g ∈ fs'
        · rw [decide_eq_true hin]
          refine iteF ?_
          walk_at "go"
          refine ⟨fs', as', _, rfl, hp4, hk4, ⟨e, he⟩, st4, hnd4, hsub4, fun y hy => ?_⟩
          rw [take_snoc hg] at hy
          rcases List.mem_append.mp hy with h | h
          · exact ht4 y h
          · rw [List.mem_singleton.mp h]
            exact hin
        · rw [decide_eq_false hin]
          refine iteT ?_
          have hv : valN (ents fs' as') g.key = none := by
            have := ents_val g hlen4 (as := as')
            rw [decide_eq_false hin] at this
            cases q : valN (ents fs' as') g.key with
            | none => rfl
            | some z =>
              rw [q] at this
              cases this
          walk_at "go"
          refine g_rnp st4.nd (FA.keyV hgq) (by rw [key_depth]; omega) hv (lt_line (by rw [ents_len hlen4]; omega)) ?_
          walk_at "go"
          have nd5 := st4.nd.put (b := q) (v := V.bl true) (FA.keyV hgq) (by rw [key_depth]; omega)
          have hl5 : (upd H4 d (DNo P w d (ents fs' as' ++ [(g.key, q, V.bl true)]))) l = some (.lst (as'.map V.ref)) := by rw [upd_ne nld]; exact st4.hl
          refine g_tyL (SqL.of hl5) ?_
          walk_at "go"
          refine g_app hl5 (lt_line (by rw [List.length_map]; omega)) ?_
          walk_at "go"
          have T5 : SameT H4 (upd (upd H4 d (DNo P w d (ents fs' as' ++ [(g.key, q, V.bl true)]))) l (.lst (as'.map V.ref ++ [V.ref q]))) := (st4.nd.t).trans (SameT.lst hl5)
          refine ⟨fs' ++ [g], as' ++ [q], _, rfl, by rw [upd_ne npl, upd_ne npd]; exact hp4, hk4.monoT T5, ⟨e ++ [g], by rw [he, List.append_assoc]⟩, ⟨(st4.s.mut st4.d0).mut st4.l0, st4.l0, st4.d0, nld, by rw [upd_same]; simp, Pd.snoc (hgq.monoT T5) (FAs.monoT T5 st4.fa), ?_⟩, nodup_snoc hnd4 hin, fun z hz => ?_, fun y hy => ?_⟩
          · rw [ents_snoc g q hlen4]
            exact nd5.monoS (SameT.lst hl5) (upd_ne nld.symm)
          · rcases List.mem_append.mp hz with h | h
            · exact hsub4 z h
            · rw [List.mem_singleton.mp h]
              exact hgc
          · rw [take_snoc hg] at hy
            rcases List.mem_append.mp hy with h | h
            · exact List.mem_append_left _ (ht4 y h)
            · exact List.mem_append_right _ h
      · rintro σ' H4 ⟨fs', as', v, rfl, hp4, hk4, ⟨e, rfl⟩, st4, hnd4, hsub4, ht4⟩
        rw [List.take_of_length_le (by rw [List.length_map, Paired.length hk4]; exact Nat.le_refl _)] at ht4
        walk_at "go"
        obtain ⟨r, hr⟩ := hhd
        refine ⟨16 - (i + 1), by omega, fs ++ e, as', i + 1, _, rfl, rfl, by rw [List.length_append]; omega, st4, ⟨r ++ e, by rw [hr]; rfl⟩, hnd4, hsub4, fun j z hj hz y hy => ?_⟩
        by_cases hji : j < i
        · rw [List.getElem?_append_left (by omega)] at hz
          exact List.mem_append_left _ (hpr j z hji hz y hy)
        · have : j = i := by omega
          subst this
          rw [List.getElem?_append_left (by omega), hx] at hz
          cases hz
          exact ht4 y hy
    · have hlt := of_decide_eq_false hlt
      walk_at "go"
      refine k l as fs H2 (s1.free hl) (s1.trans st.s) st.hl st.fa ⟨hhd, hnd, hsub, clos_sub hc (fun x hx y hy => ?_) ?_⟩
      · obtain ⟨j, hj, rfl⟩ := List.mem_iff_getElem.mp hx
        exact hpr j _ (by omega) (List.getElem?_eq_getElem hj) y hy
      · obtain ⟨r, hr⟩ := hhd
        rw [hr]
        exact List.mem_cons_self
end
end K22

set_option Elab.async false
set_option linter.all false
set_option maxRecDepth 100000
set_option maxHeartbeats 1000000
namespace K22
open PySem PySem.Spec PyProof.Rows L2
local macro_rules | `(tactic| walk_at "go1") => `(tactic| with_reducible first
  | refine g_seq ?_ | refine g_asg ?_ | refine g_name ?_ | refine g_c ?_ | refine g_op ?_ | refine g_cons ?_ | refine g_nil ?_ | refine g_cb ?_ | refine g_call ?_ | refine g_meth ?_
  | refine g_I0 ?_ | refine g_ret ?_ | refine g_retN ?_ | refine g_drop ?_ | refine g_if ?_ | refine g_test ?_ | refine g_tB ?_ | refine g_bool ?_
  | refine g_not ?_ | refine g_and ?_ | refine g_or ?_ | refine g_yes ?_ | refine g_tup ?_ | refine g_lst ?_ | refine g_slice ?_ | refine g_part ?_ | refine g_nopart ?_ | refine g_int ?_ | refine g_fld ?_ | refine g_dget ?_
  | refine g_din ?_ | refine g_dnotin ?_ | refine g_bm0 ?_ | refine g_bm ?_ | refine g_ifexp ?_ | refine g_andv ?_ | refine g_orv ?_ | refine g_notv ?_ | refine g_chain ?_ | refine g_U ?_ | refine g_next ?_ | refine g_brk ?_ | refine g_cont ?_
  | refine g_sfld ?_ | refine g_sdput ?_ | refine g_gtup ?_ | refine g_gcons ?_ | refine g_gnil ?_ | refine g_gsub ?_ | refine g_forT ?_ | refine g_forL ?_ | refine g_forR ?_ | refine g_lcT ?_ | refine g_lcL ?_ | refine g_lcR ?_ | refine g_un ?_ | refine g_sfa ?_ | refine g_ip ?_ | refine g_addI ?_ | refine g_subI ?_
  | (show Ends.nx _ _ _; refine g_nxm ?_) | (show Ends.rt _ _ _; refine g_rtm ?_) | (show Ends.bk _ _ _; refine g_bkm ?_) | (show Ends.ct _ _ _; refine g_ctm ?_))
local macro_rules | `(tactic| walk_at "go2") => `(tactic| first
  | ((with_reducible show tVar _ _ _ _); refine g_var rfl ?_)
  | ((with_reducible show rEq _ _ _ _); refine g_eq rfl ?_)
  | ((with_reducible show rNe _ _ _ _); refine g_ne rfl ?_)
  | ((with_reducible show tAug _ _ _ _ _ _); refine g_aug rfl ?_))
local macro_rules | `(tactic| walk_at "go") => `(tactic| repeat (first | walk_at "go1" | walk_at "go2"))
section
variable {P : Program} {w : World} {K : PySem.W.Frag} {mg : Str → Option Value} {base : Heap}
def F.isM (b : Bool) : F → Bool
  | .mod c _ _ => c == b
  | _ => false
theorem kk_some : ∀ b : Bool, decide (V.str (kC b) = V.str "some") = false ∧ decide (V.str (kP b) = V.str "some") = false ∧ decide (V.str (kB b) = V.str "some") = false ∧ decide (V.str (kM b) = V.str "some") = (b == false) ∧ decide (V.str (kX b) = V.str "some") = false := by decide +kernel
theorem kk_all : ∀ b : Bool, decide (V.str (kC b) = V.str "all") = false ∧ decide (V.str (kP b) = V.str "all") = false ∧ decide (V.str (kB b) = V.str "all") = false ∧ decide (V.str (kM b) = V.str "all") = (b == true) ∧ decide (V.str (kX b) = V.str "all") = false := by decide +kernel
theorem k_some (f : F) : decide (V.str f.kind = V.str "some") = f.isM false := by
  cases f with
  | const b => exact (kk_some b).1
  | fact b p => exact (kk_some b).2.1
  | bin b f g => exact (kk_some b).2.2.1
  | mod b l f => exact (kk_some b).2.2.2.1
  | fix b x f => exact (kk_some b).2.2.2.2
  | var x => exact (by decide +kernel : decide (V.str "var" = V.str "some") = false)
theorem k_all (f : F) : decide (V.str f.kind = V.str "all") = f.isM true := by
  cases f with
  | const b => exact (kk_all b).1
  | fact b p => exact (kk_all b).2.1
  | bin b f g => exact (kk_all b).2.2.1
  | mod b l f => exact (kk_all b).2.2.2.1
  | fix b x f => exact (kk_all b).2.2.2.2
  | var x => exact (by decide +kernel : decide (V.str "var" = V.str "all") = false)
/-- a free variable outside of every some and all -/
def F.opn : F → Int → Bool
  | .var y, x => decide (y = x)
  | .bin _ f g, x => f.opn x || g.opn x
  | .fix _ y f, x => !decide (y = x) && f.opn x
  | _, _ => false
def F.gd : F → Bool
  | .bin _ f g => f.gd && g.gd
  | .mod _ _ f => f.gd
  | .fix _ x f => !f.opn x && f.gd
  | _ => true
/-- stops at a mod, at a binder of x -/
def F.stp (f : F) (x : Int) : Bool := f.isMod || match f with
  | .fix _ y _ => decide (y = x)
  | _ => false
theorem opn_stp {f : F} {x : Int} (h : f.stp x = true) : f.opn x = false := by
  cases f <;> simp [F.stp, F.isMod] at h
  · rfl
  · simp [F.opn, h]
theorem opn_kids {f : F} {x : Int} (h : f.stp x = false) (hv : f.isVar = false) : f.opn x = f.kids.any fun g => g.opn x := by
  cases f <;> simp [F.stp, F.isMod, F.isVar] at h hv <;> simp [F.opn, F.kids, h]
theorem any_take {α : Type} {l : List α} {p : α → Bool} {i : Nat} {x : α} (h : l[i]? = some x) : (l.take (i + 1)).any p = ((l.take i).any p || p x) := by
  rw [take_snoc h, List.any_append]
  simp
theorem all_take {α : Type} {l : List α} {p : α → Bool} {i : Nat} {x : α} (h : l[i]? = some x) : (l.take (i + 1)).all p = ((l.take i).all p && p x) := by
  rw [take_snoc h, List.all_append]
  simp
def spOpen (n : Nat) : Sp := fun vs H Q _ => ∃ (a : Addr) (f : F) (x : Int), vs = [.ref a, .int x] ∧ FA H f a ∧ f.ht < n ∧ ∀ H', Same H H' → Q (.bl (f.opn x)) H'
-- slots of has_open: 0:statement 1:variable 2:kind 3:part
abbrev n_has_open : List Str := ["statement", "variable", "kind", "part"]
theorem sc_has_open : FnScope n_has_open p_has_open (defScope s_has_open) := ⟨rfl, rfl, rfl, by decide +kernel, rfl, by decide +kernel, by decide +kernel⟩
theorem ok_has_open (T : Top w K mg) (n : Nat) : Ok P w K mg base (n + 1) a_has_open p_has_open (spOpen n) := by
  induction n with
  | zero => exact ok_none fun vs H Q E ⟨_, _, _, _, _, h, _⟩ => absurd h (Nat.not_lt_zero _)
  | succ n G_has_open =>
    have G_parts_in := ok_parts_in (P := P) (base := base) T
    refine T.F_has_open.ok sc_has_open (fun vs H Q E h => ?_) (fun cdv A outer s H vs Q E hr h => ?_)
    · obtain ⟨a, f, x, rfl, _⟩ := h
      rfl
    · obtain ⟨a, f, x, rfl, hf, hn, k⟩ := h
      refine ⟨_, PSs.nox (pss_cons (ps_set (i := 2) sc_has_open.nd rfl (Or.inl rfl) (pe_ix (ki_tup K) (pv 0) pe_int (fun _ _ => rfl)))
    (pss_cons (ps_if (pt_cmpR op_eq (pv 2) pe_str (nomark _)) (pss_one (ps_ret (pe_cmpR op_eq (pe_ix (ki_tup K) (pv 0) pe_int (fun _ _ => rfl)) (pv 1) (nomark _)))) pss_nil)
    (pss_cons (ps_if (PW.pt (pw_or (pt_cmpR op_eq (pv 2) pe_str (nomark _)) (pw_or (pt_cmpR op_eq (pv 2) pe_str (nomark _)) (pw_or1 (PW.pt (pw_and (pt_cmpR (ko_in K) (pv 2) (pe_gref (by rfl) T.g_BINDERS) (by rfl)) (pw_and1 (pt_cmpR op_eq (pe_ix (ki_tup K) (pv 0) pe_int (fun _ _ => rfl)) (pv 1) (nomark _))))))))) (pss_one (ps_ret pe_bl)) pss_nil)
    (pss_cons (ps_for PassesOwn.never rfl (kpi_list K (pe_call G_parts_in (hr.mono (by omega)) rfl T.g_parts_in T.F_parts_in.kp T.b_parts_in .nil pass0 (pa_cons (pv 0) pa_nil))) (pg_name (i := 3) sc_has_open.nd rfl (Or.inl rfl)) (pss_one (ps_if (pt_val (pe_call G_has_open (hr.mono (by omega)) rfl T.g_has_open T.F_has_open.kp T.b_has_open .nil pass0 (pa_cons (pv 3) (pa_cons (pv 1) pa_nil)))) (pss_one (ps_ret pe_bl)) pss_nil)))
    (pss_one (ps_ret pe_bl)))))), ?_⟩
      obtain ⟨ys, e, hi⟩ := hf.tup
      walk_at "go"
      refine g_ixT (SqT.of e) at0 ?_
      walk_at "go"
      refine iteB (k_var f) (fun hv => ?_) (fun hv => ?_)
      · cases f <;> cases hv
        rename_i y
        have e : H a = some (.tup [.str "var", .int y]) := hf
        walk_at "go"
        refine g_ixT (SqT.of e) at1 ?_
        walk_at "go"
        have q := k H (Same.refl H)
        have z : decide (V.int y = V.int x) = (F.var y).opn x := by
          show _ = decide (y = x)
          by_cases h : y = x
          · subst h
            simp
          · rw [decide_eq_false h, decide_eq_false fun z => h (V.int.inj z)]
        rw [z]
        exact q
      · have main : f.stp x = false → tFor (iList K (tCall spPartsIn [] E0 (tCons (tVar 0) tNil))) (gName 3) (tIfS (tB (tCall (spOpen n) [] E0 (tCons (tVar 3) (tCons (tVar 1) tNil)))) (tRet (tC (V.bl true))) tNext)
            ⟨tRet (tC (V.bl false)) { nx := fun x H' => Q V.non H', rt := Q }, Q, fun _ _ => False, fun _ _ => False⟩ [some (.ref a), some (.int x), some (.str f.kind), none] H := by
          intro hs
          have hk := opn_kids hs hv
          walk_at "go"
          refine ⟨a, f, rfl, hf, fun p as H1 hp s1 hp1 hk1 => ?_⟩
          refine g_rforL (SqL.of hp1) (fun i σ' H2 => ∃ v, σ' = [some (.ref a), some (.int x), some (.str f.kind), v] ∧ Same H1 H2 ∧ (f.kids.take i).any (fun g => g.opn x) = false) ⟨none, rfl, Same.refl _, rfl⟩ (fun i _ H2 _ ⟨_, _, z, _⟩ => SqL.of (z _ _ hp1)) ?_ ?_
          · rintro i y σ' H2 hy ⟨v, rfl, s2, hany⟩
            rw [List.getElem?_map] at hy
            obtain ⟨u, hu', rfl⟩ := Option.map_eq_some_iff.mp hy
            obtain ⟨g, hg, hgu⟩ := Pd.get hk1 hu'
            have hmem := List.mem_of_getElem? hg
            have := kids_ht hmem
            walk_at "go"
            refine ⟨u, g, x, rfl, hgu.mono s2, by omega, fun H3 s3 => ?_⟩
            walk_at "go"
            refine iteB rfl (fun ho => ?_) (fun ho => ?_)
            · walk_at "go"
              have q := k H3 (s1.trans (s2.trans s3))
              have : f.opn x = true := by
                rw [hk]
                exact List.any_eq_true.mpr ⟨g, hmem, ho⟩
              rw [this] at q
              exact q
            · walk_at "go"
              exact ⟨_, rfl, s2.trans s3, by rw [any_take hg, hany, ho]; rfl⟩
          · rintro σ' H2 ⟨v, rfl, s2, hany⟩
            rw [List.take_of_length_le (by rw [List.length_map, Paired.length hk1]; exact Nat.le_refl _)] at hany
            walk_at "go"
            have q := k H2 (s1.trans s2)
            rw [hk, hany] at q
            exact q
        have kf : f.stp x = true → Q (.bl false) H := fun h => by
          have q := k H (Same.refl H)
          rw [opn_stp h] at q
          exact q
        walk_at "go"
        refine iteB (k_some f) (fun h1 => ?_) (fun h1 => ?_)
        · refine iteT ?_
          walk_at "go"
          refine kf ?_
          cases f <;> first | (cases h1; done) | rfl
        · walk_at "go"
          refine iteB (k_all f) (fun h2 => ?_) (fun h2 => ?_)
          · refine iteT ?_
            walk_at "go"
            refine kf ?_
            cases f <;> first | (cases h2; done) | rfl
          · have nm : f.isMod = false := by
              cases f <;> first | rfl | skip
              rename_i b l g
              cases b
              · cases h1
              · cases h2
            walk_at "go"
            refine g_inT (T.binders _) rfl rfl ?_
            walk_at "go"
            refine iteB (k_fix f) (fun hx => ?_) (fun hx => ?_)
            · cases f <;> cases hx
              rename_i b y g
              obtain ⟨u, e, hg⟩ := id hf
              walk_at "go"
              refine g_ixT (SqT.of e) at1 ?_
              walk_at "go"
              by_cases hy : y = x
              · subst hy
                rw [decide_eq_true rfl]
                refine iteT ?_
                walk_at "go"
                exact kf (by simp [F.stp])
              · rw [decide_eq_false fun z => hy (V.int.inj z)]
                refine iteF ?_
                exact main (by simp [F.stp, F.isMod, hy])
            · refine iteF ?_
              exact main (by
                unfold F.stp
                rw [nm]
                cases f <;> first | (cases hx; done) | rfl)
def F.gh : F → Bool
  | .fix _ x g => !g.opn x
  | _ => true
theorem gd_kids {f : F} : f.gd = (f.gh && f.kids.all F.gd) := by cases f <;> simp [F.gd, F.kids, F.gh]
def spGuarded (n : Nat) : Sp := fun vs H Q _ => ∃ (a : Addr) (f : F), vs = [.ref a] ∧ FA H f a ∧ f.ht < n ∧ f.ht < 12 ∧ ∀ H', Same H H' → Q (.bl f.gd) H'
-- slots of is_guarded: 0:statement 1:part
abbrev n_is_guarded : List Str := ["statement", "part"]
theorem sc_is_guarded : FnScope n_is_guarded p_is_guarded (defScope s_is_guarded) := ⟨rfl, rfl, rfl, by decide +kernel, rfl, by decide +kernel, by decide +kernel⟩
theorem ok_is_guarded (T : Top w K mg) (n : Nat) : Ok P w K mg base (n + 14) a_is_guarded p_is_guarded (spGuarded n) := by
  induction n with
  | zero => exact ok_none fun vs H Q E ⟨_, _, _, _, h, _⟩ => absurd h (Nat.not_lt_zero _)
  | succ n G_is_guarded =>
    have G_parts_in := ok_parts_in (P := P) (base := base) T
    have G_has_open := ok_has_open (P := P) (base := base) T 12
    refine T.F_is_guarded.ok sc_is_guarded (fun vs H Q E h => ?_) (fun cdv A outer s H vs Q E hr h => ?_)
    · obtain ⟨a, f, rfl, _⟩ := h
      rfl
    · obtain ⟨a, f, rfl, hf, hn, hn2, k⟩ := h
      refine ⟨_, PSs.nox (pss_cons (ps_if (PW.pt (pw_and (pt_cmpR (ko_in K) (pe_ix (ki_tup K) (pv 0) pe_int (fun _ _ => rfl)) (pe_gref (by rfl) T.g_BINDERS) (by rfl)) (pw_and1 (pt_val (pe_call G_has_open (hr.mono (by omega)) rfl T.g_has_open T.F_has_open.kp T.b_has_open .nil pass0 (pa_cons (pe_ix (ki_tup K) (pv 0) pe_int (fun _ _ => rfl)) (pa_cons (pe_ix (ki_tup K) (pv 0) pe_int (fun _ _ => rfl)) pa_nil))))))) (pss_one (ps_ret pe_bl)) pss_nil)
    (pss_cons (ps_for PassesOwn.never rfl (kpi_list K (pe_call G_parts_in (hr.mono (by omega)) rfl T.g_parts_in T.F_parts_in.kp T.b_parts_in .nil pass0 (pa_cons (pv 0) pa_nil))) (pg_name (i := 1) sc_is_guarded.nd rfl (Or.inl rfl)) (pss_one (ps_if (pt_not (pt_val (pe_call G_is_guarded (hr.mono (by omega)) rfl T.g_is_guarded T.F_is_guarded.kp T.b_is_guarded .nil pass0 (pa_cons (pv 1) pa_nil)))) (pss_one (ps_ret pe_bl)) pss_nil)))
    (pss_one (ps_ret pe_bl)))), ?_⟩
      obtain ⟨ys, e, hi⟩ := hf.tup
      have main : ∀ H0, Same H H0 → f.gh = true → tFor (iList K (tCall spPartsIn [] E0 (tCons (tVar 0) tNil))) (gName 1) (tIfS (tNot (tB (tCall (spGuarded n) [] E0 (tCons (tVar 1) tNil)))) (tRet (tC (V.bl false))) tNext)
            ⟨tRet (tC (V.bl true)) { nx := fun x H' => Q V.non H', rt := Q }, Q, fun _ _ => False, fun _ _ => False⟩ [some (.ref a), none] H0 := by
        intro H0 s0 hm
        walk_at "go"
        refine ⟨a, f, rfl, hf.mono s0, fun p as H1 hp s1 hp1 hk1 => ?_⟩
        refine g_rforL (SqL.of hp1) (fun i σ' H2 => ∃ v, σ' = [some (.ref a), v] ∧ Same H1 H2 ∧ (f.kids.take i).all F.gd = true) ⟨none, rfl, Same.refl _, rfl⟩ (fun i _ H2 _ ⟨_, _, z, _⟩ => SqL.of (z _ _ hp1)) ?_ ?_
        · rintro i y σ' H2 hy ⟨v, rfl, s2, hany⟩
          rw [List.getElem?_map] at hy
          obtain ⟨u, hu', rfl⟩ := Option.map_eq_some_iff.mp hy
          obtain ⟨g, hg, hgu⟩ := Pd.get hk1 hu'
          have hmem := List.mem_of_getElem? hg
          have := kids_ht hmem
          walk_at "go"
          refine ⟨u, g, rfl, hgu.mono s2, by omega, by omega, fun H3 s3 => ?_⟩
          walk_at "go"
          cases hgd : g.gd with
          | false =>
            refine iteT ?_
            walk_at "go"
            have q := k H3 (s0.trans (s1.trans (s2.trans s3)))
            have : f.gd = false := by
              rw [gd_kids, hm]
              have : f.kids.all F.gd = false := by
                cases z : f.kids.all F.gd with
                | false => rfl
                | true =>
                  rw [List.all_eq_true.mp z g hmem] at hgd
                  cases hgd
              rw [this]
              rfl
            rw [this] at q
            exact q
          | true =>
            refine iteF ?_
            walk_at "go"
            exact ⟨_, rfl, s2.trans s3, by rw [all_take hg, hany, hgd]; rfl⟩
        · rintro σ' H2 ⟨v, rfl, s2, hany⟩
          rw [List.take_of_length_le (by rw [List.length_map, Paired.length hk1]; exact Nat.le_refl _)] at hany
          walk_at "go"
          have q := k H2 (s0.trans (s1.trans s2))
          rw [gd_kids, hm, hany] at q
          exact q
      walk_at "go"
      refine g_ixT (SqT.of e) at0 ?_
      walk_at "go"
      refine g_inT (T.binders _) rfl rfl ?_
      walk_at "go"
      refine iteB (k_fix f) (fun hx => ?_) (fun hx => ?_)
      · cases f <;> cases hx
        rename_i b y g
        obtain ⟨u, e, hg⟩ := id hf
        have hn' : g.ht + 1 < 12 := hn2
        walk_at "go"
        refine g_ixT (SqT.of e) at2 ?_
        walk_at "go"
        refine g_ixT (SqT.of e) at1 ?_
        walk_at "go"
        refine ⟨u, g, y, rfl, hg, by omega, fun H1 s1 => ?_⟩
        walk_at "go"
        cases ho : g.opn y with
        | true =>
          refine iteT ?_
          walk_at "go"
          have q := k H1 s1
          have : (F.fix b y g).gd = false := by simp [F.gd, ho]
          rw [this] at q
          exact q
        | false =>
          refine iteF ?_
          exact main H1 s1 (by show (!g.opn y) = true; rw [ho]; rfl)
      · refine iteF ?_
        exact main H (Same.refl H) (by cases f <;> first | (cases hx; done) | rfl)
end
end K22

set_option Elab.async false
set_option linter.all false
set_option maxRecDepth 100000
set_option maxHeartbeats 1000000
namespace K22
open PySem PySem.Spec PyProof.Rows L2
local macro_rules | `(tactic| walk_at "go1") => `(tactic| with_reducible first
  | refine g_seq ?_ | refine g_asg ?_ | refine g_name ?_ | refine g_c ?_ | refine g_op ?_ | refine g_cons ?_ | refine g_nil ?_ | refine g_cb ?_ | refine g_call ?_ | refine g_meth ?_
  | refine g_I0 ?_ | refine g_ret ?_ | refine g_retN ?_ | refine g_drop ?_ | refine g_if ?_ | refine g_test ?_ | refine g_tB ?_ | refine g_bool ?_
  | refine g_not ?_ | refine g_and ?_ | refine g_or ?_ | refine g_yes ?_ | refine g_tup ?_ | refine g_lst ?_ | refine g_slice ?_ | refine g_part ?_ | refine g_nopart ?_ | refine g_int ?_ | refine g_fld ?_ | refine g_dget ?_
  | refine g_din ?_ | refine g_dnotin ?_ | refine g_bm0 ?_ | refine g_bm ?_ | refine g_ifexp ?_ | refine g_andv ?_ | refine g_orv ?_ | refine g_notv ?_ | refine g_chain ?_ | refine g_U ?_ | refine g_next ?_ | refine g_brk ?_ | refine g_cont ?_
  | refine g_sfld ?_ | refine g_sdput ?_ | refine g_gtup ?_ | refine g_gcons ?_ | refine g_gnil ?_ | refine g_gsub ?_ | refine g_forT ?_ | refine g_forL ?_ | refine g_forR ?_ | refine g_lcT ?_ | refine g_lcL ?_ | refine g_lcR ?_ | refine g_un ?_ | refine g_sfa ?_ | refine g_ip ?_ | refine g_nin ?_ | refine g_nnot ?_ | refine g_nget ?_ | refine g_nput ?_ | refine g_ndisp ?_ | refine g_addI ?_ | refine g_subI ?_
  | (show Ends.nx _ _ _; refine g_nxm ?_) | (show Ends.rt _ _ _; refine g_rtm ?_) | (show Ends.bk _ _ _; refine g_bkm ?_) | (show Ends.ct _ _ _; refine g_ctm ?_))
local macro_rules | `(tactic| walk_at "go2") => `(tactic| first
  | ((with_reducible show tVar _ _ _ _); refine g_var rfl ?_)
  | ((with_reducible show rEq _ _ _ _); refine g_eq rfl ?_)
  | ((with_reducible show rNe _ _ _ _); refine g_ne rfl ?_)
  | ((with_reducible show tAug _ _ _ _ _ _); refine g_aug rfl ?_))
local macro_rules | `(tactic| walk_at "go") => `(tactic| repeat (first | walk_at "go1" | walk_at "go2"))
section
variable {P : Program} {w : World} {K : PySem.W.Frag} {mg : Str → Option Value} {base : Heap}
/-! ### worlds -/
structure Wd where
  n : Nat
  fc : List (List Int)
  sp : List (Nat × Int × Nat)
def StA (H : Hp) (q : Nat × Int × Nat) (b : Addr) : Prop := H b = some (.tup [.int (q.1 : Nat), .int q.2.1, .int (q.2.2 : Nat)])
def FcA (H : Hp) (fs : List Int) (b : Addr) : Prop := H b = some (.tup (fs.map V.int))
def wF (ps pt : Addr) : List (Str × V) := [("labels", .int 2), ("facts", .int 2), ("states", .ref ps), ("steps", .ref pt)]
structure Wd.Ok (W : Wd) : Prop where
  n1 : 1 ≤ W.n
  n4 : W.n ≤ 4
  fl : W.fc.length = W.n
  sl : W.sp.length ≤ 32
  sp : ∀ q ∈ W.sp, q.1 < W.n ∧ q.2.2 < W.n ∧ 0 ≤ q.2.1 ∧ q.2.1 < 2
  nd : W.sp.Nodup
structure WAt (K : PySem.W.Frag) (H : Hp) (a : Addr) (W : Wd) : Prop where
  ok : W.Ok
  at_ : ∃ dx ps pt as bs, H a = some (.ins (He.ga K "World") dx (wF ps pt)) ∧ H ps = some (.tup (as.map V.ref)) ∧ Paired (FcA H) W.fc as ∧ H pt = some (.tup (bs.map V.ref)) ∧ Paired (StA H) W.sp bs
theorem WAt.monoS {H H' : Hp} {a : Addr} {W : Wd} (h : WAt K H a W) (s : SameT H H') (e : H' a = H a) : WAt K H' a W := by
  obtain ⟨ok, dx, ps, pt, as, bs, e1, e2, e3, e4, e5⟩ := h
  exact ⟨ok, dx, ps, pt, as, bs, by rw [e]; exact e1, s _ _ e2, Paired.mapP e3 fun _ _ q => s _ _ q, s _ _ e4, Paired.mapP e5 fun _ _ q => s _ _ q⟩
theorem WAt.some {H : Hp} {a : Addr} {W : Wd} (h : WAt K H a W) : ∃ dx fs, H a = .some (.ins (He.ga K "World") dx fs) := let ⟨_, dx, _, _, _, _, e, _⟩ := h; ⟨dx, _, e⟩
theorem WAt.mono {H H' : Hp} {a : Addr} {W : Wd} (h : WAt K H a W) (s : Same H H') : WAt K H' a W := by
  obtain ⟨dx, fs, e⟩ := h.some
  exact h.monoS s.t (by rw [e, s _ _ e])
def Wd.foll (W : Wd) (s : Nat) (l : Int) : List Nat := (W.sp.filter fun q => decide (q.1 = s) && decide (q.2.1 = l)).map fun q => q.2.2
def spFoll (K : PySem.W.Frag) : Sp := fun vs H Q _ => ∃ (a : Addr) (W : Wd) (s : Nat) (l : Int), vs = [.ref a, .int (s : Nat), .int l] ∧ WAt K H a W ∧ ∀ p H', H p = none → Same H H' → H' p = some (.lst ((W.foll s l).map fun (t : Nat) => V.int t)) → Q (.ref p) H'
theorem nat_dec (a b : Nat) : decide (V.int (a : Nat) = V.int (b : Nat)) = decide (a = b) := by
  by_cases h : a = b
  · subst h
    simp
  · rw [decide_eq_false h, decide_eq_false fun z => h (by have := V.int.inj z; omega)]
theorem int_dec (a b : Int) : decide (V.int a = V.int b) = decide (a = b) := by
  by_cases h : a = b
  · subst h
    simp
  · rw [decide_eq_false h, decide_eq_false fun z => h (V.int.inj z)]
theorem filt_take {α β : Type} {l : List α} {i : Nat} {x : α} {p : α → Bool} {f : α → β} (h : l[i]? = some x) : ((l.take (i + 1)).filter p).map f = ((l.take i).filter p).map f ++ if p x then [f x] else [] := by
  rw [take_snoc h, List.filter_append, List.map_append]
  cases q : p x <;> simp [q]
-- slots of followers: 0:world 1:state* 2:label* 3:step
abbrev n_followers : List Str := ["world", "state", "label", "step"]
theorem sc_followers : FnScope n_followers p_followers (defScope s_followers) := ⟨rfl, rfl, rfl, by decide +kernel, rfl, by decide +kernel, by decide +kernel⟩
theorem ok_followers (T : Top w K mg) : Ok P w K mg base 1 a_followers p_followers (spFoll K) := by
  refine T.F_followers.ok sc_followers (fun vs H Q E h => ?_) (fun cdv A outer s H vs Q E hr h => ?_)
  · obtain ⟨a, W, s, l, rfl, _⟩ := h
    rfl
  · obtain ⟨a, W, t, l, rfl, hw, k⟩ := h
    refine ⟨_, PSs.nox (pss_one (ps_ret (pe_lc (own := [("step", 3)]) (g := gName 3) rfl sc_followers.nd (kpi_tup K (kpe_fld K (pv 0))) (blkOk_by (N := n_followers) (sc := (defScope s_followers)) (by decide +kernel)) (fun _ _ _ _ _ => (pg_name (i := 3) sc_followers.nd rfl (Or.inl rfl))) (fun _ _ _ _ _ => (pts_one (PW.pt (pw_and (pt_cmpR op_eq (pe_ix (ki_tup K) (pv 3) pe_int (fun _ _ => rfl)) (pv 1) (nomark _)) (pw_and1 (pt_cmpR op_eq (pe_ix (ki_tup K) (pv 3) pe_int (fun _ _ => rfl)) (pv 2) (nomark _))))))) (fun _ _ _ _ _ => (pe_ix (ki_tup K) (pv 3) pe_int (fun _ _ => rfl)))))), ?_⟩
    obtain ⟨wok, dx, ps, pt, as, bs, e1, e2, e3, e4, e5⟩ := id hw
    have hbl : bs.length ≤ 32 := by rw [← Paired.length e5]; exact wok.sl
    walk_at "go"
    refine g_rfld e1 T.c_World T.n_World_steps rfl ?_
    walk_at "go"
    refine g_rlcT (SqT.of e4) fun E hE => ⟨fun i H' => ∃ H0, Same H H0 ∧ H0 E = some (.lst (((((W.sp.take i).filter fun q => decide (q.1 = t) && decide (q.2.1 = l)).map fun q => q.2.2)).map fun (t : Nat) => V.int t)) ∧ H' = H0, ⟨_, same_new hE, upd_same, rfl⟩, fun i H' hi ⟨H0, s0, _, e⟩ => ?_, fun i y H' hy ⟨H0, s0, hE0, e⟩ => ?_, fun H' ⟨H0, s0, hE0, e⟩ => ?_⟩
    · subst e
      exact SqT.of (s0 _ _ e4)
    · subst e
      rw [List.getElem?_map] at hy
      obtain ⟨b, hb, rfl⟩ := Option.map_eq_some_iff.mp hy
      obtain ⟨q, hq, hqb⟩ := Pd.get e5 hb
      have hqb' := s0 _ _ hqb
      have hft := filt_take (p := fun q : Nat × Int × Nat => decide (q.1 = t) && decide (q.2.1 = l)) (f := fun q => q.2.2) hq
      refine g_turn rfl ?_
      walk_at "go"
      refine g_ixT (SqT.of hqb') at0 ?_
      walk_at "go"
      rw [nat_dec]
      by_cases h1 : q.1 = t
      · rw [decide_eq_true h1]
        refine iteT ?_
        walk_at "go"
        refine g_ixT (SqT.of hqb') at1 ?_
        walk_at "go"
        rw [int_dec]
        by_cases h2 : q.2.1 = l
        · rw [decide_eq_true h2]
          refine iteT ?_
          walk_at "go"
          refine g_ixT (SqT.of hqb') at2 ?_
          walk_at "go"
          refine g_add hE0 (lt_line (by rw [List.length_map, List.length_map]; exact Nat.le_trans (List.length_filter_le _ _) (by rw [List.length_take]; have := wok.sl; omega))) ?_
          refine ⟨_, s0.mut hE, ?_, rfl⟩
          rw [upd_same, hft, decide_eq_true h1, decide_eq_true h2]
          simp
        · rw [decide_eq_false h2]
          refine iteF ?_
          refine ⟨_, s0, ?_, rfl⟩
          rw [hE0, hft, decide_eq_true h1, decide_eq_false h2]
          simp
      · rw [decide_eq_false h1]
        refine iteF ?_
        refine iteF ?_
        refine ⟨_, s0, ?_, rfl⟩
        rw [hE0, hft, decide_eq_false h1]
        simp
    · subst e
      rw [List.take_of_length_le (by rw [List.length_map, Paired.length e5]; exact Nat.le_refl _)] at hE0
      walk_at "go"
      exact k _ _ hE s0 hE0
/-- a statement without parts at a state -/
def Wd.plain (W : Wd) (s : Nat) : F → Bool
  | .const b => b
  | .fact b p => decide (p ∈ W.fc.getD s []) == b
  | _ => false
def spPlain (K : PySem.W.Frag) : Sp := fun vs H Q _ => ∃ (a : Addr) (W : Wd) (s : Nat) (b : Addr) (f : F), vs = [.ref a, .int (s : Nat), .ref b] ∧ WAt K H a W ∧ s < W.n ∧ FA H f b ∧ f.isVar = false ∧ f.isBin = false ∧ f.isMod = false ∧ f.isFix = false ∧ ∀ H', Same H H' → Q (.bl (W.plain s f)) H'
-- slots of is_plain_true: 0:world 1:state 2:part 3:kind
abbrev n_is_plain_true : List Str := ["world", "state", "part", "kind"]
theorem sc_is_plain_true : FnScope n_is_plain_true p_is_plain_true (defScope s_is_plain_true) := ⟨rfl, rfl, rfl, by decide +kernel, rfl, by decide +kernel, by decide +kernel⟩
theorem ok_is_plain_true (T : Top w K mg) : Ok P w K mg base 1 a_is_plain_true p_is_plain_true (spPlain K) := by
  refine T.F_is_plain_true.ok sc_is_plain_true (fun vs H Q E h => ?_) (fun cdv A outer s H vs Q E hr h => ?_)
  · obtain ⟨a, W, s, b, f, rfl, _⟩ := h
    rfl
  · obtain ⟨a, W, t, b, f, rfl, hw, ht, hf, h1, h2, h3, h4, k⟩ := h
    refine ⟨_, PSs.nox (pss_cons (ps_set (i := 3) sc_is_plain_true.nd rfl (Or.inl rfl) (pe_ix (ki_tup K) (pv 2) pe_int (fun _ _ => rfl)))
    (pss_cons (ps_if (pt_cmpR op_eq (pv 3) pe_str (nomark _)) (pss_one (ps_ret (pe_cmpR (ko_in K) (pe_ix (ki_tup K) (pv 2) pe_int (fun _ _ => rfl)) (pe_ix (ki_tup K) (kpe_fld K (pv 0)) (pv 1) (fun _ _ => rfl)) (by rfl)))) pss_nil)
    (pss_cons (ps_if (pt_cmpR op_eq (pv 3) pe_str (nomark _)) (pss_one (ps_ret (pe_cmpR (ko_notIn K) (pe_ix (ki_tup K) (pv 2) pe_int (fun _ _ => rfl)) (pe_ix (ki_tup K) (kpe_fld K (pv 0)) (pv 1) (fun _ _ => rfl)) (by rfl)))) pss_nil)
    (pss_one (ps_ret (pe_cmpR op_eq (pv 3) pe_str (nomark _))))))), ?_⟩
    obtain ⟨wok, dx, ps, pt, as, bs, e1, e2, e3, e4, e5⟩ := id hw
    obtain ⟨ys, e, hi⟩ := hf.tup
    obtain ⟨fs, hfs⟩ : ∃ fs, W.fc[t]? = some fs := ⟨_, List.getElem?_eq_getElem (by rw [wok.fl]; exact ht)⟩
    obtain ⟨u, hu, hfu⟩ := Pd.get' e3 hfs
    have hget : W.fc.getD t [] = fs := by rw [List.getD_eq_getElem?_getD, hfs]; rfl
    have hau : atI (as.map V.ref) (t : Nat) = some (V.ref u) := atI_nat (by rw [List.getElem?_map, hu]; rfl)
    walk_at "go"
    refine g_ixT (SqT.of e) at0 ?_
    walk_at "go"
    have q := k H (Same.refl H)
    cases f with
    | var x => cases h1
    | bin b f g => cases h2
    | mod b l f => cases h3
    | fix b x f => cases h4
    | const c =>
      rw [show decide (V.str (F.const c).kind = V.str "has") = false from by cases c <;> decide +kernel]
      refine iteF ?_
      walk_at "go"
      rw [show decide (V.str (F.const c).kind = V.str "lacks") = false from by cases c <;> decide +kernel]
      refine iteF ?_
      walk_at "go"
      rw [show decide (V.str (F.const c).kind = V.str "true") = c from by cases c <;> decide +kernel]
      exact q
    | fact c p =>
      have e : H b = some (.tup [.str (kP c), .int p]) := hf
      cases c with
      | true =>
        rw [show decide (V.str (F.fact true p).kind = V.str "has") = true from (by decide +kernel : decide (V.str (kP true) = V.str "has") = true)]
        refine iteT ?_
        walk_at "go"
        refine g_ixT (SqT.of e) at1 ?_
        walk_at "go"
        refine g_rfld e1 T.c_World T.n_World_states rfl ?_
        walk_at "go"
        refine g_ixT (SqT.of e2) hau ?_
        walk_at "go"
        refine g_inT (SqT.of hfu) rfl (flat_ints _) ?_
        walk_at "go"
        rw [inV_int]
        have : W.plain t (F.fact true p) = decide (p ∈ fs) := by
          show (decide (p ∈ W.fc.getD t []) == true) = _
          rw [hget]
          cases decide (p ∈ fs) <;> rfl
        rw [this] at q
        exact q
      | false =>
        rw [show decide (V.str (F.fact false p).kind = V.str "has") = false from (by decide +kernel : decide (V.str (kP false) = V.str "has") = false)]
        refine iteF ?_
        walk_at "go"
        rw [show decide (V.str (F.fact false p).kind = V.str "lacks") = true from (by decide +kernel : decide (V.str (kP false) = V.str "lacks") = true)]
        refine iteT ?_
        walk_at "go"
        refine g_ixT (SqT.of e) at1 ?_
        walk_at "go"
        refine g_rfld e1 T.c_World T.n_World_states rfl ?_
        walk_at "go"
        refine g_ixT (SqT.of e2) hau ?_
        walk_at "go"
        refine ⟨u, _, rfl, .inr (SqT.of hfu), rfl, flat_ints _, ?_⟩
        walk_at "go"
        rw [inV_int]
        have : W.plain t (F.fact false p) = !decide (p ∈ fs) := by
          show (decide (p ∈ W.fc.getD t []) == false) = _
          rw [hget]
          cases decide (p ∈ fs) <;> rfl
        rw [this] at q
        exact q
end
end K22

set_option Elab.async false
set_option linter.all false
set_option maxRecDepth 100000
set_option maxHeartbeats 1000000
namespace K22
open PySem PySem.Spec PyProof.Rows L2
local macro_rules | `(tactic| walk_at "go1") => `(tactic| with_reducible first
  | refine g_seq ?_ | refine g_asg ?_ | refine g_name ?_ | refine g_c ?_ | refine g_op ?_ | refine g_cons ?_ | refine g_nil ?_ | refine g_cb ?_ | refine g_call ?_ | refine g_meth ?_
  | refine g_I0 ?_ | refine g_ret ?_ | refine g_retN ?_ | refine g_drop ?_ | refine g_if ?_ | refine g_test ?_ | refine g_tB ?_ | refine g_bool ?_
  | refine g_not ?_ | refine g_and ?_ | refine g_or ?_ | refine g_yes ?_ | refine g_tup ?_ | refine g_lst ?_ | refine g_slice ?_ | refine g_part ?_ | refine g_nopart ?_ | refine g_int ?_ | refine g_fld ?_ | refine g_dget ?_
  | refine g_din ?_ | refine g_dnotin ?_ | refine g_bm0 ?_ | refine g_bm ?_ | refine g_ifexp ?_ | refine g_andv ?_ | refine g_orv ?_ | refine g_notv ?_ | refine g_chain ?_ | refine g_U ?_ | refine g_next ?_ | refine g_brk ?_ | refine g_cont ?_
  | refine g_sfld ?_ | refine g_sdput ?_ | refine g_gtup ?_ | refine g_gcons ?_ | refine g_gnil ?_ | refine g_gsub ?_ | refine g_forT ?_ | refine g_forL ?_ | refine g_forR ?_ | refine g_lcT ?_ | refine g_lcL ?_ | refine g_lcR ?_ | refine g_un ?_ | refine g_sfa ?_ | refine g_ip ?_ | refine g_nin ?_ | refine g_nnot ?_ | refine g_nget ?_ | refine g_nput ?_ | refine g_ndisp ?_ | refine g_addI ?_ | refine g_subI ?_
  | (show Ends.nx _ _ _; refine g_nxm ?_) | (show Ends.rt _ _ _; refine g_rtm ?_) | (show Ends.bk _ _ _; refine g_bkm ?_) | (show Ends.ct _ _ _; refine g_ctm ?_))
local macro_rules | `(tactic| walk_at "go2") => `(tactic| first
  | ((with_reducible show tVar _ _ _ _); refine g_var rfl ?_)
  | ((with_reducible show rEq _ _ _ _); refine g_eq rfl ?_)
  | ((with_reducible show rNe _ _ _ _); refine g_ne rfl ?_)
  | ((with_reducible show tAug _ _ _ _ _ _); refine g_aug rfl ?_))
local macro_rules | `(tactic| walk_at "go") => `(tactic| repeat (first | walk_at "go1" | walk_at "go2"))
section
variable {P : Program} {w : World} {K : PySem.W.Frag} {mg : Str → Option Value} {base : Heap}
theorem g_turnG {σ : L2.St} {H : Hp} {g : TG} {tt : TT} {te : TE} {vs : List Nat} {D : Addr} {N : Hp → Prop} {y : V} (q : g y (wipe σ vs) H fun σ2 H2 => wipe σ2 vs = wipe σ vs ∧ tt σ2 H2 fun b H3 => if b = true then te σ2 H3 fun y H4 => rAdd D N y H4 else N H3) : rTurn g tt te vs σ D N y H := q
theorem pe_gint {X : Cx} {x : Str} {i : Int} {t : Tok} {pos : Pos} (hg : Gl X x) (hm : X.mg x = some (.int i t)) (hd : (x == ("__debug__" : Str)) = false := by decide) : PE X (.Name x pos) (tC (.int i)) := pe_glob hg hm ⟨t, rfl⟩ hd
/-- {} of nested keys -/
def tDNewN (P : Program) (w : World) : TE := fun _ H Q => ∀ p, H p = none → Q (.ref p) (upd H p (DNo P w p []))
theorem pe_dnewN {X : Cx} {pos : Pos} (P : Program) (w : World) (hP : X.prog = P := by rfl) (hw : X.w = w := by rfl) : PE X (.Dict [] [] pos) (tDNewN P w) := by
  subst hP hw
  exact ⟨fun pins s σ H Q I h => wpAny_Dict_empty ⟨.ref s.heap.objs.size, _, I.laid (a := s.heap.objs.size) (o := DNo X.prog X.w s.heap.objs.size []) (t' := s.toks) (fun _ _ q => Heap.get?_push_of_some _ q) (Nat.le_refl _) (nd_empty s.heap (dk_empty (P := X.prog) (w := X.w) (H := H) s.heap I.big).2.1), rfl, h _ (I.hok.fresh (Nat.le_refl _))⟩⟩
/-! ### ascend -/
def Asc (ns : List Int) : Prop := ns.Pairwise (· < ·) ∧ (∀ x ∈ ns, 0 ≤ x ∧ x < 2) ∧ ns.length ≤ 2
def spAscend (K : PySem.W.Frag) : Sp := fun vs H Q _ => ∃ (l : Addr) (ns : List Int), vs = [.ref l, .int 2] ∧ H l = some (.lst (ns.map V.int)) ∧ Asc ns ∧ ∀ H', Same H H' → Q (.bl true) H'
-- slots of ascend: 0:numbers 1:limit 2:k
abbrev n_ascend : List Str := ["numbers", "limit", "k"]
theorem sc_ascend : FnScope n_ascend p_ascend (defScope s_ascend) := ⟨rfl, rfl, rfl, by decide +kernel, rfl, by decide +kernel, by decide +kernel⟩
theorem ok_ascend (T : Top w K mg) : Ok P w K mg base 1 a_ascend p_ascend (spAscend K) := by
  refine T.F_ascend.ok sc_ascend (fun vs H Q E h => ?_) (fun cdv A outer s H vs Q E hr h => ?_)
  · obtain ⟨l, ns, rfl, _⟩ := h
    rfl
  · obtain ⟨l, ns, rfl, hl, ⟨hp, hb, hlen⟩, k⟩ := h
    refine ⟨_, PSs.nox (pss_cons (ps_for PassesOwn.never rfl (pi_range1 (by rfl) T.z_range (pa_cons (pe_callB (kc_len K) (by rfl) T.z_len bt_len (pa_cons (pv 0) pa_nil)) pa_nil)) (pg_name (i := 2) sc_ascend.nd rfl (Or.inl rfl)) (pss_one (ps_if (PW.pt (pw_or (pt_cmpR op_lt (pe_ix (ki_list K) (pv 0) (pv 2) (fun _ _ => rfl)) pe_int (nomark _)) (pw_or (pt_cmpR op_ge (pe_ix (ki_list K) (pv 0) (pv 2) (fun _ _ => rfl)) (pv 1) (nomark _)) (pw_or1 (PW.pt (pw_and (pt_cmpR op_gt (pv 2) pe_int (nomark _)) (pw_and1 (pt_cmpR op_le (pe_ix (ki_list K) (pv 0) (pv 2) (fun _ _ => rfl)) (pe_ix (ki_list K) (pv 0) (pe_op op_sub (pv 2) pe_int) (fun _ _ => rfl)) (nomark _))))))))) (pss_one (ps_ret pe_bl)) pss_nil)))
    (pss_one (ps_ret pe_bl))), ?_⟩
    walk_at "go"
    refine g_len (.inl (SqL.of hl)) ?_
    walk_at "go"
    refine g_rforR (by rw [List.length_map]; omega) (fun i σ' H' => ∃ v, σ' = [some (.ref l), some (.int 2), v] ∧ H' = H) ⟨_, rfl, rfl⟩ ?_ ?_
    · rintro i σ' H' hi ⟨v, rfl, rfl⟩
      rw [List.length_map] at hi
      have hx : ns[i]? = some ns[i] := List.getElem?_eq_getElem hi
      have hm := hb _ (List.mem_of_getElem? hx)
      have hat : atI (ns.map V.int) (i : Nat) = some (V.int ns[i]) := atI_nat (by rw [List.getElem?_map, hx]; rfl)
      walk_at "go"
      refine g_ixL (SqL.of hl) hat ?_
      walk_at "go"
      rw [show decide (ns[i] < 0) = false from decide_eq_false (by omega)]
      refine iteF ?_
      walk_at "go"
      refine g_ixL (SqL.of hl) hat ?_
      walk_at "go"
      rw [show decide (ns[i] ≥ 2) = false from decide_eq_false (by omega)]
      refine iteF ?_
      walk_at "go"
      by_cases h0 : i = 0
      · subst h0
        refine iteF ?_
        refine iteF ?_
        walk_at "go"
        exact ⟨_, rfl, rfl⟩
      · rw [show decide (((i : Nat) : Int) > 0) = true from decide_eq_true (by omega)]
        refine iteT ?_
        walk_at "go"
        refine g_ixL (SqL.of hl) hat ?_
        walk_at "go"
        have hj : i - 1 < ns.length := by omega
        have hat2 : atI (ns.map V.int) ((i : Nat) - 1 : Int) = some (V.int ns[i - 1]) := by
          rw [show ((i : Nat) - 1 : Int) = ((i - 1 : Nat) : Int) by omega]
          exact atI_nat (by rw [List.getElem?_map, List.getElem?_eq_getElem hj]; rfl)
        refine g_ixL (SqL.of hl) hat2 ?_
        walk_at "go"
        have : ns[i - 1] < ns[i] := List.pairwise_iff_getElem.mp hp (i - 1) i hj hi (by omega)
        rw [show decide (ns[i] ≤ ns[i - 1]) = false from decide_eq_false (by omega)]
        refine iteF ?_
        walk_at "go"
        exact ⟨_, rfl, rfl⟩
    · rintro σ' H' ⟨v, rfl, rfl⟩
      walk_at "go"
      exact k _ (Same.refl _)
/-! ### right_steps -/
def skey (q : Nat × Int × Nat) : NestedKey := .tup [.num (q.1 : Nat), .num q.2.1, .num (q.2.2 : Nat)]
theorem skey_inj {q r : Nat × Int × Nat} (h : skey q = skey r) : q = r := by
  unfold skey at h
  injection h with h
  injection h with h1 h
  injection h with h2 h
  injection h with h3 h
  injection h1 with h1
  injection h2 with h2
  injection h3 with h3
  have e1 : q.1 = r.1 := by omega
  have e2 : q.2.2 = r.2.2 := by omega
  exact Prod.ext e1 (Prod.ext h2 e2)
theorem skey_depth (q : Nat × Int × Nat) : (skey q).depth ≤ 8 := by
  have : (skey q).depth = 1 := by rfl
  omega
theorem StA.key {H : Hp} {q : Nat × Int × Nat} {b : Addr} (h : StA H q b) : KeyV H (skey q) (.ref b) := ⟨b, _, rfl, h, _, _, rfl, rfl, _, _, rfl, rfl, _, _, rfl, rfl, rfl⟩
theorem valN_none {xs : List Ent} {k : NestedKey} (h : ∀ x ∈ xs, x.1 ≠ k) : valN xs k = none := by
  unfold valN
  rw [List.find?_eq_none.mpr fun x hx => by simp [h x hx]]
  rfl
def SAt (H : Hp) (sp : List (Nat × Int × Nat)) (bs : List Addr) : Prop := Paired (StA H) sp bs
def spRight (K : PySem.W.Frag) : Sp := fun vs H Q _ => ∃ (l : Addr) (bs : List Addr) (n : Nat) (sp : List (Nat × Int × Nat)), vs = [.int 2, .int (n : Nat), .ref l] ∧ H l = some (.lst (bs.map V.ref)) ∧ Paired (StA H) sp bs ∧ sp.length ≤ 32 ∧ (∀ q ∈ sp, q.1 < n ∧ q.2.2 < n ∧ 0 ≤ q.2.1 ∧ q.2.1 < 2) ∧ sp.Nodup ∧ ∀ H', Same H H' → Q (.bl true) H'
theorem min2_int (a b : Int) : nuMin2 (.int a) (.int b) = some (.int (if b < a then b else a)) := by
  show some (if decide (b < a) = true then V.int b else V.int a) = _
  by_cases h : b < a
  · rw [decide_eq_true h, if_pos rfl, if_pos h]
  · rw [decide_eq_false h, if_neg h]
    rfl
theorem min3_int (a b c : Int) : ∃ m, nuMin3 (.int a) (.int b) (.int c) = some (.int m) ∧ (m = a ∨ m = b ∨ m = c) := by
  refine ⟨_, (show (nuMin2 (.int a) (.int b)).bind (fun m => nuMin2 m (.int c)) = _ from by rw [min2_int]; exact min2_int _ c), ?_⟩
  split <;> split <;> simp
-- slots of right_steps: 0:labels 1:count 2:steps 3:seen 4:first 5:label 6:second
abbrev n_right_steps : List Str := ["labels", "count", "steps", "seen", "first", "label", "second"]
theorem sc_right_steps : FnScope n_right_steps p_right_steps (defScope s_right_steps) := ⟨rfl, rfl, rfl, by decide +kernel, rfl, by decide +kernel, by decide +kernel⟩
theorem ok_right_steps (T : Top w K mg) : Ok P w K mg base 1 a_right_steps p_right_steps (spRight K) := by
  refine T.F_right_steps.ok sc_right_steps (fun vs H Q E h => ?_) (fun cdv A outer s H vs Q E hr h => ?_)
  · obtain ⟨l, bs, n, sp, rfl, _⟩ := h
    rfl
  · obtain ⟨l, bs, n, sp, rfl, hl, hb, hlen, hsp, hnd, k⟩ := h
    have hu : (A.deeper (envOfC "right_steps" (defScope s_right_steps) s.heap.objs.size (He.fAd K a_right_steps) cdv)).units + 64 < cLine := hr.units
    refine ⟨_, PSs.nox (pss_cons (ps_set (i := 3) sc_right_steps.nd rfl (Or.inl rfl) (pe_dnewN P w))
    (pss_cons (ps_for PassesOwn.never rfl (kpi_list K (pv 2)) (pg_tup (by rfl) (pgs_cons (pg_name (i := 4) sc_right_steps.nd rfl (Or.inl rfl)) (pgs_cons (pg_name (i := 5) sc_right_steps.nd rfl (Or.inl rfl)) (pgs_cons (pg_name (i := 6) sc_right_steps.nd rfl (Or.inl rfl)) pgs_nil)))) (pss_cons (ps_if (PW.pt (pw_or (pt_cmpR op_lt (pe_callB (call_min3Nu rfl) (by rfl) T.z_min bt_min (pa_cons (pv 4) (pa_cons (pv 5) (pa_cons (pv 6) pa_nil)))) pe_int (nomark _)) (pw_or (pt_cmpR op_ge (pe_callB (call_max2 rfl) (by rfl) T.z_max bt_max (pa_cons (pv 4) (pa_cons (pv 6) pa_nil))) (pv 1) (nomark _)) (pw_or1 (pt_cmpR op_ge (pv 5) (pv 0) (nomark _)))))) (pss_one (ps_ret pe_bl)) pss_nil)
      (pss_cons (ps_if (pt_cmp (pc_nin P w hu (pe_tup (pa_cons (pv 4) (pa_cons (pv 5) (pa_cons (pv 6) pa_nil)))) (pv 3))) (pss_one (ps_ret pe_bl)) pss_nil)
      (pss_one (ps_nput P w hu (pv 3) (pe_tup (pa_cons (pv 4) (pa_cons (pv 5) (pa_cons (pv 6) pa_nil)))) pe_bl rfl)))))
    (pss_one (ps_ret pe_bl)))), ?_⟩
    walk_at "go"
    refine fun d hd => ?_
    walk_at "go"
    have nld : l ≠ d := ne_of_none hl hd
    refine g_rforL (SqL.of (by rw [upd_ne nld]; exact hl)) (fun i σ' H' => ∃ v1 v2 v3 xs, σ' = [some (.int 2), some (.int (n : Nat)), some (.ref l), some (.ref d), v1, v2, v3] ∧ Same H H' ∧ NDict P w H' d xs ∧ xs.length ≤ i ∧ ∀ x ∈ xs, ∃ q ∈ sp.take i, x.1 = skey q)
      ⟨none, none, none, [], rfl, same_new hd, ⟨upd_same, fun _ h => nomatch h⟩, Nat.le_refl _, fun _ h => nomatch h⟩ (fun i _ H2 _ ⟨_, _, _, _, _, z, _⟩ => SqL.of (z _ _ hl)) ?_ ?_
    · rintro i y σ' H' hy ⟨v1, v2, v3, xs, rfl, s1, N, hxl, hx⟩
      rw [List.getElem?_map] at hy
      obtain ⟨b, hb', rfl⟩ := Option.map_eq_some_iff.mp hy
      obtain ⟨q, hq, hqb⟩ := Pd.get hb hb'
      have hqm := hsp q (List.mem_of_getElem? hq)
      have hi : i < sp.length := (List.getElem?_eq_some_iff.mp hq).1
      walk_at "go"
      refine g_run (SqT.of (s1 _ _ hqb)) rfl ?_
      walk_at "go"
      obtain ⟨m, hm1, hm2⟩ := min3_int (q.1 : Nat) q.2.1 (q.2.2 : Nat)
      refine ⟨_, _, _, _, rfl, hm1, ?_⟩
      walk_at "go"
      rw [show decide (m < 0) = false from decide_eq_false (by omega)]
      refine iteF ?_
      walk_at "go"
      refine ⟨_, _, rfl, ?_⟩
      walk_at "go"
      rw [show decide ((if ((q.2.2 : Nat) : Int) > (q.1 : Nat) then ((q.2.2 : Nat) : Int) else (q.1 : Nat)) ≥ (n : Nat)) = false from decide_eq_false (by split <;> omega)]
      refine iteF ?_
      walk_at "go"
      rw [show decide (q.2.1 ≥ 2) = false from decide_eq_false (by omega)]
      refine iteF ?_
      walk_at "go"
      refine g_newT 3 rfl (by decide) fun p hp => ?_
      have sp1 := same_new (H := H') (o := .tup [.int (q.1 : Nat), .int q.2.1, .int (q.2.2 : Nat)]) hp
      have hk : StA (upd H' p (.tup [.int (q.1 : Nat), .int q.2.1, .int (q.2.2 : Nat)])) q p := upd_same
      have hv : valN xs (skey q) = none := valN_none fun x hx' e => by
        obtain ⟨r, hr, er⟩ := hx x hx'
        have := skey_inj (er.symm.trans e)
        subst this
        obtain ⟨j, hj, ej⟩ := List.mem_iff_getElem.mp hr
        rw [List.length_take] at hj
        rw [List.getElem_take] at ej
        have e2 : sp[i] = r := (List.getElem?_eq_some_iff.mp hq).2
        exact absurd (ej.trans e2.symm) (List.pairwise_iff_getElem.mp hnd j i (by omega) hi (by omega))
      walk_at "go"
      refine g_rni (N.mono sp1) hk.key (skey_depth q) ?_
      walk_at "go"
      rw [hv]
      refine iteF ?_
      walk_at "go"
      refine g_newT 3 rfl (by decide) fun p2 hp2 => ?_
      have sp2 := sp1.trans (same_new (o := .tup [.int (q.1 : Nat), .int q.2.1, .int (q.2.2 : Nat)]) hp2)
      have hk2 : StA (upd (upd H' p (.tup [.int (q.1 : Nat), .int q.2.1, .int (q.2.2 : Nat)])) p2 (.tup [.int (q.1 : Nat), .int q.2.1, .int (q.2.2 : Nat)])) q p2 := upd_same
      walk_at "go"
      refine g_rnp (N.mono sp2) hk2.key (skey_depth q) hv (lt_line (by omega)) ?_
      walk_at "go"
      refine ⟨_, _, _, _, rfl, (s1.trans sp2).mut hd, (N.mono sp2).put hk2.key (skey_depth q), by rw [List.length_append]; exact Nat.succ_le_succ hxl, fun x hx' => ?_⟩
      rw [take_snoc hq]
      rcases List.mem_append.mp hx' with h | h
      · obtain ⟨r, hr, er⟩ := hx x h
        exact ⟨r, List.mem_append_left _ hr, er⟩
      · rw [List.mem_singleton.mp h]
        exact ⟨q, List.mem_append_right _ List.mem_cons_self, rfl⟩
    · rintro σ' H' ⟨v1, v2, v3, xs, rfl, s1, N, hxl, hx⟩
      walk_at "go"
      exact k _ s1
end
end K22

set_option Elab.async false
set_option linter.all false
set_option maxRecDepth 100000
set_option maxHeartbeats 1000000
namespace K22
open PySem PySem.Spec PyProof.Rows L2
local macro_rules | `(tactic| walk_at "go1") => `(tactic| with_reducible first
  | refine g_seq ?_ | refine g_asg ?_ | refine g_name ?_ | refine g_c ?_ | refine g_op ?_ | refine g_cons ?_ | refine g_nil ?_ | refine g_cb ?_ | refine g_call ?_ | refine g_meth ?_
  | refine g_I0 ?_ | refine g_ret ?_ | refine g_retN ?_ | refine g_drop ?_ | refine g_if ?_ | refine g_test ?_ | refine g_tB ?_ | refine g_bool ?_
  | refine g_not ?_ | refine g_and ?_ | refine g_or ?_ | refine g_yes ?_ | refine g_tup ?_ | refine g_lst ?_ | refine g_slice ?_ | refine g_part ?_ | refine g_nopart ?_ | refine g_int ?_ | refine g_fld ?_ | refine g_dget ?_
  | refine g_din ?_ | refine g_dnotin ?_ | refine g_bm0 ?_ | refine g_bm ?_ | refine g_ifexp ?_ | refine g_andv ?_ | refine g_orv ?_ | refine g_notv ?_ | refine g_chain ?_ | refine g_U ?_ | refine g_next ?_ | refine g_brk ?_ | refine g_cont ?_
  | refine g_sfld ?_ | refine g_sdput ?_ | refine g_gtup ?_ | refine g_gcons ?_ | refine g_gnil ?_ | refine g_gsub ?_ | refine g_forT ?_ | refine g_forL ?_ | refine g_forR ?_ | refine g_lcT ?_ | refine g_lcL ?_ | refine g_lcR ?_ | refine g_un ?_ | refine g_sfa ?_ | refine g_ip ?_ | refine g_nin ?_ | refine g_nnot ?_ | refine g_nget ?_ | refine g_nput ?_ | refine g_ndisp ?_ | refine g_addI ?_ | refine g_subI ?_
  | (show Ends.nx _ _ _; refine g_nxm ?_) | (show Ends.rt _ _ _; refine g_rtm ?_) | (show Ends.bk _ _ _; refine g_bkm ?_) | (show Ends.ct _ _ _; refine g_ctm ?_))
local macro_rules | `(tactic| walk_at "go2") => `(tactic| first
  | ((with_reducible show tVar _ _ _ _); refine g_var rfl ?_)
  | ((with_reducible show rEq _ _ _ _); refine g_eq rfl ?_)
  | ((with_reducible show rNe _ _ _ _); refine g_ne rfl ?_)
  | ((with_reducible show tAug _ _ _ _ _ _); refine g_aug rfl ?_))
local macro_rules | `(tactic| walk_at "go") => `(tactic| repeat (first | walk_at "go1" | walk_at "go2"))
section
variable {P : Program} {w : World} {K : PySem.W.Frag} {mg : Str → Option Value} {base : Heap}
theorem Pd.perm {α β : Type} {R : α → β → Prop} {m m' : List β} (h : m'.Perm m) : ∀ {l : List α}, Paired R l m → ∃ l', l'.Perm l ∧ Paired R l' m' := by
  induction h with
  | nil => exact fun h => ⟨_, .refl _, h⟩
  | @cons x m1 m2 _ ih =>
    intro l h
    cases h with
    | cons a b =>
      obtain ⟨l', h1, h2⟩ := ih b
      exact ⟨_, h1.cons _, .cons a h2⟩
  | swap x y m =>
    intro l h
    cases h with
    | cons a b =>
      cases b with
      | cons b c => exact ⟨_, .swap _ _ _, .cons b (.cons a c)⟩
  | trans _ _ ih1 ih2 =>
    intro l h
    obtain ⟨l1, h1, h2⟩ := ih2 h
    obtain ⟨l2, h3, h4⟩ := ih1 h2
    exact ⟨l2, h3.trans h1, h4⟩
theorem Pd.refs {α : Type} {R : α → Addr → Prop} : ∀ {l : List α} {vs : List V}, Paired (fun x v => ∃ b, v = V.ref b ∧ R x b) l vs → ∃ bs : List Addr, vs = bs.map V.ref ∧ Paired R l bs
  | _, _, .nil => ⟨[], rfl, .nil⟩
  | _, _, .cons ⟨b, e, h⟩ t => by
    obtain ⟨bs, e2, h2⟩ := Pd.refs t
    exact ⟨b :: bs, by rw [e, e2]; rfl, .cons h h2⟩
theorem Pd.toRefs {α : Type} {R : α → Addr → Prop} : ∀ {l : List α} {bs : List Addr}, Paired R l bs → Paired (fun x v => ∃ b, v = V.ref b ∧ R x b) l (bs.map V.ref)
  | _, _, .nil => .nil
  | _, _, .cons h t => .cons ⟨_, rfl, h⟩ (Pd.toRefs t)
def FcL (H : Hp) (fs : List Int) (b : Addr) : Prop := H b = some (.lst (fs.map V.int))
def spWorld (K : PySem.W.Frag) : Sp := fun vs H Q _ => ∃ (x dx l m : Addr) (as bs : List Addr) (W : Wd), vs = [.ref x, .int 2, .int 2, .ref l, .ref m] ∧ H x = some (.ins (He.ga K "World") dx []) ∧ W.Ok ∧ H l = some (.lst (as.map V.ref)) ∧ Paired (FcL H) W.fc as ∧ (∀ fs ∈ W.fc, Asc fs) ∧
  H m = some (.lst (bs.map V.ref)) ∧ Paired (StA H) W.sp bs ∧ ∀ H' W', SameX x H H' → W'.n = W.n → W'.fc = W.fc → W'.sp.Perm W.sp → WAt K H' x W' → Q .non H'
theorem Paired.len {α β : Type} {R : α → β → Prop} {l : List α} {m : List β} (h : Paired R l m) : l.length = m.length := Paired.length h
-- slots of World.__init__: 0:self 1:labels 2:facts 3:states 4:steps 5:valid 6:state 7:first 8:label 9:second
abbrev n_World_init : List Str := ["self", "labels", "facts", "states", "steps", "valid", "state", "first", "label", "second"]
theorem sc_World_init : FnScope n_World_init p_World_init (defScope s_World_init) := ⟨rfl, rfl, rfl, by decide +kernel, rfl, by decide +kernel, by decide +kernel⟩
theorem ok_World_init (T : Top w K mg) : Ok P w K mg base 2 a_World_init p_World_init (spWorld K) := by
  have G_ascend := ok_ascend (P := P) (base := base) T
  have G_right_steps := ok_right_steps (P := P) (base := base) T
  obtain ⟨_, h_MOST_STATES_worlds⟩ := T.i_MOST_STATES_worlds
  refine T.F_World_init.ok sc_World_init (fun vs H Q E h => ?_) (fun cdv A outer s H vs Q E hr h => ?_)
  · obtain ⟨x, dx, l, m, as, bs, W, rfl, _⟩ := h
    rfl
  · obtain ⟨x, dx, l, m, as, bs, W, rfl, hx, wok, hl, hfc, hasc, hm, hst, k⟩ := h
    refine ⟨_, PSs.nox (pss_cons (ps_set (i := 5) sc_World_init.nd rfl (Or.inl rfl) (pe_and (pe_chain op_le op_le pe_int (pv 1) pe_int) (pe_and (pe_chain op_le op_le pe_int (pv 2) pe_int) (pe_one (pe_chain op_le op_le pe_int (pe_callB (kc_len K) (by rfl) T.z_len bt_len (pa_cons (pv 3) pa_nil)) (pe_gint (by rfl) h_MOST_STATES_worlds))))))
    (pss_cons (ps_for PassesOwn.never rfl (kpi_list K (pv 3)) (pg_name (i := 6) sc_World_init.nd rfl (Or.inl rfl)) (pss_one (ps_set (i := 5) sc_World_init.nd rfl (Or.inl rfl) (pe_and (pv 5) (pe_one (pe_call G_ascend (hr.mono (by omega)) rfl T.g_ascend T.F_ascend.kp T.b_ascend .nil pass0 (pa_cons (pv 6) (pa_cons (pv 2) pa_nil))))))))
    (pss_cons (ps_if (PW.pt (pw_or (pt_not (pt_val (pv 5))) (pw_or1 (pt_not (pt_val (pe_call G_right_steps (hr.mono (by omega)) rfl T.g_right_steps T.F_right_steps.kp T.b_right_steps .nil pass0 (pa_cons (pv 1) (pa_cons (pe_callB (kc_len K) (by rfl) T.z_len bt_len (pa_cons (pv 3) pa_nil)) (pa_cons (pv 4) pa_nil))))))))) (pss_one ps_never) pss_nil)
    (pss_cons (ps_fld (pv 0) (pv 1) rfl)
    (pss_cons (ps_fld (pv 0) (pv 2) rfl)
    (pss_cons (ps_fld (pv 0) (pe_callTy (kc_tuple K) (by rfl) T.z_tuple bt_tuple (pa_cons (pe_lc (own := [("state", 6)]) (g := gName 6) (tt := tYes) rfl sc_World_init.nd (kpi_list K (pv 3)) (blkOk_by (N := n_World_init) (sc := (defScope s_World_init)) (by decide +kernel)) (fun _ _ _ _ _ => (pg_name (i := 6) sc_World_init.nd rfl (Or.inl rfl))) (fun _ _ _ _ _ => pts_nil) (fun _ _ _ _ _ => (pe_callTy (kc_tuple K) (by rfl) T.z_tuple bt_tuple (pa_cons (pv 6) pa_nil)))) pa_nil)) rfl)
    (pss_one (ps_fld (pv 0) (pe_callTy (kc_tuple K) (by rfl) T.z_tuple bt_tuple (pa_cons (pe_callB (cr_sortT (d := 3) (B := 4) (by decide)) (by rfl) T.z_sorted bt_sorted (pa_cons (pe_lc (own := [("first", 7), ("label", 8), ("second", 9)]) (g := gTup K 3 (gCons (gName 7) (gCons (gName 8) (gCons (gName 9) gNil)))) (tt := tYes) rfl sc_World_init.nd (kpi_list K (pv 4)) (blkOk_by (N := n_World_init) (sc := (defScope s_World_init)) (by decide +kernel)) (fun _ _ _ _ _ => (pg_tup (by rfl) (pgs_cons (pg_name (i := 7) sc_World_init.nd rfl (Or.inl rfl)) (pgs_cons (pg_name (i := 8) sc_World_init.nd rfl (Or.inl rfl)) (pgs_cons (pg_name (i := 9) sc_World_init.nd rfl (Or.inl rfl)) pgs_nil))))) (fun _ _ _ _ _ => pts_nil) (fun _ _ _ _ _ => (pe_tup (pa_cons (pv 7) (pa_cons (pv 8) (pa_cons (pv 9) pa_nil)))))) pa_nil)) pa_nil)) rfl)))))))), ?_⟩
    have n1 := wok.n1
    have n4 := wok.n4
    have fl := wok.fl
    have hlen := Paired.length hfc
    have hlenb := Paired.length hst
    have hsl := wok.sl
    walk_at "go"
    refine iteT ?_
    walk_at "go"
    refine iteT ?_
    walk_at "go"
    refine iteT ?_
    walk_at "go"
    refine iteT ?_
    walk_at "go"
    refine g_len (.inl (SqL.of hl)) ?_
    walk_at "go"
    rw [List.length_map, ← hlen, fl, show decide ((1 : Int) ≤ (W.n : Nat)) = true from decide_eq_true (by omega)]
    refine iteT ?_
    walk_at "go"
    rw [show decide (((W.n : Nat) : Int) ≤ 400) = true from decide_eq_true (by omega)]
    walk_at "go"
    refine g_rforL (SqL.of hl) (fun i σ' H' => ∃ v1 v2 v3, σ' = [some (.ref x), some (.int 2), some (.int 2), some (.ref l), some (.ref m), some (.bl true), v1, v2, v3, none] ∧ Same H H') ⟨none, none, none, rfl, Same.refl _⟩ (fun i _ H2 _ ⟨_, _, _, _, z⟩ => SqL.of (z _ _ hl)) ?_ ?_
    · rintro i y σ' H' hy ⟨v1, v2, v3, rfl, s1⟩
      rw [List.getElem?_map] at hy
      obtain ⟨b, hb', rfl⟩ := Option.map_eq_some_iff.mp hy
      obtain ⟨q, hq, hqb⟩ := Pd.get hfc hb'
      walk_at "go"
      refine iteT ?_
      walk_at "go"
      refine ⟨b, q, rfl, s1 _ _ hqb, hasc q (List.mem_of_getElem? hq), fun H2 s2 => ?_⟩
      walk_at "go"
      exact ⟨_, _, _, rfl, s1.trans s2⟩
    · rintro σ' H1 ⟨v1, v2, v3, rfl, s1⟩
      walk_at "go"
      refine iteF ?_
      walk_at "go"
      refine g_len (.inl (SqL.of (s1 _ _ hl))) ?_
      walk_at "go"
      rw [List.length_map, ← hlen, fl]
      refine ⟨m, bs, W.n, W.sp, rfl, s1 _ _ hm, Paired.mapP hst fun _ _ q => s1 _ _ q, hsl, wok.sp, wok.nd, fun H2 s2 => ?_⟩
      have s12 := s1.trans s2
      walk_at "go"
      refine iteF ?_
      walk_at "go"
      refine g_rput (s12 _ _ hx) T.c_World T.n_World_labels (by decide) ?_
      walk_at "go"
      refine g_rput upd_same T.c_World T.n_World_facts (by decide) ?_
      rw [upd_upd]
      walk_at "go"
      have nxl : l ≠ x := ne_of hl hx (by intro z; cases z)
      have nxm : m ≠ x := ne_of hm hx (by intro z; cases z)
      have sx : SameX x H (upd H2 x (.ins (He.ga K "World") dx (putF "facts" (.int 2) (putF "labels" (.int 2) [])))) := (s12.x x).trans SameX.upd
      generalize hH3 : upd H2 x (.ins (He.ga K "World") dx (putF "facts" (.int 2) (putF "labels" (.int 2) []))) = H3 at sx ⊢
      have hx3 : H3 x = some (.ins (He.ga K "World") dx (putF "facts" (.int 2) (putF "labels" (.int 2) []))) := by rw [← hH3]; exact upd_same
      refine g_rlcL (SqL.of (sx _ _ nxl hl)) fun E hE => ⟨fun i H' => ∃ us : List Addr, Same H3 H' ∧ H' E = some (.lst (us.map V.ref)) ∧ Paired (FcA H') (W.fc.take i) us, ⟨[], same_new hE, upd_same, .nil⟩, fun i H' hi ⟨us, s0, _, e⟩ => SqL.of (s0 _ _ (sx _ _ nxl hl)), fun i y H' hy ⟨us, s0, hE0, e⟩ => ?_, fun H4 ⟨us, s0, hE0, e⟩ => ?_⟩
      · rw [List.getElem?_map] at hy
        obtain ⟨b, hb', rfl⟩ := Option.map_eq_some_iff.mp hy
        obtain ⟨q, hq, hqb⟩ := Pd.get hfc hb'
        have nbx : b ≠ x := ne_of hqb hx (by intro z; cases z)
        refine g_turn rfl ?_
        walk_at "go"
        refine iteT ?_
        walk_at "go"
        refine g_tupL (s0 _ _ (sx _ _ nbx hqb)) fun u hu => ?_
        walk_at "go"
        have hEu := same_new (o := .tup (q.map V.int)) hu
        have hul : us.length ≤ 4 := by
          rw [← Paired.length e, List.length_take]
          omega
        refine g_add (hEu _ _ hE0) (lt_line (by rw [List.length_map]; omega)) ?_
        have sT : SameT H' (upd (upd H' u (.tup (q.map V.int))) E (.lst (us.map V.ref ++ [V.ref u]))) := hEu.t.trans (SameT.lst (hEu _ _ hE0))
        refine ⟨us ++ [u], (s0.trans hEu).mut hE, by rw [upd_same, List.map_append]; rfl, ?_⟩
        rw [take_snoc hq]
        refine Pd.snoc ?_ (Paired.mapP e fun _ _ z => sT _ _ z)
        have : u ≠ E := (ne_of_none hE0 hu).symm
        show upd _ E _ u = _
        rw [upd_ne this]
        exact upd_same
      · rw [List.take_of_length_le (by rw [List.length_map, ← hlen]; exact Nat.le_refl _)] at e
        walk_at "go"
        refine g_tupL hE0 fun u hu => ?_
        have s4 : Same H3 (upd H4 u (.tup (us.map V.ref))) := s0.new hu
        have e' : Paired (FcA (upd H4 u (.tup (us.map V.ref)))) W.fc us := Paired.mapP e fun _ _ z => same_new hu _ _ z
        have hu5 : upd H4 u (.tup (us.map V.ref)) u = some (.tup (us.map V.ref)) := upd_same
        generalize upd H4 u (.tup (us.map V.ref)) = H5 at s4 e' hu5 ⊢
        walk_at "go"
        refine g_rput (s4 _ _ hx3) T.c_World T.n_World_states (by decide) ?_
        have sx6 : SameX x H (upd H5 x (.ins (He.ga K "World") dx (putF "states" (.ref u) (putF "facts" (.int 2) (putF "labels" (.int 2) []))))) := (sx.trans (s4.x x)).trans SameX.upd
        have hx6 : (upd H5 x (.ins (He.ga K "World") dx (putF "states" (.ref u) (putF "facts" (.int 2) (putF "labels" (.int 2) []))))) x = some (.ins (He.ga K "World") dx (putF "states" (.ref u) (putF "facts" (.int 2) (putF "labels" (.int 2) [])))) := upd_same
        have st6 : SameT H5 (upd H5 x (.ins (He.ga K "World") dx (putF "states" (.ref u) (putF "facts" (.int 2) (putF "labels" (.int 2) []))))) := SameT.upd (s4 _ _ hx3) fun _ z => nomatch z
        generalize upd H5 x (.ins (He.ga K "World") dx (putF "states" (.ref u) (putF "facts" (.int 2) (putF "labels" (.int 2) [])))) = H6 at sx6 hx6 st6 ⊢
        walk_at "go"
        refine g_rlcL (SqL.of (sx6 _ _ nxm hm)) fun E hE => ⟨fun i H' => ∃ us : List Addr, Same H6 H' ∧ H' E = some (.lst (us.map V.ref)) ∧ Paired (StA H') (W.sp.take i) us, ⟨[], same_new hE, upd_same, .nil⟩, fun i H' hi ⟨us, s0, _, e⟩ => SqL.of (s0 _ _ (sx6 _ _ nxm hm)), fun i y H' hy ⟨us, s0, hE0, e⟩ => ?_, fun H7 ⟨cs, s7, hE7, e7⟩ => ?_⟩
        · rw [List.getElem?_map] at hy
          obtain ⟨b, hb', rfl⟩ := Option.map_eq_some_iff.mp hy
          obtain ⟨q, hq, hqb⟩ := Pd.get hst hb'
          have nbx : b ≠ x := ne_of hqb hx (by intro z; cases z)
          refine g_turnG ?_
          walk_at "go"
          refine g_run (SqT.of (s0 _ _ (sx6 _ _ nbx hqb))) rfl ?_
          walk_at "go"
          refine ⟨rfl, ?_⟩
          walk_at "go"
          refine iteT ?_
          walk_at "go"
          refine g_newT 3 rfl (by decide) fun u hu => ?_
          walk_at "go"
          have hEu := same_new (o := .tup [.int (q.1 : Nat), .int q.2.1, .int (q.2.2 : Nat)]) hu
          have hul : us.length ≤ 32 := by
            rw [← Paired.length e, List.length_take]
            omega
          refine g_add (hEu _ _ hE0) (lt_line (by rw [List.length_map]; omega)) ?_
          have sT : SameT H' (upd (upd H' u (.tup [.int (q.1 : Nat), .int q.2.1, .int (q.2.2 : Nat)])) E (.lst (us.map V.ref ++ [V.ref u]))) := hEu.t.trans (SameT.lst (hEu _ _ hE0))
          refine ⟨us ++ [u], (s0.trans hEu).mut hE, by rw [upd_same, List.map_append]; rfl, ?_⟩
          rw [take_snoc hq]
          refine Pd.snoc ?_ (Paired.mapP e fun _ _ z => sT _ _ z)
          have : u ≠ E := (ne_of_none hE0 hu).symm
          show upd _ E _ u = _
          rw [upd_ne this]
          exact upd_same
        · rw [List.take_of_length_le (by rw [List.length_map, ← hlenb]; exact Nat.le_refl _)] at e7
          have hcl := Paired.length e7
          walk_at "go"
          refine ⟨E, _, rfl, SqL.of hE7, by rw [List.length_map]; omega, fun v hv => ?_, fun ys p hperm _ hp => ?_⟩
          · obtain ⟨c, hc, rfl⟩ := List.mem_map.mp hv
            obtain ⟨j, hj, rfl⟩ := List.mem_iff_getElem.mp hc
            obtain ⟨q, hq, hqc⟩ := Pd.get e7 (List.getElem?_eq_getElem hj)
            have hqm := wok.sp q (List.mem_of_getElem? hq)
            refine ⟨[(q.1 : Nat), q.2.1, (q.2.2 : Nat)], ⟨_, rfl, SqT.of hqc⟩, rfl, fun z hz => ?_⟩
            simp at hz
            rcases hz with rfl | rfl | rfl <;> omega
          · obtain ⟨sp', hp1, hp2⟩ := Pd.perm hperm (Pd.toRefs e7)
            obtain ⟨ds, rfl, hds⟩ := Pd.refs hp2
            have s8 := same_new (o := .lst (ds.map V.ref)) hp
            have hp8 : upd H7 p (.lst (ds.map V.ref)) p = some (.lst (ds.map V.ref)) := upd_same
            generalize upd H7 p (.lst (ds.map V.ref)) = H8 at s8 hp8 ⊢
            walk_at "go"
            refine g_tupL hp8 fun t ht => ?_
            have s9 := same_new (o := .tup (ds.map V.ref)) ht
            have ht9 : upd H8 t (.tup (ds.map V.ref)) t = some (.tup (ds.map V.ref)) := upd_same
            generalize upd H8 t (.tup (ds.map V.ref)) = H9 at s9 ht9 ⊢
            have s69 := (s7.trans s8).trans s9
            have hx9 := s69 _ _ hx6
            walk_at "go"
            refine g_rput hx9 T.c_World T.n_World_steps (by show 3 < 1000; decide) ?_
            walk_at "go"
            have tT : SameT H9 (upd H9 x (.ins (He.ga K "World") dx (putF "steps" (.ref t) (putF "states" (.ref u) (putF "facts" (.int 2) (putF "labels" (.int 2) [])))))) := SameT.upd hx9 fun _ z => nomatch z
            refine k _ ⟨W.n, W.fc, sp'⟩ ((sx6.trans (s69.x x)).trans SameX.upd) rfl rfl hp1 ⟨⟨n1, n4, fl, by rw [hp1.length_eq]; exact hsl, fun q hq => wok.sp q (hp1.mem_iff.mp hq), hp1.nodup_iff.mpr wok.nd⟩, dx, u, t, us, ds, ?_, ?_, ?_, ?_, ?_⟩
            · rw [upd_same]
              rfl
            · exact tT _ _ (s69 _ _ (st6 _ _ hu5))
            · exact Paired.mapP e' fun _ _ z => tT _ _ (s69 _ _ (st6 _ _ z))
            · exact tT _ _ ht9
            · exact Paired.mapP hds fun _ _ z => tT _ _ (s9 _ _ (s8 _ _ z))
end
end K22

set_option Elab.async false
set_option linter.all false
set_option maxRecDepth 100000
set_option maxHeartbeats 1000000
namespace K22
open PySem PySem.Spec PyProof.Rows L2
local macro_rules | `(tactic| walk_at "go1") => `(tactic| with_reducible first
  | refine g_seq ?_ | refine g_asg ?_ | refine g_name ?_ | refine g_c ?_ | refine g_op ?_ | refine g_cons ?_ | refine g_nil ?_ | refine g_cb ?_ | refine g_call ?_ | refine g_meth ?_
  | refine g_I0 ?_ | refine g_ret ?_ | refine g_retN ?_ | refine g_drop ?_ | refine g_if ?_ | refine g_test ?_ | refine g_tB ?_ | refine g_bool ?_
  | refine g_not ?_ | refine g_and ?_ | refine g_or ?_ | refine g_yes ?_ | refine g_tup ?_ | refine g_lst ?_ | refine g_slice ?_ | refine g_part ?_ | refine g_nopart ?_ | refine g_int ?_ | refine g_fld ?_ | refine g_dget ?_
  | refine g_din ?_ | refine g_dnotin ?_ | refine g_bm0 ?_ | refine g_bm ?_ | refine g_ifexp ?_ | refine g_andv ?_ | refine g_orv ?_ | refine g_notv ?_ | refine g_chain ?_ | refine g_U ?_ | refine g_next ?_ | refine g_brk ?_ | refine g_cont ?_
  | refine g_sfld ?_ | refine g_sdput ?_ | refine g_gtup ?_ | refine g_gcons ?_ | refine g_gnil ?_ | refine g_gsub ?_ | refine g_forT ?_ | refine g_forL ?_ | refine g_forR ?_ | refine g_lcT ?_ | refine g_lcL ?_ | refine g_lcR ?_ | refine g_un ?_ | refine g_sfa ?_ | refine g_ip ?_ | refine g_nin ?_ | refine g_nnot ?_ | refine g_nget ?_ | refine g_nput ?_ | refine g_ndisp ?_ | refine g_addI ?_ | refine g_subI ?_
  | (show Ends.nx _ _ _; refine g_nxm ?_) | (show Ends.rt _ _ _; refine g_rtm ?_) | (show Ends.bk _ _ _; refine g_bkm ?_) | (show Ends.ct _ _ _; refine g_ctm ?_))
local macro_rules | `(tactic| walk_at "go2") => `(tactic| first
  | ((with_reducible show tVar _ _ _ _); refine g_var rfl ?_)
  | ((with_reducible show rEq _ _ _ _); refine g_eq rfl ?_)
  | ((with_reducible show rNe _ _ _ _); refine g_ne rfl ?_)
  | ((with_reducible show tAug _ _ _ _ _ _); refine g_aug rfl ?_))
local macro_rules | `(tactic| walk_at "go") => `(tactic| repeat (first | walk_at "go1" | walk_at "go2"))
section
variable {P : Program} {w : World} {K : PySem.W.Frag} {mg : Str → Option Value} {base : Heap}
/-! ### rows and machines -/
def F.rowOk : F → Nat → Bool → Prop
  | .var x, n, i => i = true ∧ 0 ≤ x ∧ x < (n : Nat)
  | .bin _ f g, n, i => f.rowOk n i ∧ g.rowOk n i
  | .mod _ _ f, n, _ => f.rowOk n true
  | .fix _ _ _, _, _ => False
  | _, _, _ => True
def spIsRow (n : Nat) : Sp := fun vs H Q _ => ∃ (a : Addr) (f : F) (c : Nat) (i : Bool), vs = [.ref a, .int (c : Nat), .bl i] ∧ FA H f a ∧ f.rowOk c i ∧ f.ht < n ∧ ∀ H', Same H H' → Q (.bl true) H'
theorem rowOk_fix {f : F} {c : Nat} {i : Bool} (h : f.rowOk c i) : f.isFix = false := by
  cases f <;> first | rfl | exact h.elim
theorem rowOk_kid {f g : F} {c : Nat} {i : Bool} (h : f.rowOk c i) (hg : g ∈ f.kids) : g.rowOk c (i || f.isMod) := by
  cases f with
  | bin b f1 f2 =>
    simp [F.kids] at hg
    simp only [F.isMod, Bool.or_false]
    rcases hg with rfl | rfl
    · exact h.1
    · exact h.2
  | mod b l f1 =>
    simp [F.kids] at hg
    subst hg
    simp only [F.isMod, Bool.or_true]
    exact h
  | fix b x f1 => exact h.elim
  | _ => simp [F.kids] at hg
-- slots of is_row: 0:statement 1:count 2:inside 3:part
abbrev n_is_row : List Str := ["statement", "count", "inside", "part"]
theorem sc_is_row : FnScope n_is_row p_is_row (defScope s_is_row) := ⟨rfl, rfl, rfl, by decide +kernel, rfl, by decide +kernel, by decide +kernel⟩
theorem ok_is_row (T : Top w K mg) (n : Nat) : Ok P w K mg base (n + 1) a_is_row p_is_row (spIsRow n) := by
  induction n with
  | zero => exact ok_none fun vs H Q E ⟨_, _, _, _, _, _, _, h, _⟩ => absurd h (Nat.not_lt_zero _)
  | succ n G_is_row =>
    have G_parts_in := ok_parts_in (P := P) (base := base) T
    refine T.F_is_row.ok sc_is_row (fun vs H Q E h => ?_) (fun cdv A outer s H vs Q E hr h => ?_)
    · obtain ⟨a, f, c, i, rfl, _⟩ := h
      rfl
    · obtain ⟨a, f, c, i, rfl, hf, hrow, hn, k⟩ := h
      refine ⟨_, PSs.nox (pss_cons (ps_if (pt_cmpR (ko_in K) (pe_ix (ki_tup K) (pv 0) pe_int (fun _ _ => rfl)) (pe_gref (by rfl) T.g_BINDERS) (by rfl)) (pss_one (ps_ret pe_bl)) pss_nil)
    (pss_cons (ps_if (pt_cmpR op_eq (pe_ix (ki_tup K) (pv 0) pe_int (fun _ _ => rfl)) pe_str (nomark _)) (pss_one (ps_ret (pe_and (pv 2) (pe_one (pe_cmpR op_lt (pe_ix (ki_tup K) (pv 0) pe_int (fun _ _ => rfl)) (pv 1) (nomark _)))))) pss_nil)
    (pss_cons (ps_for PassesOwn.never rfl (kpi_list K (pe_call G_parts_in (hr.mono (by omega)) rfl T.g_parts_in T.F_parts_in.kp T.b_parts_in .nil pass0 (pa_cons (pv 0) pa_nil))) (pg_name (i := 3) sc_is_row.nd rfl (Or.inl rfl)) (pss_one (ps_if (pt_not (pt_val (pe_call G_is_row (hr.mono (by omega)) rfl T.g_is_row T.F_is_row.kp T.b_is_row .nil pass0 (pa_cons (pv 3) (pa_cons (pv 1) (pa_cons (pe_or (pv 2) (pe_one (pe_cmpR (ko_in K) (pe_ix (ki_tup K) (pv 0) pe_int (fun _ _ => rfl)) (pe_tup (pa_cons pe_str (pa_cons pe_str pa_nil))) (by rfl)))) pa_nil)))))) (pss_one (ps_ret pe_bl)) pss_nil)))
    (pss_one (ps_ret pe_bl))))), ?_⟩
      obtain ⟨ys, e, hi⟩ := hf.tup
      walk_at "go"
      refine g_ixT (SqT.of e) at0 ?_
      walk_at "go"
      refine g_inT (T.binders _) rfl rfl ?_
      walk_at "go"
      rw [k_fix f, rowOk_fix hrow]
      refine iteF ?_
      walk_at "go"
      refine g_ixT (SqT.of e) at0 ?_
      walk_at "go"
      refine iteB (k_var f) (fun hv => ?_) (fun hv => ?_)
      · cases f <;> cases hv
        rename_i y
        have e : H a = some (.tup [.str "var", .int y]) := hf
        obtain ⟨rfl, h1, h2⟩ := hrow
        walk_at "go"
        refine iteT ?_
        walk_at "go"
        refine g_ixT (SqT.of e) at1 ?_
        walk_at "go"
        rw [show decide (y < (c : Nat)) = true from decide_eq_true h2]
        exact k H (Same.refl H)
      · walk_at "go"
        refine ⟨a, f, rfl, hf, fun p as H1 hp s1 hp1 hk1 => ?_⟩
        refine g_rforL (SqL.of hp1) (fun j σ' H2 => ∃ v, σ' = [some (.ref a), some (.int (c : Nat)), some (.bl i), v] ∧ Same H1 H2) ⟨none, rfl, Same.refl _⟩ (fun i _ H2 _ ⟨_, _, z⟩ => SqL.of (z _ _ hp1)) ?_ ?_
        · rintro j y σ' H2 hy ⟨v, rfl, s2⟩
          rw [List.getElem?_map] at hy
          obtain ⟨u, hu', rfl⟩ := Option.map_eq_some_iff.mp hy
          obtain ⟨g, hg, hgu⟩ := Pd.get hk1 hu'
          have hmem := List.mem_of_getElem? hg
          have := kids_ht hmem
          have hrg := rowOk_kid hrow hmem
          have e2 := s2 _ _ (s1 _ _ e)
          walk_at "go"
          cases i with
          | true =>
            refine iteT ?_
            walk_at "go"
            refine ⟨u, g, c, true, rfl, hgu.mono s2, hrg, by omega, fun H3 s3 => ?_⟩
            walk_at "go"
            refine iteF ?_
            walk_at "go"
            exact ⟨_, rfl, s2.trans s3⟩
          | false =>
            refine iteF ?_
            walk_at "go"
            refine g_ixT (SqT.of e2) at0 ?_
            walk_at "go"
            refine g_newT 2 rfl (by decide) fun q hq => ?_
            have s3 := s2.trans (same_new (o := .tup [.str "some", .str "all"]) hq)
            refine g_inT (SqT.of upd_same) rfl rfl ?_
            walk_at "go"
            rw [k_mod f]
            refine ⟨u, g, c, f.isMod, rfl, hgu.mono s3, by simpa using hrg, by omega, fun H3 s4 => ?_⟩
            walk_at "go"
            refine iteF ?_
            walk_at "go"
            exact ⟨_, rfl, s3.trans s4⟩
        · rintro σ' H2 ⟨v, rfl, s2⟩
          walk_at "go"
          exact k H2 (s1.trans s2)
structure Mc where
  start : Nat
  rows : List F
  pr : List Nat
structure Mc.Ok (M : Mc) : Prop where
  n1 : 1 ≤ M.rows.length
  n4 : M.rows.length ≤ 400
  pl : M.pr.length = M.rows.length
  st : M.start < M.rows.length
  rw_ : ∀ r ∈ M.rows, r.rowOk M.rows.length false ∧ r.ht ≤ 4
  pb : ∀ p ∈ M.pr, p ≤ 200
def mF (s : Nat) (ps pt : Addr) : List (Str × V) := [("start", .int (s : Nat)), ("rows", .ref ps), ("priorities", .ref pt)]
structure MAt (K : PySem.W.Frag) (H : Hp) (a : Addr) (M : Mc) : Prop where
  ok : M.Ok
  at_ : ∃ dx ps pt as, H a = some (.ins (He.ga K "Machine") dx (mF M.start ps pt)) ∧ H ps = some (.tup (as.map V.ref)) ∧ FAs H M.rows as ∧ H pt = some (.tup (M.pr.map fun (x : Nat) => V.int x))
theorem MAt.monoS {H H' : Hp} {a : Addr} {M : Mc} (h : MAt K H a M) (s : SameT H H') (e : H' a = H a) : MAt K H' a M := by
  obtain ⟨ok, dx, ps, pt, as, e1, e2, e3, e4⟩ := h
  exact ⟨ok, dx, ps, pt, as, by rw [e]; exact e1, s _ _ e2, e3.monoT s, s _ _ e4⟩
theorem MAt.some {H : Hp} {a : Addr} {M : Mc} (h : MAt K H a M) : ∃ dx fs, H a = .some (.ins (He.ga K "Machine") dx fs) := let ⟨_, dx, _, _, _, e, _⟩ := h; ⟨dx, _, e⟩
theorem MAt.mono {H H' : Hp} {a : Addr} {M : Mc} (h : MAt K H a M) (s : Same H H') : MAt K H' a M := by
  obtain ⟨dx, fs, e⟩ := h.some
  exact h.monoS s.t (by rw [e, s _ _ e])
/-- a list or a tuple -/
def SqA (H : Hp) (a : Addr) (xs : List V) : Prop := H a = some (.lst xs) ∨ H a = some (.tup xs)
def spMachine (K : PySem.W.Frag) : Sp := fun vs H Q _ => ∃ (x dx l m : Addr) (as : List Addr) (M : Mc) (tl : Bool), vs = [.ref x, .int (M.start : Nat), .ref l, .ref m] ∧ H x = some (.ins (He.ga K "Machine") dx []) ∧ M.Ok ∧ H l = some (.lst (as.map V.ref)) ∧ FAs H M.rows as ∧
  H m = some (if tl then .tup (M.pr.map fun (x : Nat) => V.int x) else .lst (M.pr.map fun (x : Nat) => V.int x)) ∧ ∀ H', SameX x H H' → MAt K H' x M → Q .non H'
-- slots of Machine.__init__: 0:self 1:start 2:rows 3:priorities 4:valid 5:row 6:priority
abbrev n_Machine_init : List Str := ["self", "start", "rows", "priorities", "valid", "row", "priority"]
theorem sc_Machine_init : FnScope n_Machine_init p_Machine_init (defScope s_Machine_init) := ⟨rfl, rfl, rfl, by decide +kernel, rfl, by decide +kernel, by decide +kernel⟩
theorem ok_Machine_init (T : Top w K mg) : Ok P w K mg base 8 a_Machine_init p_Machine_init (spMachine K) := by
  have G_is_row := ok_is_row (P := P) (base := base) T 6
  obtain ⟨_, h_MOST_STATES_machines⟩ := T.i_MOST_STATES_machines
  obtain ⟨_, h_MOST_PRIORITY⟩ := T.i_MOST_PRIORITY
  refine T.F_Machine_init.ok sc_Machine_init (fun vs H Q E h => ?_) (fun cdv A outer s H vs Q E hr h => ?_)
  · obtain ⟨x, dx, l, m, as, M, tl, rfl, _⟩ := h
    rfl
  · obtain ⟨x, dx, l, m, as, M, tl, rfl, hx, mok, hl, hfa, hm, k⟩ := h
    cases tl with
    | false =>
      refine ⟨_, PSs.nox (pss_cons (ps_set (i := 4) sc_Machine_init.nd rfl (Or.inl rfl) (pe_and (pe_chain op_le op_le pe_int (pe_callB (kc_len K) (by rfl) T.z_len bt_len (pa_cons (pv 2) pa_nil)) (pe_gint (by rfl) h_MOST_STATES_machines)) (pe_and (pe_cmpR op_eq (pe_callB (kc_len K) (by rfl) T.z_len bt_len (pa_cons (pv 2) pa_nil)) (pe_callB (kc_len K) (by rfl) T.z_len bt_len (pa_cons (pv 3) pa_nil)) (nomark _)) (pe_one (pe_chain op_le op_lt pe_int (pv 1) (pe_callB (kc_len K) (by rfl) T.z_len bt_len (pa_cons (pv 2) pa_nil)))))))
    (pss_cons (ps_for PassesOwn.never rfl (kpi_list K (pv 2)) (pg_name (i := 5) sc_Machine_init.nd rfl (Or.inl rfl)) (pss_one (ps_set (i := 4) sc_Machine_init.nd rfl (Or.inl rfl) (pe_and (pv 4) (pe_one (pe_call G_is_row (hr.mono (by omega)) rfl T.g_is_row T.F_is_row.kp T.b_is_row .nil pass0 (pa_cons (pv 5) (pa_cons (pe_callB (kc_len K) (by rfl) T.z_len bt_len (pa_cons (pv 2) pa_nil)) (pa_cons pe_bl pa_nil)))))))))
    (pss_cons (ps_for PassesOwn.never rfl (kpi_list K (pv 3)) (pg_name (i := 6) sc_Machine_init.nd rfl (Or.inl rfl)) (pss_one (ps_set (i := 4) sc_Machine_init.nd rfl (Or.inl rfl) (pe_and (pv 4) (pe_one (pe_chain op_le op_le pe_int (pv 6) (pe_gint (by rfl) h_MOST_PRIORITY)))))))
    (pss_cons (ps_if (pt_not (pt_val (pv 4))) (pss_one ps_never) pss_nil)
    (pss_cons (ps_fld (pv 0) (pv 1) rfl)
    (pss_cons (ps_fld (pv 0) (pe_callTy (kc_tuple K) (by rfl) T.z_tuple bt_tuple (pa_cons (pv 2) pa_nil)) rfl)
    (pss_one (ps_fld (pv 0) (pe_callTy (kc_tuple K) (by rfl) T.z_tuple bt_tuple (pa_cons (pv 3) pa_nil)) rfl)))))))), ?_⟩
      have n1 := mok.n1
      have n4 := mok.n4
      have pl := mok.pl
      have st := mok.st
      have hlen := Paired.length hfa
      walk_at "go"
      refine g_len (.inl (SqL.of hl)) ?_
      walk_at "go"
      rw [List.length_map, ← hlen, show decide ((1 : Int) ≤ (M.rows.length : Nat)) = true from decide_eq_true (by omega)]
      refine iteT ?_
      walk_at "go"
      rw [show decide (((M.rows.length : Nat) : Int) ≤ 400) = true from decide_eq_true (by omega)]
      walk_at "go"
      refine iteT ?_
      walk_at "go"
      refine g_len (.inl (SqL.of hl)) ?_
      walk_at "go"
      have hm : H m = some (.lst (M.pr.map fun (x : Nat) => V.int x)) := hm
      refine g_len (.inl (SqL.of hm)) ?_
      walk_at "go"
      rw [List.length_map, List.length_map, ← hlen, pl, decide_eq_true (rfl : V.int (M.rows.length : Nat) = V.int (M.rows.length : Nat))]
      walk_at "go"
      refine iteT ?_
      walk_at "go"
      rw [show decide ((0 : Int) ≤ (M.start : Nat)) = true from decide_eq_true (by omega)]
      refine iteT ?_
      walk_at "go"
      refine g_len (.inl (SqL.of hl)) ?_
      walk_at "go"
      rw [List.length_map, ← hlen, show decide (((M.start : Nat) : Int) < (M.rows.length : Nat)) = true from decide_eq_true (by omega)]
      walk_at "go"
      refine g_rforL (SqL.of hl) (fun i σ' H' => ∃ v1 v2, σ' = [some (.ref x), some (.int (M.start : Nat)), some (.ref l), some (.ref m), some (.bl true), v1, v2] ∧ Same H H') ⟨none, none, rfl, Same.refl _⟩ (fun i _ H2 _ ⟨_, _, _, z⟩ => SqL.of (z _ _ hl)) ?_ ?_
      · rintro i y σ' H' hy ⟨v1, v2, rfl, s1⟩
        rw [List.getElem?_map] at hy
        obtain ⟨b, hb', rfl⟩ := Option.map_eq_some_iff.mp hy
        obtain ⟨q, hq, hqb⟩ := Pd.get hfa hb'
        have hqr := mok.rw_ q (List.mem_of_getElem? hq)
        walk_at "go"
        refine iteT ?_
        walk_at "go"
        refine g_len (.inl (SqL.of (s1 _ _ hl))) ?_
        walk_at "go"
        rw [List.length_map, ← hlen]
        refine ⟨b, q, _, false, rfl, hqb.mono s1, hqr.1, by omega, fun H2 s2 => ?_⟩
        walk_at "go"
        exact ⟨_, _, rfl, s1.trans s2⟩
      · rintro σ' H1 ⟨v1, v2, rfl, s1⟩
        walk_at "go"
        refine g_rforL (SqL.of (s1 _ _ hm)) (fun i σ' H' => ∃ v1 v2, σ' = [some (.ref x), some (.int (M.start : Nat)), some (.ref l), some (.ref m), some (.bl true), v1, v2] ∧ H' = H1) ⟨_, _, rfl, rfl⟩ (fun i _ H2 _ ⟨_, _, _, z⟩ => by subst z; exact SqL.of (s1 _ _ hm)) ?_ ?_
        · rintro i y σ' H' hy ⟨v1, v2, rfl, rfl⟩
          rw [List.getElem?_map] at hy
          obtain ⟨b, hb', rfl⟩ := Option.map_eq_some_iff.mp hy
          have hbp := mok.pb b (List.mem_of_getElem? hb')
          walk_at "go"
          refine iteT ?_
          walk_at "go"
          rw [show decide ((0 : Int) ≤ (b : Nat)) = true from decide_eq_true (by omega)]
          refine iteT ?_
          walk_at "go"
          rw [show decide (((b : Nat) : Int) ≤ 200) = true from decide_eq_true (by omega)]
          exact ⟨_, _, rfl, rfl⟩
        · rintro σ' H' ⟨v1, v2, rfl, rfl⟩
          walk_at "go"
          refine iteF ?_
          walk_at "go"
          refine g_rput (s1 _ _ hx) T.c_Machine T.n_Machine_start (by decide) ?_
          walk_at "go"
          have nlx : l ≠ x := ne_of hl hx (by intro z; cases z)
          have nmx : m ≠ x := ne_of hm hx (by intro z; cases z)
          refine g_tupL (by rw [upd_ne nlx]; exact s1 _ _ hl) fun u hu => ?_
          walk_at "go"
          have nux : u ≠ x := (ne_of_none upd_same hu).symm
          refine g_rput (by rw [upd_ne nux.symm]; exact upd_same) T.c_Machine T.n_Machine_rows (by show 1 < 1000; decide) ?_
          walk_at "go"
          refine g_tupL (by rw [upd_ne nmx]; exact same_new hu _ _ (by rw [upd_ne nmx]; exact s1 _ _ hm)) fun v hv => ?_
          walk_at "go"
          have nvx : v ≠ x := (ne_of_none upd_same hv).symm
          refine g_rput (by rw [upd_ne nvx.symm]; exact upd_same) T.c_Machine T.n_Machine_priorities (by show 2 < 1000; decide) ?_
          walk_at "go"
          have t1 : SameX x H (upd H' x (.ins (He.ga K "Machine") dx (putF "start" (.int (M.start : Nat)) []))) := (s1.x x).trans SameX.upd
          have t2 := t1.new (o := .tup (as.map V.ref)) hu
          have t3 := t2.trans (SameX.upd (p := x) (o := .ins (He.ga K "Machine") dx (putF "rows" (.ref u) (putF "start" (.int (M.start : Nat)) []))))
          have t4 := t3.new (o := .tup (M.pr.map fun (x : Nat) => V.int x)) hv
          have t5 := t4.trans (SameX.upd (p := x) (o := .ins (He.ga K "Machine") dx (putF "priorities" (.ref v) (putF "rows" (.ref u) (putF "start" (.int (M.start : Nat)) [])))))
          have hvu : v ≠ u := fun z => by
            subst z
            rw [upd_ne nux, upd_same] at hv
            cases hv
          refine k _ t5 ⟨mok, dx, u, v, as, ?_, ?_, ?_, ?_⟩
          · rw [upd_same]
            rfl
          · rw [upd_ne nux, upd_ne hvu.symm, upd_ne nux, upd_same]
          · exact hfa.monoT (SameX.t t5 hx)
          · rw [upd_ne nvx, upd_same]
    | true =>
      refine ⟨_, PSs.nox (pss_cons (ps_set (i := 4) sc_Machine_init.nd rfl (Or.inl rfl) (pe_and (pe_chain op_le op_le pe_int (pe_callB (kc_len K) (by rfl) T.z_len bt_len (pa_cons (pv 2) pa_nil)) (pe_gint (by rfl) h_MOST_STATES_machines)) (pe_and (pe_cmpR op_eq (pe_callB (kc_len K) (by rfl) T.z_len bt_len (pa_cons (pv 2) pa_nil)) (pe_callB (kc_len K) (by rfl) T.z_len bt_len (pa_cons (pv 3) pa_nil)) (nomark _)) (pe_one (pe_chain op_le op_lt pe_int (pv 1) (pe_callB (kc_len K) (by rfl) T.z_len bt_len (pa_cons (pv 2) pa_nil)))))))
    (pss_cons (ps_for PassesOwn.never rfl (kpi_list K (pv 2)) (pg_name (i := 5) sc_Machine_init.nd rfl (Or.inl rfl)) (pss_one (ps_set (i := 4) sc_Machine_init.nd rfl (Or.inl rfl) (pe_and (pv 4) (pe_one (pe_call G_is_row (hr.mono (by omega)) rfl T.g_is_row T.F_is_row.kp T.b_is_row .nil pass0 (pa_cons (pv 5) (pa_cons (pe_callB (kc_len K) (by rfl) T.z_len bt_len (pa_cons (pv 2) pa_nil)) (pa_cons pe_bl pa_nil)))))))))
    (pss_cons (ps_for PassesOwn.never rfl (kpi_tup K (pv 3)) (pg_name (i := 6) sc_Machine_init.nd rfl (Or.inl rfl)) (pss_one (ps_set (i := 4) sc_Machine_init.nd rfl (Or.inl rfl) (pe_and (pv 4) (pe_one (pe_chain op_le op_le pe_int (pv 6) (pe_gint (by rfl) h_MOST_PRIORITY)))))))
    (pss_cons (ps_if (pt_not (pt_val (pv 4))) (pss_one ps_never) pss_nil)
    (pss_cons (ps_fld (pv 0) (pv 1) rfl)
    (pss_cons (ps_fld (pv 0) (pe_callTy (kc_tuple K) (by rfl) T.z_tuple bt_tuple (pa_cons (pv 2) pa_nil)) rfl)
    (pss_one (ps_fld (pv 0) (pe_callTy (kc_tuple K) (by rfl) T.z_tuple bt_tuple (pa_cons (pv 3) pa_nil)) rfl)))))))), ?_⟩
      have n1 := mok.n1
      have n4 := mok.n4
      have pl := mok.pl
      have st := mok.st
      have hlen := Paired.length hfa
      walk_at "go"
      refine g_len (.inl (SqL.of hl)) ?_
      walk_at "go"
      rw [List.length_map, ← hlen, show decide ((1 : Int) ≤ (M.rows.length : Nat)) = true from decide_eq_true (by omega)]
      refine iteT ?_
      walk_at "go"
      rw [show decide (((M.rows.length : Nat) : Int) ≤ 400) = true from decide_eq_true (by omega)]
      walk_at "go"
      refine iteT ?_
      walk_at "go"
      refine g_len (.inl (SqL.of hl)) ?_
      walk_at "go"
      have hm : H m = some (.tup (M.pr.map fun (x : Nat) => V.int x)) := hm
      refine g_len (.inr (SqT.of hm)) ?_
      walk_at "go"
      rw [List.length_map, List.length_map, ← hlen, pl, decide_eq_true (rfl : V.int (M.rows.length : Nat) = V.int (M.rows.length : Nat))]
      walk_at "go"
      refine iteT ?_
      walk_at "go"
      rw [show decide ((0 : Int) ≤ (M.start : Nat)) = true from decide_eq_true (by omega)]
      refine iteT ?_
      walk_at "go"
      refine g_len (.inl (SqL.of hl)) ?_
      walk_at "go"
      rw [List.length_map, ← hlen, show decide (((M.start : Nat) : Int) < (M.rows.length : Nat)) = true from decide_eq_true (by omega)]
      walk_at "go"
      refine g_rforL (SqL.of hl) (fun i σ' H' => ∃ v1 v2, σ' = [some (.ref x), some (.int (M.start : Nat)), some (.ref l), some (.ref m), some (.bl true), v1, v2] ∧ Same H H') ⟨none, none, rfl, Same.refl _⟩ (fun i _ H2 _ ⟨_, _, _, z⟩ => SqL.of (z _ _ hl)) ?_ ?_
      · rintro i y σ' H' hy ⟨v1, v2, rfl, s1⟩
        rw [List.getElem?_map] at hy
        obtain ⟨b, hb', rfl⟩ := Option.map_eq_some_iff.mp hy
        obtain ⟨q, hq, hqb⟩ := Pd.get hfa hb'
        have hqr := mok.rw_ q (List.mem_of_getElem? hq)
        walk_at "go"
        refine iteT ?_
        walk_at "go"
        refine g_len (.inl (SqL.of (s1 _ _ hl))) ?_
        walk_at "go"
        rw [List.length_map, ← hlen]
        refine ⟨b, q, _, false, rfl, hqb.mono s1, hqr.1, by omega, fun H2 s2 => ?_⟩
        walk_at "go"
        exact ⟨_, _, rfl, s1.trans s2⟩
      · rintro σ' H1 ⟨v1, v2, rfl, s1⟩
        walk_at "go"
        refine g_rforT (SqT.of (s1 _ _ hm)) (fun i σ' H' => ∃ v1 v2, σ' = [some (.ref x), some (.int (M.start : Nat)), some (.ref l), some (.ref m), some (.bl true), v1, v2] ∧ H' = H1) ⟨_, _, rfl, rfl⟩ (fun i _ H2 _ ⟨_, _, _, z⟩ => by subst z; exact SqT.of (s1 _ _ hm)) ?_ ?_
        · rintro i y σ' H' hy ⟨v1, v2, rfl, rfl⟩
          rw [List.getElem?_map] at hy
          obtain ⟨b, hb', rfl⟩ := Option.map_eq_some_iff.mp hy
          have hbp := mok.pb b (List.mem_of_getElem? hb')
          walk_at "go"
          refine iteT ?_
          walk_at "go"
          rw [show decide ((0 : Int) ≤ (b : Nat)) = true from decide_eq_true (by omega)]
          refine iteT ?_
          walk_at "go"
          rw [show decide (((b : Nat) : Int) ≤ 200) = true from decide_eq_true (by omega)]
          exact ⟨_, _, rfl, rfl⟩
        · rintro σ' H' ⟨v1, v2, rfl, rfl⟩
          walk_at "go"
          refine iteF ?_
          walk_at "go"
          refine g_rput (s1 _ _ hx) T.c_Machine T.n_Machine_start (by decide) ?_
          walk_at "go"
          have nlx : l ≠ x := ne_of hl hx (by intro z; cases z)
          have nmx : m ≠ x := ne_of hm hx (by intro z; cases z)
          refine g_tupL (by rw [upd_ne nlx]; exact s1 _ _ hl) fun u hu => ?_
          walk_at "go"
          have nux : u ≠ x := (ne_of_none upd_same hu).symm
          refine g_rput (by rw [upd_ne nux.symm]; exact upd_same) T.c_Machine T.n_Machine_rows (by show 1 < 1000; decide) ?_
          walk_at "go"
          refine ⟨m, _, rfl, .inr ⟨SqT.of (by rw [upd_ne nmx]; exact same_new hu _ _ (by rw [upd_ne nmx]; exact s1 _ _ hm)), ?_⟩⟩
          walk_at "go"
          refine g_rput upd_same T.c_Machine T.n_Machine_priorities (by show 2 < 1000; decide) ?_
          walk_at "go"
          have t1 : SameX x H (upd H' x (.ins (He.ga K "Machine") dx (putF "start" (.int (M.start : Nat)) []))) := (s1.x x).trans SameX.upd
          have t2 := t1.new (o := .tup (as.map V.ref)) hu
          have t3 := t2.trans (SameX.upd (p := x) (o := .ins (He.ga K "Machine") dx (putF "rows" (.ref u) (putF "start" (.int (M.start : Nat)) []))))
          have t5 := t3.trans (SameX.upd (p := x) (o := .ins (He.ga K "Machine") dx (putF "priorities" (.ref m) (putF "rows" (.ref u) (putF "start" (.int (M.start : Nat)) [])))))
          refine k _ t5 ⟨mok, dx, u, m, as, ?_, ?_, ?_, ?_⟩
          · rw [upd_same]
            rfl
          · rw [upd_ne nux, upd_ne nux, upd_same]
          · exact hfa.monoT (SameX.t t5 hx)
          · exact t5 _ _ nmx hm
end
end K22

set_option Elab.async false
set_option linter.all false
set_option maxRecDepth 100000
set_option maxHeartbeats 1000000
namespace K22
open PySem PySem.Spec PyProof.Rows L2
local macro_rules | `(tactic| walk_at "go1") => `(tactic| with_reducible first
  | refine g_seq ?_ | refine g_asg ?_ | refine g_name ?_ | refine g_c ?_ | refine g_op ?_ | refine g_cons ?_ | refine g_nil ?_ | refine g_cb ?_ | refine g_call ?_ | refine g_meth ?_
  | refine g_I0 ?_ | refine g_ret ?_ | refine g_retN ?_ | refine g_drop ?_ | refine g_if ?_ | refine g_test ?_ | refine g_tB ?_ | refine g_bool ?_
  | refine g_not ?_ | refine g_and ?_ | refine g_or ?_ | refine g_yes ?_ | refine g_tup ?_ | refine g_lst ?_ | refine g_slice ?_ | refine g_part ?_ | refine g_nopart ?_ | refine g_int ?_ | refine g_fld ?_ | refine g_dget ?_
  | refine g_din ?_ | refine g_dnotin ?_ | refine g_bm0 ?_ | refine g_bm ?_ | refine g_ifexp ?_ | refine g_andv ?_ | refine g_orv ?_ | refine g_notv ?_ | refine g_chain ?_ | refine g_U ?_ | refine g_next ?_ | refine g_brk ?_ | refine g_cont ?_
  | refine g_sfld ?_ | refine g_sdput ?_ | refine g_gtup ?_ | refine g_gcons ?_ | refine g_gnil ?_ | refine g_gsub ?_ | refine g_forT ?_ | refine g_forL ?_ | refine g_forR ?_ | refine g_lcT ?_ | refine g_lcL ?_ | refine g_lcR ?_ | refine g_un ?_ | refine g_sfa ?_ | refine g_ip ?_ | refine g_nin ?_ | refine g_nnot ?_ | refine g_nget ?_ | refine g_nput ?_ | refine g_ndisp ?_ | refine g_addI ?_ | refine g_subI ?_
  | (show Ends.nx _ _ _; refine g_nxm ?_) | (show Ends.rt _ _ _; refine g_rtm ?_) | (show Ends.bk _ _ _; refine g_bkm ?_) | (show Ends.ct _ _ _; refine g_ctm ?_))
local macro_rules | `(tactic| walk_at "go2") => `(tactic| first
  | ((with_reducible show tVar _ _ _ _); refine g_var rfl ?_)
  | ((with_reducible show rEq _ _ _ _); refine g_eq rfl ?_)
  | ((with_reducible show rNe _ _ _ _); refine g_ne rfl ?_)
  | ((with_reducible show tAug _ _ _ _ _ _); refine g_aug rfl ?_))
local macro_rules | `(tactic| walk_at "go") => `(tactic| repeat (first | walk_at "go1" | walk_at "go2"))
section
variable {P : Program} {w : World} {K : PySem.W.Frag} {mg : Str → Option Value} {base : Heap}
def rMk (C : Addr) (sp : Sp) (E : XK) (vs : List V) (H1 : Hp) (Q : VK) : Prop := ∀ x dx, H1 x = none → H1 dx = none → dx ≠ x → sp (.ref x :: vs) (upd (upd H1 dx (.own x)) x (.ins C dx [])) (fun v H2 => v = .non ∧ Q (.ref x) H2) E
theorem g_make {σ : L2.St} {H : Hp} {Q : VK} {C : Addr} {sp : Sp} {E : XK} {t : TA} (q : t σ H fun vs H1 => rMk C sp E vs H1 Q) : tMake C sp [] E t σ H Q := by
  show t σ H fun vs H1 => ∀ x dx, H1 x = none → H1 dx = none → dx ≠ x → sp (.ref x :: (vs ++ [])) (upd (upd H1 dx (.own x)) x (.ins C dx [])) (fun v H2 => v = .non ∧ Q (.ref x) H2) E
  simp only [List.append_nil]
  exact q
def F.shf : F → Int → F
  | .const b, _ => .const b
  | .fact b p, _ => .fact b p
  | .var x, s => .var (x + s)
  | .bin b f g, s => .bin b (f.shf s) (g.shf s)
  | .mod b l f, s => .mod b l (f.shf s)
  | .fix b x f, s => .fix b x (f.shf s)
theorem shf_its {f : F} (s : Int) (h : f.isVar = false) : (f.shf s).its = f.its.map (mapIt fun g => g.shf s) := by cases f <;> first | rfl | cases h
theorem shf_kind (f : F) (s : Int) : (f.shf s).kind = f.kind := by cases f <;> rfl
def spMoved (n : Nat) : Sp := fun vs H Q _ => ∃ (a : Addr) (f : F) (s : Int), vs = [.ref a, .int s] ∧ FA H f a ∧ f.ht < n ∧ ∀ p H', Same H H' → FA H' (f.shf s) p → Q (.ref p) H'
-- slots of moved_row: 0:row 1:shift 2:found 3:part
abbrev n_moved_row : List Str := ["row", "shift", "found", "part"]
theorem sc_moved_row : FnScope n_moved_row p_moved_row (defScope s_moved_row) := ⟨rfl, rfl, rfl, by decide +kernel, rfl, by decide +kernel, by decide +kernel⟩
theorem ok_moved_row (T : Top w K mg) (n : Nat) : Ok P w K mg base n a_moved_row p_moved_row (spMoved n) := by
  induction n with
  | zero => exact ok_none fun vs H Q E ⟨a, f, _, _, _, h, _⟩ => absurd h (Nat.not_lt_zero _)
  | succ n G_moved_row =>
    refine T.F_moved_row.ok sc_moved_row (fun vs H Q E h => ?_) (fun cdv A outer s H vs Q E hr h => ?_)
    · obtain ⟨a, f, s, rfl, _⟩ := h
      rfl
    · obtain ⟨a, f, sh, rfl, hf, hn, k⟩ := h
      refine ⟨_, PSs.nox (pss_cons (ps_if (pt_cmpR op_eq (pe_ix (ki_tup K) (pv 0) pe_int (fun _ _ => rfl)) pe_str (nomark _)) (pss_one (ps_ret (pe_tup (pa_cons pe_str (pa_cons (pe_op op_add (pe_ix (ki_tup K) (pv 0) pe_int (fun _ _ => rfl)) (pv 1)) pa_nil))))) pss_nil)
    (pss_cons (ps_set (i := 2) sc_moved_row.nd rfl (Or.inl rfl) (pe_lst (pa_cons (pe_ix (ki_tup K) (pv 0) pe_int (fun _ _ => rfl)) pa_nil)))
    (pss_cons (ps_for PassesOwn.never rfl (kpi_tup K (pe_slice (ks_tup K) (pv 0) (po_some pe_int) po_none)) (pg_name (i := 3) sc_moved_row.nd rfl (Or.inl rfl)) (pss_one (ps_if (pt_val (pe_callB (kc_isi K) (by rfl) T.z_isinstance bt_isinstance (pa_cons (pv 3) (pa_cons (pe_tyn (by rfl) T.z_tuple bt_tuple) pa_nil)))) (pss_one (ps_expr (kpe_app K (pv 2) (pe_call G_moved_row (hr.mono (by omega)) rfl T.g_moved_row T.F_moved_row.kp T.b_moved_row .nil pass0 (pa_cons (pv 3) (pa_cons (pv 1) pa_nil)))))) (pss_one (ps_expr (kpe_app K (pv 2) (pv 3)))))))
    (pss_one (ps_ret (pe_callTy (kc_tuple K) (by rfl) T.z_tuple bt_tuple (pa_cons (pv 2) pa_nil))))))), ?_⟩
      obtain ⟨ys, e, hi⟩ := hf.tup
      walk_at "go"
      refine g_ixT (SqT.of e) at0 ?_
      walk_at "go"
      refine iteB (k_var f) (fun hv => ?_) (fun hv => ?_)
      · cases f <;> cases hv
        rename_i y
        have e : H a = some (.tup [.str "var", .int y]) := hf
        walk_at "go"
        refine g_ixT (SqT.of e) at1 ?_
        walk_at "go"
        refine g_newT 2 rfl (by decide) fun p hp => ?_
        walk_at "go"
        exact k p _ (same_new hp) upd_same
      walk_at "go"
      refine g_ixT (SqT.of e) at0 ?_
      walk_at "go"
      refine g_newL 1 rfl (by decide) fun l hl => ?_
      walk_at "go"
      have s1 := same_new (o := .lst [.str f.kind]) hl
      refine slice1 (s1 _ _ e) fun p hp => ?_
      have npl : p ≠ l := (ne_of_none upd_same hp).symm
      have nl : l ≠ p := npl.symm
      refine g_rforT (SqT.of upd_same) (fun i σ' H2 => ∃ zs v, σ' = [some (.ref a), some (.int sh), some (.ref l), v] ∧ Same H H2 ∧ H2 p = some (.tup ys) ∧ H2 l = some (.lst (.str f.kind :: zs)) ∧ Paired (ItV H2) ((f.its.take i).map (mapIt fun g => g.shf sh)) zs)
        ⟨[], none, rfl, (s1.new hp), upd_same, by rw [upd_ne nl]; exact upd_same, .nil⟩ (fun i _ H2 _ ⟨_, _, _, _, z, _⟩ => SqT.of z) ?_ ?_
      · rintro i y σ' H2 hy ⟨zs, v, rfl, s2, hp2, hl2, hz⟩
        obtain ⟨it, hit, hv⟩ := Pd.get (Its.mono s2 hi) hy
        have z0 := Paired.length hz
        have z1 := List.length_take_le' i f.its
        have z2 := its_len f
        rw [List.length_map] at z0
        walk_at "go"
        refine isi_item hv ?_
        walk_at "go"
        cases it with
        | n z =>
          refine iteF ?_
          walk_at "go"
          refine g_tyL (SqL.of hl2) ?_
          walk_at "go"
          refine g_app hl2 (lt_line (by rw [List.length_cons]; omega)) ?_
          refine ⟨zs ++ [y], _, rfl, s2.mut hl, by rw [upd_ne npl]; exact hp2, by rw [upd_same]; rfl, ?_⟩
          rw [take_snoc hit, List.map_append]
          exact Its.monoT (SameT.lst hl2) (Pd.snoc hv hz)
        | f g =>
          obtain ⟨u, rfl, hu⟩ := hv
          refine iteT ?_
          walk_at "go"
          refine g_tyL (SqL.of hl2) ?_
          walk_at "go"
          have := kid_ht (List.mem_of_getElem? hit)
          refine ⟨u, g, sh, rfl, hu, by omega, fun q H3 s3 hq => ?_⟩
          have hl3 := s3 _ _ hl2
          walk_at "go"
          refine g_app hl3 (lt_line (by rw [List.length_cons]; omega)) ?_
          refine ⟨zs ++ [.ref q], _, rfl, (s2.trans s3).mut hl, by rw [upd_ne npl]; exact s3 _ _ hp2, by rw [upd_same]; rfl, ?_⟩
          rw [take_snoc hit, List.map_append]
          exact Its.monoT (SameT.lst hl3) (Pd.snoc ⟨q, rfl, hq⟩ (Its.mono s3 hz))
      · rintro σ' H2 ⟨zs, v, rfl, s2, hp2, hl2, hz⟩
        rw [List.take_of_length_le (by rw [Paired.length hi]; exact Nat.le_refl _), ← shf_its sh hv] at hz
        walk_at "go"
        refine g_tupL hl2 fun q hq => ?_
        walk_at "go"
        exact k q _ (s2.new hq) (FA.of (ys := zs) (by rw [shf_kind]; exact upd_same) (Its.mono (same_new hq) hz))
/-! ### other_machine -/
def Mc.oth (M : Mc) : Mc := ⟨M.start, M.rows.map F.dual, M.pr.map (· + 1)⟩
theorem dual_ht : ∀ f : F, f.dual.ht = f.ht
  | .bin _ f g => by simp [F.dual, F.ht, dual_ht f, dual_ht g]
  | .mod _ _ f => by simp [F.dual, F.ht, dual_ht f]
  | .fix _ _ f => by simp [F.dual, F.ht, dual_ht f]
  | .const _ => rfl
  | .fact _ _ => rfl
  | .var _ => rfl
theorem dual_row : ∀ {f : F} {n : Nat} {i : Bool}, f.rowOk n i → f.dual.rowOk n i
  | .bin _ f g, _, _, h => ⟨dual_row h.1, dual_row h.2⟩
  | .mod _ _ f, n, _, h => dual_row (f := f) (i := true) h
  | .fix _ _ f, _, _, h => h.elim
  | .const _, _, _, _ => trivial
  | .fact _ _, _, _, _ => trivial
  | .var _, _, _, h => h
theorem Mc.Ok.oth {M : Mc} (h : M.Ok) (hp : ∀ p ∈ M.pr, p < 200) : M.oth.Ok := by
  refine ⟨?_, ?_, ?_, ?_, fun r hr => ?_, fun p hp' => ?_⟩
  · simp only [Mc.oth, List.length_map]
    exact h.n1
  · simp only [Mc.oth, List.length_map]
    exact h.n4
  · simp only [Mc.oth, List.length_map]
    exact h.pl
  · simp only [Mc.oth, List.length_map]
    exact h.st
  · simp only [Mc.oth, List.length_map]
    obtain ⟨r0, h0, rfl⟩ := List.mem_map.mp hr
    rw [dual_ht]
    exact ⟨dual_row (h.rw_ _ h0).1, (h.rw_ _ h0).2⟩
  · obtain ⟨p0, h0, rfl⟩ := List.mem_map.mp hp'
    exact hp _ h0
def spOther (K : PySem.W.Frag) : Sp := fun vs H Q _ => ∃ (a : Addr) (M : Mc), vs = [.ref a] ∧ MAt K H a M ∧ (∀ p ∈ M.pr, p < 200) ∧ ∀ b H', Same H H' → MAt K H' b M.oth → Q (.ref b) H'
-- slots of other_machine: 0:machine 1:rows 2:row 3:priority
abbrev n_other_machine : List Str := ["machine", "rows", "row", "priority"]
theorem sc_other_machine : FnScope n_other_machine p_other_machine (defScope s_other_machine) := ⟨rfl, rfl, rfl, by decide +kernel, rfl, by decide +kernel, by decide +kernel⟩
theorem ok_other_machine (T : Top w K mg) : Ok P w K mg base 10 a_other_machine p_other_machine (spOther K) := by
  have G_dual := ok_dual (P := P) (base := base) T 5
  have G_Machine_init := ok_Machine_init (P := P) (base := base) T
  obtain ⟨_, h_MOST_PRIORITY⟩ := T.i_MOST_PRIORITY
  refine T.F_other_machine.ok sc_other_machine (fun vs H Q E h => ?_) (fun cdv A outer s H vs Q E hr h => ?_)
  · obtain ⟨a, M, rfl, _⟩ := h
    rfl
  · obtain ⟨a, M, rfl, hM, h200, k⟩ := h
    refine ⟨_, PSs.nox (pss_cons (ps_if (pt_cmpR (ko_in K) (pe_gint (by rfl) h_MOST_PRIORITY) (kpe_fld K (pv 0)) (by rfl)) (pss_one ps_never) pss_nil)
    (pss_cons (ps_setLc (i := 1) (own := [("row", 2)]) (g := gName 2) (tt := tYes) rfl sc_other_machine.nd rfl rfl (sw_true rfl rfl rfl (by decide +kernel)) (kpi_tup K (kpe_fld K (pv 0))) (blkOk_by (N := n_other_machine) (sc := (defScope s_other_machine)) (by decide +kernel)) (fun _ _ _ _ _ => (pg_name (i := 2) sc_other_machine.nd rfl (Or.inl rfl))) (fun _ _ _ _ _ => pts_nil) (fun _ _ _ _ _ => (pe_call G_dual (hr.mono (by omega)) rfl T.g_dual T.F_dual.kp T.b_dual .nil pass0 (pa_cons (pv 2) pa_nil))))
    (pss_one (ps_ret (pe_make T.m_Machine (G_Machine_init) (hr.mono (by omega)) (by rfl) T.g_Machine T.b_Machine_init .nil pass0 (pa_cons (kpe_fld K (pv 0)) (pa_cons (pv 1) (pa_cons (pe_lc (own := [("priority", 3)]) (g := gName 3) (tt := tYes) rfl sc_other_machine.nd (kpi_tup K (kpe_fld K (pv 0))) (blkOk_by (N := n_other_machine) (sc := (defScope s_other_machine)) (by decide +kernel)) (fun _ _ _ _ _ => (pg_name (i := 3) sc_other_machine.nd rfl (Or.inl rfl))) (fun _ _ _ _ _ => pts_nil) (fun _ _ _ _ _ => (pe_op op_add (pv 3) pe_int))) pa_nil)))))))), ?_⟩
    obtain ⟨mok, dx, ps, pt, as, e1, e2, e3, e4⟩ := id hM
    have n4 := mok.n4
    have pl := mok.pl
    have hlen := Paired.length e3
    walk_at "go"
    refine g_rfld e1 T.c_Machine T.n_Machine_priorities rfl ?_
    walk_at "go"
    refine g_inT (SqT.of e4) rfl (by rw [show (M.pr.map fun (x : Nat) => V.int x) = (M.pr.map fun (x : Nat) => (x : Int)).map V.int by rw [List.map_map]; rfl]; exact flat_ints _) ?_
    walk_at "go"
    rw [show (M.pr.map fun (x : Nat) => V.int x) = (M.pr.map fun (x : Nat) => (x : Int)).map V.int by rw [List.map_map]; rfl, inV_int, show decide ((200 : Int) ∈ M.pr.map fun (x : Nat) => (x : Int)) = false from decide_eq_false fun h => by
      obtain ⟨x, hx, e⟩ := List.mem_map.mp h
      have := h200 x hx
      omega]
    refine iteF ?_
    walk_at "go"
    refine g_rfld e1 T.c_Machine T.n_Machine_rows rfl ?_
    walk_at "go"
    refine g_rlcT (SqT.of e2) fun E hE => ⟨fun i H' => ∃ us : List Addr, Same H H' ∧ H' E = some (.lst (us.map V.ref)) ∧ FAs H' ((M.rows.take i).map F.dual) us, ⟨[], same_new hE, upd_same, .nil⟩, fun i H' hi ⟨us, s0, _, e⟩ => SqT.of (s0 _ _ e2), fun i y H' hy ⟨us, s0, hE0, e⟩ => ?_, fun H1 ⟨us, s1, hE1, e⟩ => ?_⟩
    · rw [List.getElem?_map] at hy
      obtain ⟨b, hb', rfl⟩ := Option.map_eq_some_iff.mp hy
      obtain ⟨q, hq, hqb⟩ := Pd.get e3 hb'
      have hqr := mok.rw_ q (List.mem_of_getElem? hq)
      refine g_turn rfl ?_
      walk_at "go"
      refine iteT ?_
      walk_at "go"
      refine ⟨b, q, rfl, hqb.mono s0, by omega, fun u H2 s2 hu => ?_⟩
      have hul : us.length ≤ 400 := by
        rw [← Paired.length e, List.length_map, List.length_take]
        omega
      walk_at "go"
      refine g_add (s2 _ _ hE0) (lt_line (by rw [List.length_map]; omega)) ?_
      refine ⟨us ++ [u], (s0.trans s2).mut hE, by rw [upd_same, List.map_append]; rfl, ?_⟩
      rw [take_snoc hq, List.map_append]
      exact FAs.monoT (SameT.lst (s2 _ _ hE0)) (Pd.snoc hu (e.mono s2))
    · rw [List.take_of_length_le (by rw [List.length_map, ← hlen]; exact Nat.le_refl _)] at e
      walk_at "go"
      refine g_make ?_
      walk_at "go"
      refine g_rfld (s1 _ _ e1) T.c_Machine T.n_Machine_start rfl ?_
      walk_at "go"
      refine g_rfld (s1 _ _ e1) T.c_Machine T.n_Machine_priorities rfl ?_
      walk_at "go"
      refine g_rlcT (SqT.of (s1 _ _ e4)) fun D hD => ⟨fun i H' => Same H1 H' ∧ H' D = some (.lst (((M.pr.take i).map (· + 1)).map fun (x : Nat) => V.int x)), ⟨same_new hD, upd_same⟩, fun i H' hi ⟨s0, _⟩ => SqT.of (s0 _ _ (s1 _ _ e4)), fun i y H' hy ⟨s0, hE0⟩ => ?_, fun H2 ⟨s2, hD2⟩ => ?_⟩
      · rw [List.getElem?_map] at hy
        obtain ⟨b, hb', rfl⟩ := Option.map_eq_some_iff.mp hy
        refine g_turn rfl ?_
        walk_at "go"
        refine iteT ?_
        walk_at "go"
        refine g_add hE0 (lt_line (by rw [List.length_map, List.length_map, List.length_take]; omega)) ?_
        refine ⟨s0.mut hD, ?_⟩
        rw [upd_same, take_snoc hb', List.map_append, List.map_append]
        rfl
      · rw [List.take_of_length_le (by rw [List.length_map]; exact Nat.le_refl _)] at hD2
        walk_at "go"
        intro x dxx nx ndx nex
        have sm := same_make (C := He.ga K "Machine") nx ndx
        have s2m := s2.trans sm
        refine ⟨x, dxx, E, D, us, M.oth, false, rfl, upd_same, mok.oth h200, s2m _ _ hE1, e.mono s2m, sm _ _ hD2, fun H3 s3 hM3 => ⟨rfl, ?_⟩⟩
        exact k x H3 (s3.new_of ((s1.trans s2).free nx) ((s1.trans s2).trans sm)) hM3
/-! ### joined_machine -/
theorem shf_ht (s : Int) : ∀ f : F, (f.shf s).ht = f.ht
  | .bin _ f g => by simp [F.shf, F.ht, shf_ht s f, shf_ht s g]
  | .mod _ _ f => by simp [F.shf, F.ht, shf_ht s f]
  | .fix _ _ f => by simp [F.shf, F.ht, shf_ht s f]
  | .const _ => rfl
  | .fact _ _ => rfl
  | .var _ => rfl
theorem shf_row {s : Int} {n m : Nat} (h0 : 0 ≤ s) (h : s + n ≤ m) : ∀ {f : F} {i : Bool}, f.rowOk n i → (f.shf s).rowOk m i
  | .bin _ f g, _, h => ⟨shf_row h0 ‹_› h.1, shf_row h0 ‹_› h.2⟩
  | .mod _ _ f, _, h => shf_row (f := f) (i := true) h0 ‹_› h
  | .fix _ _ f, _, h => h.elim
  | .const _, _, _ => trivial
  | .fact _ _, _, _ => trivial
  | .var x, _, h => ⟨h.1, by have := h.2.1; omega, by have := h.2.2; omega⟩
def Mc.join (b : Bool) (M N : Mc) : Mc := ⟨0, .bin b ((M.rows.getD M.start (.const true)).shf 1) ((N.rows.getD N.start (.const true)).shf (1 + M.rows.length : Nat)) :: (M.rows.map (fun r => r.shf 1) ++ N.rows.map fun r => r.shf (1 + M.rows.length : Nat)), 0 :: (M.pr ++ N.pr)⟩
theorem getD_mem {α : Type} {l : List α} {i : Nat} {d : α} (h : i < l.length) : l.getD i d ∈ l := by
  rw [List.getD_eq_getElem?_getD, List.getElem?_eq_getElem h]
  exact List.getElem_mem h
theorem Mc.Ok.join {b : Bool} {M N : Mc} (h : M.Ok) (h' : N.Ok) (hl : M.rows.length + N.rows.length ≤ 399) (t1 : ∀ r ∈ M.rows, r.ht ≤ 3) (t2 : ∀ r ∈ N.rows, r.ht ≤ 3) : (M.join b N).Ok := by
  have l : (M.join b N).rows.length = 1 + M.rows.length + N.rows.length := by
    simp only [Mc.join, List.length_cons, List.length_append, List.length_map]
    omega
  have n1 := h.pl
  have n2 := h'.pl
  refine ⟨by omega, by omega, ?_, by show 0 < _; omega, fun r hr => ?_, fun p hp => ?_⟩
  · rw [l]
    simp only [Mc.join, List.length_cons, List.length_append]
    omega
  · rw [l]
    have r1 : ∀ r ∈ M.rows, (r.shf 1).rowOk (1 + M.rows.length + N.rows.length) false := fun r hr => shf_row (n := M.rows.length) (by decide) (by omega) (h.rw_ r hr).1
    have r2 : ∀ r ∈ N.rows, (r.shf (1 + M.rows.length : Nat)).rowOk (1 + M.rows.length + N.rows.length) false := fun r hr => shf_row (n := N.rows.length) (by omega) (by omega) (h'.rw_ r hr).1
    rcases List.mem_cons.mp hr with rfl | hr
    · refine ⟨⟨r1 _ (getD_mem h.st), r2 _ (getD_mem h'.st)⟩, ?_⟩
      simp only [F.ht, shf_ht]
      have := t1 _ (getD_mem (d := .const true) h.st)
      have := t2 _ (getD_mem (d := .const true) h'.st)
      omega
    · rcases List.mem_append.mp hr with hr | hr
      · obtain ⟨r0, h0, rfl⟩ := List.mem_map.mp hr
        rw [shf_ht]
        exact ⟨r1 _ h0, (h.rw_ _ h0).2⟩
      · obtain ⟨r0, h0, rfl⟩ := List.mem_map.mp hr
        rw [shf_ht]
        exact ⟨r2 _ h0, (h'.rw_ _ h0).2⟩
  · rcases List.mem_cons.mp hp with rfl | hp
    · exact Nat.zero_le _
    · rcases List.mem_append.mp hp with hp | hp
      · exact h.pb _ hp
      · exact h'.pb _ hp
def spJoin (K : PySem.W.Frag) : Sp := fun vs H Q _ => ∃ (b : Bool) (a1 a2 : Addr) (M N : Mc), vs = [.str (kB b), .ref a1, .ref a2] ∧ MAt K H a1 M ∧ MAt K H a2 N ∧ M.rows.length + N.rows.length ≤ 399 ∧ (∀ r ∈ M.rows, r.ht ≤ 3) ∧ (∀ r ∈ N.rows, r.ht ≤ 3) ∧ ∀ a H', Same H H' → MAt K H' a (M.join b N) → Q (.ref a) H'
-- slots of joined_machine: 0:kind 1:first 2:second 3:shift* 4:rows 5:row 6:start
abbrev n_joined_machine : List Str := ["kind", "first", "second", "shift", "rows", "row", "start"]
theorem sc_joined_machine : FnScope n_joined_machine p_joined_machine (defScope s_joined_machine) := ⟨rfl, rfl, rfl, by decide +kernel, rfl, by decide +kernel, by decide +kernel⟩
theorem ok_joined_machine (T : Top w K mg) : Ok P w K mg base 10 a_joined_machine p_joined_machine (spJoin K) := by
  have G_moved_row := ok_moved_row (P := P) (base := base) T 5
  have G_Machine_init := ok_Machine_init (P := P) (base := base) T
  obtain ⟨_, h_MOST_STATES_machines⟩ := T.i_MOST_STATES_machines
  refine T.F_joined_machine.ok sc_joined_machine (fun vs H Q E h => ?_) (fun cdv A outer s H vs Q E hr h => ?_)
  · obtain ⟨b, a1, a2, M, N, rfl, _⟩ := h
    rfl
  · obtain ⟨b, a1, a2, M, N, rfl, hM, hN, h399, t1, t2, k⟩ := h
    refine ⟨_, PSs.nox (pss_cons (ps_if (pt_cmpR op_gt (pe_op op_add (pe_callB (kc_len K) (by rfl) T.z_len bt_len (pa_cons (kpe_fld K (pv 1)) pa_nil)) (pe_callB (kc_len K) (by rfl) T.z_len bt_len (pa_cons (kpe_fld K (pv 2)) pa_nil))) (pe_op op_sub (pe_gint (by rfl) h_MOST_STATES_machines) pe_int) (nomark _)) (pss_one ps_never) pss_nil)
    (pss_cons (ps_set (i := 3) sc_joined_machine.nd rfl (Or.inr rfl) (pe_op op_add pe_int (pe_callB (kc_len K) (by rfl) T.z_len bt_len (pa_cons (kpe_fld K (pv 1)) pa_nil))))
    (pss_cons (ps_setLc (i := 4) (own := [("row", 5)]) (g := gName 5) (tt := tYes) rfl sc_joined_machine.nd rfl rfl (sw_true rfl rfl rfl (by decide +kernel)) (kpi_tup K (kpe_fld K (pv 1))) (blkOk_by (N := n_joined_machine) (sc := (defScope s_joined_machine)) (by decide +kernel)) (fun _ _ _ _ _ => (pg_name (i := 5) sc_joined_machine.nd rfl (Or.inl rfl))) (fun _ _ _ _ _ => pts_nil) (fun _ _ _ _ _ => (pe_call G_moved_row (hr.mono (by omega)) rfl T.g_moved_row T.F_moved_row.kp T.b_moved_row .nil pass0 (pa_cons (pv 5) (pa_cons pe_int pa_nil)))))
    (pss_cons (ps_expr (pe_bm PySem.F.plainAttrs_list PySem.F.slot_list_extend PySem.F.type_list_extend mt_extend (pv 4) (pa_cons (pe_lc (own := [("row", 5)]) (g := gName 5) (tt := tYes) rfl sc_joined_machine.nd (kpi_tup K (kpe_fld K (pv 2))) (blkOk_by (N := n_joined_machine) (sc := (defScope s_joined_machine)) (by decide +kernel)) (fun _ _ _ _ _ => (pg_name (i := 5) sc_joined_machine.nd rfl (Or.inl rfl))) (fun _ _ _ _ _ => pts_nil) (fun _ _ _ _ _ => (pe_call G_moved_row (hr.mono (by omega)) rfl T.g_moved_row T.F_moved_row.kp T.b_moved_row .nil pass0 (pa_cons (pv 5) (pa_cons (pv 3) pa_nil))))) pa_nil)))
    (pss_cons (ps_set (i := 6) sc_joined_machine.nd rfl (Or.inl rfl) (pe_tup (pa_cons (pv 0) (pa_cons (pe_call G_moved_row (hr.mono (by omega)) rfl T.g_moved_row T.F_moved_row.kp T.b_moved_row .nil pass0 (pa_cons (pe_ix (ki_tup K) (kpe_fld K (pv 1)) (kpe_fld K (pv 1)) (fun _ _ => rfl)) (pa_cons pe_int pa_nil))) (pa_cons (pe_call G_moved_row (hr.mono (by omega)) rfl T.g_moved_row T.F_moved_row.kp T.b_moved_row .nil pass0 (pa_cons (pe_ix (ki_tup K) (kpe_fld K (pv 2)) (kpe_fld K (pv 2)) (fun _ _ => rfl)) (pa_cons (pv 3) pa_nil))) pa_nil)))))
    (pss_one (ps_ret (pe_make T.m_Machine (G_Machine_init) (hr.mono (by omega)) (by rfl) T.g_Machine T.b_Machine_init .nil pass0 (pa_cons pe_int (pa_cons (pe_op op_cat (pe_lst (pa_cons (pv 6) pa_nil)) (pv 4)) (pa_cons (pe_op (ko_catA K) (pe_op (ko_catA K) (pe_tup (pa_cons pe_int pa_nil)) (kpe_fld K (pv 1))) (kpe_fld K (pv 2))) pa_nil))))))))))), ?_⟩
    obtain ⟨mok, dx, ps, pt, as, e1, e2, e3, e4⟩ := id hM
    obtain ⟨nok, dx', ps', pt', as', e1', e2', e3', e4'⟩ := id hN
    have pl := mok.pl
    have pl' := nok.pl
    have n1 := mok.n1
    have n1' := nok.n1
    have hlen := Paired.length e3
    have hlen' := Paired.length e3'
    walk_at "go"
    refine g_rfld e1 T.c_Machine T.n_Machine_rows rfl ?_
    walk_at "go"
    refine g_len (.inr (SqT.of e2)) ?_
    walk_at "go"
    refine g_rfld e1' T.c_Machine T.n_Machine_rows rfl ?_
    walk_at "go"
    refine g_len (.inr (SqT.of e2')) ?_
    walk_at "go"
    rw [List.length_map, List.length_map, ← hlen, ← hlen', show decide (((M.rows.length : Nat) : Int) + (N.rows.length : Nat) > 400 - 1) = false from decide_eq_false (by omega)]
    refine iteF ?_
    walk_at "go"
    refine g_rfld e1 T.c_Machine T.n_Machine_rows rfl ?_
    walk_at "go"
    refine g_len (.inr (SqT.of e2)) ?_
    walk_at "go"
    rw [List.length_map, ← hlen, show ((1 : Int) + ((M.rows.length : Nat) : Int)) = ((1 + M.rows.length : Nat) : Int) by omega]
    refine g_rfld e1 T.c_Machine T.n_Machine_rows rfl ?_
    walk_at "go"
    refine g_rlcT (SqT.of e2) fun E hE => ⟨fun i H' => ∃ us : List Addr, Same H H' ∧ H' E = some (.lst (us.map V.ref)) ∧ FAs H' ((M.rows.take i).map fun r => r.shf 1) us, ⟨[], same_new hE, upd_same, .nil⟩, fun i H' hi ⟨us, s0, _, e⟩ => SqT.of (s0 _ _ e2), fun i y H' hy ⟨us, s0, hE0, e⟩ => ?_, fun H1 ⟨us, s1, hE1, e⟩ => ?_⟩
    · rw [List.getElem?_map] at hy
      obtain ⟨b, hb', rfl⟩ := Option.map_eq_some_iff.mp hy
      obtain ⟨q, hq, hqb⟩ := Pd.get e3 hb'
      have hqr := mok.rw_ q (List.mem_of_getElem? hq)
      refine g_turn rfl ?_
      walk_at "go"
      refine iteT ?_
      walk_at "go"
      refine ⟨b, q, 1, rfl, hqb.mono s0, by omega, fun u H2 s2 hu => ?_⟩
      have hul : us.length ≤ 400 := by
        rw [← Paired.length e, List.length_map, List.length_take]
        omega
      walk_at "go"
      refine g_add (s2 _ _ hE0) (lt_line (by rw [List.length_map]; omega)) ?_
      refine ⟨us ++ [u], (s0.trans s2).mut hE, by rw [upd_same, List.map_append]; rfl, ?_⟩
      rw [take_snoc hq, List.map_append]
      exact FAs.monoT (SameT.lst (s2 _ _ hE0)) (Pd.snoc hu (e.mono s2))
    rw [List.take_of_length_le (by rw [List.length_map, ← hlen]; exact Nat.le_refl _)] at e
    walk_at "go"
    refine g_tyL (SqL.of hE1) ?_
    walk_at "go"
    refine g_rfld (s1 _ _ e1') T.c_Machine T.n_Machine_rows rfl ?_
    walk_at "go"
    refine g_rlcT (SqT.of (s1 _ _ e2')) fun D hD => ⟨fun i H' => ∃ us : List Addr, Same H1 H' ∧ H' D = some (.lst (us.map V.ref)) ∧ FAs H' ((N.rows.take i).map fun r => r.shf (1 + M.rows.length : Nat)) us, ⟨[], same_new hD, upd_same, .nil⟩, fun i H' hi ⟨us, s0, _, e⟩ => SqT.of (s0 _ _ (s1 _ _ e2')), fun i y H' hy ⟨us, s0, hE0, e⟩ => ?_, fun H2 ⟨us2, s2, hD2, e'⟩ => ?_⟩
    · rw [List.getElem?_map] at hy
      obtain ⟨b, hb', rfl⟩ := Option.map_eq_some_iff.mp hy
      obtain ⟨q, hq, hqb⟩ := Pd.get e3' hb'
      have hqr := nok.rw_ q (List.mem_of_getElem? hq)
      refine g_turn rfl ?_
      walk_at "go"
      refine iteT ?_
      walk_at "go"
      refine ⟨b, q, _, rfl, (hqb.mono s1).mono s0, by omega, fun u H2 s2 hu => ?_⟩
      have hul : us.length ≤ 400 := by
        rw [← Paired.length e, List.length_map, List.length_take]
        omega
      walk_at "go"
      refine g_add (s2 _ _ hE0) (lt_line (by rw [List.length_map]; omega)) ?_
      refine ⟨us ++ [u], (s0.trans s2).mut hD, by rw [upd_same, List.map_append]; rfl, ?_⟩
      rw [take_snoc hq, List.map_append]
      exact FAs.monoT (SameT.lst (s2 _ _ hE0)) (Pd.snoc hu (e.mono s2))
    rw [List.take_of_length_le (by rw [List.length_map, ← hlen']; exact Nat.le_refl _)] at e'
    have hEz : H E = none := hE
    walk_at "go"
    have l1 := Paired.length e
    have l2 := Paired.length e'
    rw [List.length_map] at l1 l2
    refine ⟨E, D, _, _, rfl, rfl, s2 _ _ hE1, hD2, le_line (by rw [List.length_map, List.length_map]; omega), ?_⟩
    walk_at "go"
    have s12 := s1.trans s2
    have s3 : Same H (upd H2 E (.lst (us.map V.ref ++ us2.map V.ref))) := s12.mut hEz
    have f3 : SameT H2 (upd H2 E (.lst (us.map V.ref ++ us2.map V.ref))) := SameT.lst (s2 _ _ hE1)
    have hE3 : upd H2 E (.lst (us.map V.ref ++ us2.map V.ref)) E = some (.lst (us.map V.ref ++ us2.map V.ref)) := upd_same
    have g1 := (e.mono s2).monoT f3
    have g2 := e'.monoT f3
    generalize upd H2 E (.lst (us.map V.ref ++ us2.map V.ref)) = H3 at s3 hE3 g1 g2 ⊢
    obtain ⟨r1, hr1⟩ : ∃ r, M.rows[M.start]? = some r := ⟨_, List.getElem?_eq_getElem mok.st⟩
    obtain ⟨r2, hr2⟩ : ∃ r, N.rows[N.start]? = some r := ⟨_, List.getElem?_eq_getElem nok.st⟩
    obtain ⟨b1, hb1, hf1⟩ := Pd.get' e3 hr1
    obtain ⟨b2, hb2, hf2⟩ := Pd.get' e3' hr2
    have q1 := t1 r1 (List.mem_of_getElem? hr1)
    have q2 := t2 r2 (List.mem_of_getElem? hr2)
    refine g_rfld (s3 _ _ e1) T.c_Machine T.n_Machine_rows rfl ?_
    walk_at "go"
    refine g_rfld (s3 _ _ e1) T.c_Machine T.n_Machine_start rfl ?_
    walk_at "go"
    refine g_ixT (SqT.of (s3 _ _ e2)) (atI_nat (by rw [List.getElem?_map, hb1]; rfl)) ?_
    walk_at "go"
    refine ⟨b1, r1, 1, rfl, hf1.mono s3, by omega, fun u1 H4 s4 hu1 => ?_⟩
    have s34 := s3.trans s4
    walk_at "go"
    refine g_rfld (s34 _ _ e1') T.c_Machine T.n_Machine_rows rfl ?_
    walk_at "go"
    refine g_rfld (s34 _ _ e1') T.c_Machine T.n_Machine_start rfl ?_
    walk_at "go"
    refine g_ixT (SqT.of (s34 _ _ e2')) (atI_nat (by rw [List.getElem?_map, hb2]; rfl)) ?_
    walk_at "go"
    refine ⟨b2, r2, _, rfl, hf2.mono s34, by omega, fun u2 H5 s5 hu2 => ?_⟩
    have s35 := s34.trans s5
    walk_at "go"
    refine g_newT 3 rfl (by decide) fun st hst => ?_
    have s6 := same_new (o := .tup [.str (kB b), .ref u1, .ref u2]) hst
    have hst6 : FA (upd H5 st (.tup [.str (kB b), .ref u1, .ref u2])) (.bin b (r1.shf 1) (r2.shf (1 + M.rows.length : Nat))) st := ⟨u1, u2, upd_same, (hu1.mono s5).mono s6, hu2.mono s6⟩
    have s36 := s35.trans s6
    have v6 := (s4.trans s5).trans s6
    generalize upd H5 st (.tup [.str (kB b), .ref u1, .ref u2]) = H6 at hst6 s36 v6 ⊢
    walk_at "go"
    refine g_make ?_
    walk_at "go"
    refine g_newL 1 rfl (by decide) fun o ho => ?_
    have s7 := same_new (o := .lst [.ref st]) ho
    have ho7 : upd H6 o (.lst [.ref st]) o = some (.lst [.ref st]) := upd_same
    generalize upd H6 o (.lst [.ref st]) = H7 at s7 ho7 ⊢
    have v7 := v6.trans s7
    walk_at "go"
    refine ⟨o, E, _, _, rfl, rfl, ho7, v7 _ _ hE3, le_line (by rw [List.length_append, List.length_map, List.length_map]; show 1 + _ ≤ _; omega), fun q hq => ?_⟩
    have s8 := same_new (o := .lst ([.ref st] ++ (us.map V.ref ++ us2.map V.ref))) hq
    have hq8 : upd H7 q (.lst ([.ref st] ++ (us.map V.ref ++ us2.map V.ref))) q = some (.lst ((st :: (us ++ us2)).map V.ref)) := by rw [upd_same, List.map_cons, List.map_append]; rfl
    generalize upd H7 q (.lst ([.ref st] ++ (us.map V.ref ++ us2.map V.ref))) = H8 at s8 hq8 ⊢
    walk_at "go"
    refine g_newT 1 rfl (by decide) fun z hz => ?_
    have s9 := same_new (o := .tup [.int 0]) hz
    have hz9 : upd H8 z (.tup [.int 0]) z = some (.tup [.int 0]) := upd_same
    generalize upd H8 z (.tup [.int 0]) = H9 at s9 hz9 ⊢
    have s39 := ((s36.trans s7).trans s8).trans s9
    walk_at "go"
    refine g_rfld (s39 _ _ e1) T.c_Machine T.n_Machine_priorities rfl ?_
    walk_at "go"
    have nn1 : (M.pr.map fun (x : Nat) => V.int x) ≠ [] := fun h => by
      have := congrArg List.length h
      simp at this
      rw [this] at pl
      simp at pl
      omega
    have nn2 : (N.pr.map fun (x : Nat) => V.int x) ≠ [] := fun h => by
      have := congrArg List.length h
      simp at this
      rw [this] at pl'
      simp at pl'
      omega
    refine ⟨z, pt, _, _, rfl, rfl, SqT.of hz9, SqT.of (s39 _ _ e4), le_line (by rw [List.length_map]; show 1 + _ ≤ _; omega), fun h => (nomatch h), fun _ h => absurd h nn1, fun _ _ y hy => ?_⟩
    have s10 := same_new (o := .tup ([.int 0] ++ M.pr.map fun (x : Nat) => V.int x)) hy
    have hy10 : upd H9 y (.tup ([.int 0] ++ M.pr.map fun (x : Nat) => V.int x)) y = some (.tup ([.int 0] ++ M.pr.map fun (x : Nat) => V.int x)) := upd_same
    generalize upd H9 y (.tup ([.int 0] ++ M.pr.map fun (x : Nat) => V.int x)) = H10 at s10 hy10 ⊢
    have s310 := s39.trans s10
    walk_at "go"
    refine g_rfld (s310 _ _ e1') T.c_Machine T.n_Machine_priorities rfl ?_
    walk_at "go"
    refine ⟨y, pt', _, _, rfl, rfl, SqT.of hy10, SqT.of (s310 _ _ e4'), le_line (by rw [List.length_append, List.length_map, List.length_map]; show 1 + _ + _ ≤ _; omega), fun h => (nomatch h), fun _ h => absurd h nn2, fun _ _ t ht => ?_⟩
    have s11 := same_new (o := .tup ([.int 0] ++ (M.pr.map fun (x : Nat) => V.int x) ++ N.pr.map fun (x : Nat) => V.int x)) ht
    have ht11 : upd H10 t (.tup ([.int 0] ++ (M.pr.map fun (x : Nat) => V.int x) ++ N.pr.map fun (x : Nat) => V.int x)) t = some (.tup ((M.join b N).pr.map fun (x : Nat) => V.int x)) := by
      rw [upd_same]
      simp [Mc.join]
    generalize upd H10 t (.tup ([.int 0] ++ (M.pr.map fun (x : Nat) => V.int x) ++ N.pr.map fun (x : Nat) => V.int x)) = H11 at s11 ht11 ⊢
    walk_at "go"
    intro x dxx nx ndx nex
    have sm := same_make (C := He.ga K "Machine") nx ndx
    have w9 := ((s8.trans s9).trans s10).trans (s11.trans sm)
    have w6 : Same H6 _ := s7.trans w9
    have s0m : Same H _ := s310.trans s11
    have hrows : FAs (upd (upd H11 dxx (.own x)) x (.ins (He.ga K "Machine") dxx [])) (M.join b N).rows (st :: (us ++ us2)) := by
      have z1 : M.rows.getD M.start (.const true) = r1 := by rw [List.getD_eq_getElem?_getD, hr1]; rfl
      have z2 : N.rows.getD N.start (.const true) = r2 := by rw [List.getD_eq_getElem?_getD, hr2]; rfl
      simp only [Mc.join]
      rw [z1, z2]
      exact .cons (hst6.mono w6) (Pd.app (g1.mono (v6.trans w6)) (g2.mono (v6.trans w6)))
    refine ⟨x, dxx, q, t, st :: (us ++ us2), M.join b N, true, rfl, upd_same, mok.join nok h399 t1 t2, (((s9.trans s10).trans s11).trans sm) _ _ hq8, hrows, sm _ _ ht11, fun H12 s12 hM12 => ⟨rfl, ?_⟩⟩
    exact k x H12 (s12.new_of (s0m.free nx) (s0m.trans sm)) hM12
end
end K22

set_option Elab.async false
set_option linter.all false
set_option maxRecDepth 100000
set_option maxHeartbeats 1000000
namespace K22
open PySem PySem.Spec PyProof.Rows L2
local macro_rules | `(tactic| walk_at "go1") => `(tactic| with_reducible first
  | refine g_seq ?_ | refine g_asg ?_ | refine g_name ?_ | refine g_c ?_ | refine g_op ?_ | refine g_cons ?_ | refine g_nil ?_ | refine g_cb ?_ | refine g_call ?_ | refine g_meth ?_
  | refine g_I0 ?_ | refine g_ret ?_ | refine g_retN ?_ | refine g_drop ?_ | refine g_if ?_ | refine g_test ?_ | refine g_tB ?_ | refine g_bool ?_
  | refine g_not ?_ | refine g_and ?_ | refine g_or ?_ | refine g_yes ?_ | refine g_tup ?_ | refine g_lst ?_ | refine g_slice ?_ | refine g_part ?_ | refine g_nopart ?_ | refine g_int ?_ | refine g_fld ?_ | refine g_dget ?_
  | refine g_din ?_ | refine g_dnotin ?_ | refine g_bm0 ?_ | refine g_bm ?_ | refine g_ifexp ?_ | refine g_andv ?_ | refine g_orv ?_ | refine g_notv ?_ | refine g_chain ?_ | refine g_U ?_ | refine g_next ?_ | refine g_brk ?_ | refine g_cont ?_
  | refine g_sfld ?_ | refine g_sdput ?_ | refine g_gtup ?_ | refine g_gcons ?_ | refine g_gnil ?_ | refine g_gsub ?_ | refine g_forT ?_ | refine g_forL ?_ | refine g_forR ?_ | refine g_lcT ?_ | refine g_lcL ?_ | refine g_lcR ?_ | refine g_un ?_ | refine g_sfa ?_ | refine g_ip ?_ | refine g_nin ?_ | refine g_nnot ?_ | refine g_nget ?_ | refine g_nput ?_ | refine g_ndisp ?_ | refine g_addI ?_ | refine g_subI ?_
  | (show Ends.nx _ _ _; refine g_nxm ?_) | (show Ends.rt _ _ _; refine g_rtm ?_) | (show Ends.bk _ _ _; refine g_bkm ?_) | (show Ends.ct _ _ _; refine g_ctm ?_))
local macro_rules | `(tactic| walk_at "go2") => `(tactic| first
  | ((with_reducible show tVar _ _ _ _); refine g_var rfl ?_)
  | ((with_reducible show rEq _ _ _ _); refine g_eq rfl ?_)
  | ((with_reducible show rNe _ _ _ _); refine g_ne rfl ?_)
  | ((with_reducible show tAug _ _ _ _ _ _); refine g_aug rfl ?_))
local macro_rules | `(tactic| walk_at "go") => `(tactic| repeat (first | walk_at "go1" | walk_at "go2"))
section
variable {P : Program} {w : World} {K : PySem.W.Frag} {mg : Str → Option Value} {base : Heap}
/-! ### Builder -/
def bkey (st : St2) : NestedKey := .tup [st.1.key, .num st.2]
theorem bkey_inj : ∀ x y : St2, bkey x = bkey y → x = y := fun x y h => by
  unfold bkey at h
  injection h with h
  injection h with h1 h
  injection h with h2 h
  injection h2 with h2
  exact Prod.ext (key_inj h1) h2
theorem bkey_depth {st : St2} (h : st.1.ht ≤ 6) : (bkey st).depth ≤ 8 := by
  have e := key_depth st.1
  show max st.1.key.depth (max 0 0) + 1 ≤ 8
  omega
def BsA (H : Hp) (st : St2) (b : Addr) : Prop := ∃ u, H b = some (.tup [.ref u, .int st.2]) ∧ FA H st.1 u
theorem BsA.monoT {H H' : Hp} {st : St2} {b : Addr} (s : SameT H H') (h : BsA H st b) : BsA H' st b := let ⟨u, e, q⟩ := h; ⟨u, s _ _ e, q.monoT s⟩
theorem BsA.key {H : Hp} {st : St2} {b : Addr} (h : BsA H st b) : KeyV H (bkey st) (.ref b) := let ⟨u, e, q⟩ := h; ⟨b, _, rfl, e, _, _, rfl, q.keyV, _, _, rfl, rfl, rfl⟩
def bF (pp l d rl : Addr) : List (Str × V) := [("parts", .ref pp), ("states", .ref l), ("numbers", .ref d), ("rows", .ref rl)]
/-- a state that may be -/
def ZOk (f : F) (z : Int) : Prop := z = -1 ∨ ∃ b g, F.fix b z g ∈ f.clos
def BU (f : F) (st : St2) : Prop := st.1 ∈ f.clos ∧ ZOk f st.2
/-- a closure's binders: below 7 -/
def FixB (f : F) : Prop := ∀ b x g, F.fix b x g ∈ f.clos → 0 ≤ x ∧ x < 7
theorem ZOk.bd {f : F} {z : Int} (h : ZOk f z) (hb : FixB f) : -1 ≤ z ∧ z < 7 := by
  rcases h with rfl | ⟨b, g, h⟩
  · decide
  · have := hb b z g h
    omega
structure BAt (P : Program) (w : World) (K : PySem.W.Frag) (H : Hp) (x : Addr) (f : F) (pp l d rl : Addr) (sts : List St2) : Prop where
  at_ : ∃ dx, H x = some (.ins (He.ga K "Builder") dx (bF pp l d rl))
  bs : ∃ bs : List Addr, H l = some (.lst (bs.map V.ref)) ∧ Paired (BsA H) sts bs ∧ NDict P w H d (entI bkey sts bs 0)
  nd : sts.Nodup
  un : ∀ st ∈ sts, BU f st
def uni (f : F) : List St2 := f.clos.flatMap fun c => [(c, -1), (c, 0), (c, 1), (c, 2), (c, 3), (c, 4), (c, 5), (c, 6)]
theorem flat_len {α β : Type} (g : α → List β) (n : Nat) (h : ∀ x, (g x).length = n) : ∀ l : List α, (l.flatMap g).length = l.length * n
  | [] => by simp
  | x :: l => by
    rw [List.flatMap_cons, List.length_append, h, flat_len g n h l, List.length_cons, Nat.succ_mul]
    omega
theorem BU.uni {f : F} {st : St2} (h : BU f st) (hb : FixB f) : st ∈ uni f := by
  obtain ⟨c, z⟩ := st
  obtain ⟨h1, h23⟩ := h
  obtain ⟨h2, h3⟩ := h23.bd hb
  refine List.mem_flatMap.mpr ⟨c, h1, ?_⟩
  dsimp only at h2 h3
  have : z = -1 ∨ z = 0 ∨ z = 1 ∨ z = 2 ∨ z = 3 ∨ z = 4 ∨ z = 5 ∨ z = 6 := by omega
  rcases this with rfl | rfl | rfl | rfl | rfl | rfl | rfl | rfl <;> simp
theorem BAt.len {H : Hp} {x pp l d rl : Addr} {f : F} {sts : List St2} (B : BAt P w K H x f pp l d rl sts) (h3 : f.ht ≤ 3) (hb : FixB f) : sts.length ≤ 120 := by
  have h1 := nodup_le B.nd fun st hs => (B.un st hs).uni hb
  have h2 : (uni f).length = f.clos.length * 8 := flat_len _ 8 (fun _ => rfl) _
  have := clos_len h3
  omega
def SameB (l d : Addr) (H H' : Hp) : Prop := ∀ b o, b ≠ l → b ≠ d → H b = some o → H' b = some o
theorem SameB.trans {l d : Addr} {H H1 H2 : Hp} (a : SameB l d H H1) (b : SameB l d H1 H2) : SameB l d H H2 := fun c o h1 h2 e => b c o h1 h2 (a c o h1 h2 e)
theorem SameB.of {l d : Addr} {H H' : Hp} (s : Same H H') : SameB l d H H' := fun b o _ _ e => s b o e
theorem SameB.put {l d : Addr} {H : Hp} {o : HO} : SameB l d H (upd H d o) := fun b u _ n e => by rw [upd_ne n]; exact e
theorem SameB.putL {l d : Addr} {H : Hp} {o : HO} : SameB l d H (upd H l o) := fun b u n _ e => by rw [upd_ne n]; exact e
theorem BAt.t {H H' : Hp} {x pp l d rl : Addr} {f : F} {sts : List St2} (B : BAt P w K H x f pp l d rl sts) (s : SameB l d H H') : SameT H H' := fun b xs e => by
  obtain ⟨bs, h1, _, h2⟩ := B.bs
  exact s b _ (ne_of e h1 fun z => nomatch z) (ne_of e h2.at_ fun z => nomatch z) e
theorem BAt.mono {H H' : Hp} {x pp l d rl : Addr} {f : F} {sts : List St2} (B : BAt P w K H x f pp l d rl sts) (s : Same H H') : BAt P w K H' x f pp l d rl sts := by
  obtain ⟨⟨dx, h0⟩, ⟨bs, h1, h2, h3⟩, h4, h5⟩ := B
  exact ⟨⟨dx, s _ _ h0⟩, ⟨bs, s _ _ h1, Paired.mapP h2 fun _ _ z => z.monoT s.t, h3.mono s⟩, h4, h5⟩
def spNum (P : Program) (w : World) (K : PySem.W.Frag) : Sp := fun vs H Q _ => ∃ (x pp l d rl b : Addr) (f : F) (sts : List St2) (st : St2), vs = [.ref x, .ref b] ∧ BAt P w K H x f pp l d rl sts ∧ f.ht ≤ 3 ∧ FixB f ∧ BsA H st b ∧ BU f st ∧
  ∀ (i : Nat) H' sts', SameB l d H H' → BAt P w K H' x f pp l d rl sts' → sts <+: sts' → sts'[i]? = some st → Q (.int (i : Nat)) H'
-- slots of Builder.number: 0:self 1:state
abbrev n_Builder_number : List Str := ["self", "state"]
theorem sc_Builder_number : FnScope n_Builder_number p_Builder_number (defScope s_Builder_number) := ⟨rfl, rfl, rfl, by decide +kernel, rfl, by decide +kernel, by decide +kernel⟩
theorem ok_Builder_number (T : Top w K mg) : Ok P w K mg base 1 a_Builder_number p_Builder_number (spNum P w K) := by
  refine T.F_Builder_number.ok sc_Builder_number (fun vs H Q E h => ?_) (fun cdv A outer s H vs Q E hr h => ?_)
  · obtain ⟨x, pp, l, d, rl, b, f, sts, st, rfl, _⟩ := h
    rfl
  · obtain ⟨x, pp, l, d, rl, b, f, sts, st, rfl, B, h3, hfb, hb, hu', k⟩ := h
    have hu : (A.deeper (envOfC "Builder.number" (defScope s_Builder_number) s.heap.objs.size (He.fAd K a_Builder_number) cdv)).units + 64 < cLine := hr.units
    refine ⟨_, PSs.nox (pss_cons (ps_if (pt_cmp (pc_nnotin P w hu (pv 1) (kpe_fld K (pv 0)))) (pss_cons (ps_nput P w hu (kpe_fld K (pv 0)) (pv 1) (pe_callB (kc_len K) (by rfl) T.z_len bt_len (pa_cons (kpe_fld K (pv 0)) pa_nil)) rfl)
      (pss_one (ps_expr (kpe_app K (kpe_fld K (pv 0)) (pv 1))))) pss_nil)
    (pss_one (ps_ret (pe_nget P w hu (kpe_fld K (pv 0)) (pv 1) (fun _ _ => rfl))))), ?_⟩
    have hl120 := B.len h3 hfb
    obtain ⟨⟨dx, e0⟩, ⟨bs, e1, e2, e3⟩, nd, un⟩ := id B
    have hd6 : (bkey st).depth ≤ 8 := bkey_depth (clos_ht h3 _ hu'.1)
    have hlen := Paired.length e2
    walk_at "go"
    refine g_rfld e0 T.c_Builder T.n_Builder_numbers rfl ?_
    walk_at "go"
    refine g_rnn e3 hb.key hd6 ?_
    walk_at "go"
    by_cases hin : st ∈ sts
    · obtain ⟨j, hj, hv⟩ := entI_some bkey_inj 0 hlen hin
      rw [hv]
      refine iteF ?_
      walk_at "go"
      refine g_rfld e0 T.c_Builder T.n_Builder_numbers rfl ?_
      walk_at "go"
      refine g_rng e3 hb.key hd6 hv ?_
      rw [Nat.zero_add]
      exact k j H sts (fun _ _ _ _ e => e) B (List.prefix_refl _) hj
    · have hv := entI_none bkey_inj (bs := bs) 0 hin
      rw [hv]
      refine iteT ?_
      walk_at "go"
      refine g_rfld e0 T.c_Builder T.n_Builder_states rfl ?_
      walk_at "go"
      refine g_len (.inl (SqL.of e1)) ?_
      walk_at "go"
      refine g_rfld e0 T.c_Builder T.n_Builder_numbers rfl ?_
      walk_at "go"
      refine g_rnp e3 hb.key hd6 hv (lt_line (by rw [entI_len bkey 0 hlen]; omega)) ?_
      walk_at "go"
      rw [List.length_map, ← hlen]
      have ndd := e3.put (v := V.int (sts.length : Nat)) hb.key hd6
      have xd : x ≠ d := ne_of e0 e3.at_ fun z => nomatch z
      have xl : x ≠ l := ne_of e0 e1 fun z => nomatch z
      have ld : l ≠ d := ne_of e1 e3.at_ fun z => nomatch z
      refine g_rfld (by rw [upd_ne xd]; exact e0) T.c_Builder T.n_Builder_states rfl ?_
      walk_at "go"
      have e1' : upd H d (DNo P w d (entI bkey sts bs 0 ++ [(bkey st, b, V.int (sts.length : Nat))])) l = some (.lst (bs.map V.ref)) := by rw [upd_ne ld]; exact e1
      refine g_tyL (SqL.of e1') ?_
      walk_at "go"
      refine g_app e1' (lt_line (by rw [List.length_map, ← hlen]; omega)) ?_
      have T5 : SameT H (upd (upd H d (DNo P w d (entI bkey sts bs 0 ++ [(bkey st, b, V.int (sts.length : Nat))]))) l (.lst (bs.map V.ref ++ [V.ref b]))) := e3.t.trans (SameT.lst e1')
      have S5 : SameB l d H (upd (upd H d (DNo P w d (entI bkey sts bs 0 ++ [(bkey st, b, V.int (sts.length : Nat))]))) l (.lst (bs.map V.ref ++ [V.ref b]))) := SameB.put.trans SameB.putL
      have B5 : BAt P w K (upd (upd H d (DNo P w d (entI bkey sts bs 0 ++ [(bkey st, b, V.int (sts.length : Nat))]))) l (.lst (bs.map V.ref ++ [V.ref b]))) x f pp l d rl (sts ++ [st]) := by
        refine ⟨⟨dx, S5 _ _ xl xd e0⟩, ⟨bs ++ [b], by rw [upd_same, List.map_append]; rfl, Pd.snoc (hb.monoT T5) (Paired.mapP e2 fun _ _ z => z.monoT T5), ?_⟩, nodup_snoc nd hin, fun z hz => ?_⟩
        · have := entI_snoc bkey st b 0 hlen
          rw [Nat.zero_add] at this
          rw [this]
          exact ndd.monoS (SameT.lst e1') (upd_ne ld.symm)
        · rcases List.mem_append.mp hz with h | h
          · exact un z h
          · rw [List.mem_singleton.mp h]
            exact hu'
      have hb5 := hb.monoT T5
      generalize upd (upd H d (DNo P w d (entI bkey sts bs 0 ++ [(bkey st, b, V.int (sts.length : Nat))]))) l (.lst (bs.map V.ref ++ [V.ref b])) = H5 at S5 B5 hb5 ⊢
      obtain ⟨⟨dx', f0⟩, ⟨bs', f1, f2, f3⟩, nd', un'⟩ := id B5
      obtain ⟨j, hj, hv'⟩ := entI_some bkey_inj (k := st) 0 (Paired.length f2) (List.mem_append_right _ List.mem_cons_self)
      walk_at "go"
      refine g_rfld f0 T.c_Builder T.n_Builder_numbers rfl ?_
      walk_at "go"
      refine g_rng f3 hb5.key hd6 hv' ?_
      rw [Nat.zero_add]
      exact k j H5 _ S5 B5 (List.prefix_append _ _) hj
/-! ### row -/
theorem clos_nxt' {f : F} (h : f.Closed) {x y : F} (hx : x ∈ f.clos) (hy : y ∈ x.nxt) : y ∈ f.clos := clos_nxt h x hx y hy
def spRow (P : Program) (w : World) (K : PySem.W.Frag) (n : Nat) : Sp := fun vs H Q _ => ∃ (x pp l d rl a : Addr) (f : F) (sts : List St2) (g : F) (z : Int) (h : Nat), vs = [.ref x, .ref a, .int z] ∧ BAt P w K H x f pp l d rl sts ∧ f.Closed ∧ f.ht ≤ 3 ∧ FixB f ∧ FA H g a ∧ g ∈ f.clos ∧ g.Sk n h ∧ ZOk f z ∧
  ∀ (p : Addr) (r : F) H' sts', SameB l d H H' → BAt P w K H' x f pp l d rl sts' → sts <+: sts' → FA H' r p → RowR sts' n g z r → Q (.ref p) H'
theorem lst_bd {f : F} {z x : Int} {b : Bool} {g : F} (h1 : ZOk f z) (h2 : F.fix b x g ∈ f.clos) : ZOk f (lst z x) := by
  unfold lst
  split
  · exact .inr ⟨b, g, h2⟩
  · exact h1
-- slots of Builder.row: 0:self 1:part 2:least 3:kind
abbrev n_Builder_row : List Str := ["self", "part", "least", "kind"]
theorem sc_Builder_row : FnScope n_Builder_row p_Builder_row (defScope s_Builder_row) := ⟨rfl, rfl, rfl, by decide +kernel, rfl, by decide +kernel, by decide +kernel⟩
theorem ok_Builder_row (T : Top w K mg) (n : Nat) : Ok P w K mg base (n + 14) a_Builder_row p_Builder_row (spRow P w K n) := by
  induction n with
  | zero => exact ok_none fun vs H Q E ⟨_, _, _, _, _, _, _, _, _, _, _, _, _, _, _, _, _, _, h, _⟩ => h
  | succ n G_Builder_row =>
    have G_unfolded := ok_unfolded (P := P) (base := base) T
    have G_Builder_number := ok_Builder_number (P := P) (base := base) T
    refine T.F_Builder_row.ok sc_Builder_row (fun vs H Q E h => ?_) (fun cdv A outer s H vs Q E hr h => ?_)
    · obtain ⟨x, pp, l, d, rl, a, f, sts, g, z, h, rfl, _⟩ := h
      rfl
    · obtain ⟨x, pp, l, d, rl, a, f, sts, g, z, h, rfl, B, hc, h3, hfb, hg, hgc, hsk, hz, k⟩ := h
      refine ⟨_, PSs.nox (pss_cons (ps_set (i := 3) sc_Builder_row.nd rfl (Or.inl rfl) (pe_ix (ki_tup K) (pv 1) pe_int (fun _ _ => rfl)))
    (pss_cons (ps_if (pt_cmpR (ko_in K) (pv 3) (pe_gref (by rfl) T.g_BINDERS) (by rfl)) (pss_cons (ps_if (PW.pt (pw_or (pt_cmpR op_lt (pv 2) pe_int (nomark _)) (pw_or1 (pt_cmpR op_lt (pe_ix (ki_tup K) (pv 1) pe_int (fun _ _ => rfl)) (pv 2) (nomark _))))) (pss_one (ps_set (i := 2) sc_Builder_row.nd rfl (Or.inl rfl) (pe_ix (ki_tup K) (pv 1) pe_int (fun _ _ => rfl)))) pss_nil)
      (pss_one (ps_ret (pe_meth (pv 0) T.c_Builder T.t_Builder_row G_Builder_row (hr.mono (by omega)) T.b_Builder_row .nil pass0 (pa_cons (pe_call G_unfolded (hr.mono (by omega)) rfl T.g_unfolded T.F_unfolded.kp T.b_unfolded .nil pass0 (pa_cons (pv 1) pa_nil)) (pa_cons (pv 2) pa_nil)))))) pss_nil)
    (pss_cons (ps_if (pt_cmpR (ko_in K) (pv 3) (pe_tup (pa_cons pe_str (pa_cons pe_str pa_nil))) (by rfl)) (pss_one (ps_ret (pe_tup (pa_cons (pv 3) (pa_cons (pe_ix (ki_tup K) (pv 1) pe_int (fun _ _ => rfl)) (pa_cons (pe_tup (pa_cons pe_str (pa_cons (pe_meth (pv 0) T.c_Builder T.t_Builder_number G_Builder_number (hr.mono (by omega)) T.b_Builder_number .nil pass0 (pa_cons (pe_tup (pa_cons (pe_ix (ki_tup K) (pv 1) pe_int (fun _ _ => rfl)) (pa_cons (pv 2) pa_nil))) pa_nil)) pa_nil))) pa_nil)))))) pss_nil)
    (pss_cons (ps_if (pt_cmpR (ko_in K) (pv 3) (pe_tup (pa_cons pe_str (pa_cons pe_str pa_nil))) (by rfl)) (pss_one (ps_ret (pe_tup (pa_cons (pv 3) (pa_cons (pe_meth (pv 0) T.c_Builder T.t_Builder_row G_Builder_row (hr.mono (by omega)) T.b_Builder_row .nil pass0 (pa_cons (pe_ix (ki_tup K) (pv 1) pe_int (fun _ _ => rfl)) (pa_cons (pv 2) pa_nil))) (pa_cons (pe_meth (pv 0) T.c_Builder T.t_Builder_row G_Builder_row (hr.mono (by omega)) T.b_Builder_row .nil pass0 (pa_cons (pe_ix (ki_tup K) (pv 1) pe_int (fun _ _ => rfl)) (pa_cons (pv 2) pa_nil))) pa_nil)))))) pss_nil)
    (pss_one (ps_ret (pv 1))))))), ?_⟩
      have hht := clos_ht h3 _ hgc
      obtain ⟨⟨dx, e0⟩, _⟩ := id B
      obtain ⟨ys, e, hi⟩ := hg.tup
      walk_at "go"
      refine g_ixT (SqT.of e) at0 ?_
      walk_at "go"
      refine g_inT (T.binders _) rfl rfl ?_
      walk_at "go"
      refine iteB (k_fix g) (fun hx => ?_) (fun hx => ?_)
      · cases g <;> cases hx
        rename_i b v g
        obtain ⟨u, e', hgu⟩ := id hg
        have hnx : (F.fix b v g).unf ∈ f.clos := clos_nxt' hc hgc List.mem_cons_self
        have hsk' : (F.fix b v g).unf.Sk n h := hsk
        have hl := lst_bd hz hgc
        have fin : ∀ zz : Int, zz = lst z v → ∀ p H1, Same H H1 → FA H1 (F.fix b v g).unf p → spRow P w K n [.ref x, .ref p, .int zz] H1 Q E0 := fun zz hzz p H1 s1 hp =>
          ⟨x, pp, l, d, rl, p, f, sts, _, zz, h, rfl, B.mono s1, hc, h3, hfb, hp, hnx, hsk', by rw [hzz]; exact hl, fun q r H2 sts' s2 B2 pre hq hr => k q r H2 sts' ((SameB.of s1).trans s2) B2 pre hq (by rw [hzz] at hr; exact hr)⟩
        walk_at "go"
        by_cases h1 : z < 0
        · rw [decide_eq_true h1]
          refine iteT ?_
          refine iteT ?_
          walk_at "go"
          refine g_ixT (SqT.of e') at1 ?_
          walk_at "go"
          refine g_rm e0 rfl ?_
          walk_at "go"
          refine ⟨a, _, rfl, hg, rfl, by omega, fun p H1 s1 hp => ?_⟩
          walk_at "go"
          exact fin _ (by unfold lst; rw [if_pos (.inl h1)]) p H1 s1 hp
        · rw [decide_eq_false h1]
          refine iteF ?_
          walk_at "go"
          refine g_ixT (SqT.of e') at1 ?_
          walk_at "go"
          by_cases h2 : v < z
          · rw [decide_eq_true h2]
            refine iteT ?_
            walk_at "go"
            refine g_ixT (SqT.of e') at1 ?_
            walk_at "go"
            refine g_rm e0 rfl ?_
            walk_at "go"
            refine ⟨a, _, rfl, hg, rfl, by omega, fun p H1 s1 hp => ?_⟩
            walk_at "go"
            exact fin _ (by unfold lst; rw [if_pos (.inr h2)]) p H1 s1 hp
          · rw [decide_eq_false h2]
            refine iteF ?_
            walk_at "go"
            refine g_rm e0 rfl ?_
            walk_at "go"
            refine ⟨a, _, rfl, hg, rfl, by omega, fun p H1 s1 hp => ?_⟩
            walk_at "go"
            exact fin _ (by unfold lst; rw [if_neg fun q => q.elim h1 h2]) p H1 s1 hp
      · walk_at "go"
        refine g_newT 2 rfl (by decide) fun q1 hq1 => ?_
        have s1 := same_new (o := .tup [.str "some", .str "all"]) hq1
        refine g_inT (SqT.of upd_same) rfl rfl ?_
        generalize upd H q1 (.tup [.str "some", .str "all"]) = H1 at s1 ⊢
        walk_at "go"
        refine iteB (k_mod g) (fun hm => ?_) (fun hm => ?_)
        · cases g <;> cases hm
          rename_i b v g
          obtain ⟨u, e', hgu⟩ := id hg
          have hnx : g ∈ f.clos := clos_nxt' hc hgc List.mem_cons_self
          walk_at "go"
          refine g_ixT (SqT.of (s1 _ _ e')) at1 ?_
          walk_at "go"
          refine g_rm (s1 _ _ e0) rfl ?_
          walk_at "go"
          refine g_ixT (SqT.of (s1 _ _ e')) at2 ?_
          walk_at "go"
          refine g_newT 2 rfl (by decide) fun t ht => ?_
          have s2 := s1.trans (same_new (o := .tup [.ref u, .int z]) ht)
          walk_at "go"
          refine ⟨x, pp, l, d, rl, t, f, sts, (g, z), rfl, B.mono s2, h3, hfb, ⟨u, upd_same, hgu.mono s2⟩, ⟨hnx, hz⟩, fun i H3 sts' s3 B3 pre hi => ?_⟩
          walk_at "go"
          refine g_newT 2 rfl (by decide) fun t2 ht2 => ?_
          have s4 := same_new (o := .tup [.str "var", .int (i : Nat)]) ht2
          walk_at "go"
          refine g_newT 3 rfl (by decide) fun t3 ht3 => ?_
          have s5 := s4.new (o := .tup [.str (kM b), .int v, .ref t2]) ht3
          walk_at "go"
          exact k t3 (.mod b v (.var (i : Nat))) _ sts' ((SameB.of s2).trans (s3.trans (SameB.of s5))) (B3.mono s5) pre ⟨t2, upd_same, (same_new ht3) _ _ upd_same⟩ ⟨i, hi, rfl⟩
        · walk_at "go"
          refine g_newT 2 rfl (by decide) fun q2 hq2 => ?_
          have s2 := s1.trans (same_new (o := .tup [.str "and", .str "or"]) hq2)
          refine g_inT (SqT.of upd_same) rfl rfl ?_
          generalize upd H1 q2 (.tup [.str "and", .str "or"]) = H2 at s2 ⊢
          walk_at "go"
          refine iteB (k_bin g) (fun hb => ?_) (fun hb => ?_)
          · cases g <;> cases hb
            rename_i b g1 g2
            obtain ⟨u1, u2, e', hg1, hg2⟩ := id hg
            have hn1 : g1 ∈ f.clos := clos_nxt' hc hgc List.mem_cons_self
            have hn2 : g2 ∈ f.clos := clos_nxt' hc hgc (List.mem_cons_of_mem _ List.mem_cons_self)
            obtain ⟨h', rfl, hk1, hk2⟩ := hsk
            walk_at "go"
            refine g_rm (s2 _ _ e0) rfl ?_
            walk_at "go"
            refine g_ixT (SqT.of (s2 _ _ e')) at1 ?_
            walk_at "go"
            refine ⟨x, pp, l, d, rl, u1, f, sts, g1, z, h', rfl, B.mono s2, hc, h3, hfb, hg1.mono s2, hn1, hk1, hz, fun p1 r1 H3 sts3 s3 B3 pre3 hp1 hr1 => ?_⟩
            have t3 := (B.mono s2).t s3
            obtain ⟨⟨dx3, e03⟩, _⟩ := id B3
            walk_at "go"
            refine g_rm e03 rfl ?_
            walk_at "go"
            refine g_ixT (SqT.of (t3 _ _ (s2 _ _ e'))) at2 ?_
            walk_at "go"
            refine ⟨x, pp, l, d, rl, u2, f, sts3, g2, z, h', rfl, B3, hc, h3, hfb, (hg2.mono s2).monoT t3, hn2, hk2, hz, fun p2 r2 H4 sts4 s4 B4 pre4 hp2 hr2 => ?_⟩
            have t4 := B3.t s4
            walk_at "go"
            refine g_newT 3 rfl (by decide) fun t ht => ?_
            have s5 := same_new (o := .tup [.str (kB b), .ref p1, .ref p2]) ht
            walk_at "go"
            exact k t (.bin b r1 r2) _ sts4 ((SameB.of s2).trans (s3.trans (s4.trans (SameB.of s5)))) (B4.mono s5) (pre3.trans pre4) ⟨p1, p2, upd_same, (hp1.monoT t4).mono s5, hp2.mono s5⟩ ⟨r1, r2, hr1.mono pre4, hr2, rfl⟩
          · walk_at "go"
            refine k a g H2 sts (SameB.of s2) (B.mono s2) (List.prefix_refl _) (hg.mono s2) ?_
            cases g with
            | const b => rfl
            | fact b p => rfl
            | var y => exact hsk.elim
            | bin b f g => cases hb
            | mod b l f => cases hm
            | fix b y f => cases hx
end
end K22

set_option Elab.async false
set_option linter.all false
set_option maxRecDepth 100000
set_option maxHeartbeats 1000000
namespace K22
open PySem PySem.Spec PyProof.Rows L2
local macro_rules | `(tactic| walk_at "go1") => `(tactic| with_reducible first
  | refine g_seq ?_ | refine g_asg ?_ | refine g_name ?_ | refine g_c ?_ | refine g_op ?_ | refine g_cons ?_ | refine g_nil ?_ | refine g_cb ?_ | refine g_call ?_ | refine g_meth ?_
  | refine g_I0 ?_ | refine g_ret ?_ | refine g_retN ?_ | refine g_drop ?_ | refine g_if ?_ | refine g_test ?_ | refine g_tB ?_ | refine g_bool ?_
  | refine g_not ?_ | refine g_and ?_ | refine g_or ?_ | refine g_yes ?_ | refine g_tup ?_ | refine g_lst ?_ | refine g_slice ?_ | refine g_part ?_ | refine g_nopart ?_ | refine g_int ?_ | refine g_fld ?_ | refine g_dget ?_
  | refine g_din ?_ | refine g_dnotin ?_ | refine g_bm0 ?_ | refine g_bm ?_ | refine g_ifexp ?_ | refine g_andv ?_ | refine g_orv ?_ | refine g_notv ?_ | refine g_chain ?_ | refine g_U ?_ | refine g_next ?_ | refine g_brk ?_ | refine g_cont ?_
  | refine g_sfld ?_ | refine g_sdput ?_ | refine g_gtup ?_ | refine g_gcons ?_ | refine g_gnil ?_ | refine g_gsub ?_ | refine g_forT ?_ | refine g_forL ?_ | refine g_forR ?_ | refine g_lcT ?_ | refine g_lcL ?_ | refine g_lcR ?_ | refine g_un ?_ | refine g_sfa ?_ | refine g_ip ?_ | refine g_nin ?_ | refine g_nnot ?_ | refine g_nget ?_ | refine g_nput ?_ | refine g_ndisp ?_ | refine g_addI ?_ | refine g_subI ?_
  | (show Ends.nx _ _ _; refine g_nxm ?_) | (show Ends.rt _ _ _; refine g_rtm ?_) | (show Ends.bk _ _ _; refine g_bkm ?_) | (show Ends.ct _ _ _; refine g_ctm ?_))
local macro_rules | `(tactic| walk_at "go2") => `(tactic| first
  | ((with_reducible show tVar _ _ _ _); refine g_var rfl ?_)
  | ((with_reducible show rEq _ _ _ _); refine g_eq rfl ?_)
  | ((with_reducible show rNe _ _ _ _); refine g_ne rfl ?_)
  | ((with_reducible show tAug _ _ _ _ _ _); refine g_aug rfl ?_))
local macro_rules | `(tactic| walk_at "go") => `(tactic| repeat (first | walk_at "go1" | walk_at "go2"))
section
variable {P : Program} {w : World} {K : PySem.W.Frag} {mg : Str → Option Value} {base : Heap}
structure Built (N : Nat) (f : F) (sts : List St2) (rows : List F) : Prop where
  hd : sts[0]? = some (f.tidy, -1)
  nd : sts.Nodup
  un : ∀ st ∈ sts, BU f st
  len : rows.length = sts.length
  l120 : sts.length ≤ 120
  row : ∀ (i : Nat) (st : St2) (r : F), sts[i]? = some st → rows[i]? = some r → RowR sts N st.1 (-1) r
structure BDone (K : PySem.W.Frag) (N : Nat) (H : Hp) (x : Addr) (f : F) (cs : List F) (sts : List St2) (rows : List F) : Prop where
  clo : CloOk f cs
  bk : Built N f sts rows
  at_ : ∃ (dx pp l d rl : Addr) (ks bs rs : List Addr), H x = some (.ins (He.ga K "Builder") dx (bF pp l d rl)) ∧ H pp = some (.lst (ks.map V.ref)) ∧ FAs H cs ks ∧ H l = some (.lst (bs.map V.ref)) ∧ Paired (BsA H) sts bs ∧ H rl = some (.lst (rs.map V.ref)) ∧ FAs H rows rs
def spBuild (K : PySem.W.Frag) (N : Nat) : Sp := fun vs H Q _ => ∃ (x dx a : Addr) (f : F), vs = [.ref x, .ref a] ∧ H x = some (.ins (He.ga K "Builder") dx []) ∧ FA H f a ∧ f.Closed ∧ f.ht ≤ 3 ∧ FixB f ∧ (∀ g ∈ f.clos, ∃ h, g.Sk N h) ∧
  ∀ H' cs sts rows, SameX x H H' → BDone K N H' x f cs sts rows → Q .non H'
-- slots of Builder.__init__: 0:self 1:statement 2:at
abbrev n_Builder_init : List Str := ["self", "statement", "at"]
theorem sc_Builder_init : FnScope n_Builder_init p_Builder_init (defScope s_Builder_init) := ⟨rfl, rfl, rfl, by decide +kernel, rfl, by decide +kernel, by decide +kernel⟩
theorem ok_Builder_init (T : Top w K mg) (N : Nat) : Ok P w K mg base (N + 18) a_Builder_init p_Builder_init (spBuild K N) := by
  have G_closure := ok_closure (P := P) (base := base) T
  have G_Builder_row := ok_Builder_row (P := P) (base := base) T N
  refine T.F_Builder_init.ok sc_Builder_init (fun vs H Q E h => ?_) (fun cdv A outer s H vs Q E hr h => ?_)
  · obtain ⟨x, dx, a, f, rfl, _⟩ := h
    rfl
  · obtain ⟨x, dx, a, f, rfl, hx, hf, hc, h3, hfb, hsk, k⟩ := h
    have hu : (A.deeper (envOfC "Builder.__init__" (defScope s_Builder_init) s.heap.objs.size (He.fAd K a_Builder_init) cdv)).units + 64 < cLine := hr.units
    refine ⟨_, PSs.nox (pss_cons (ps_fld (pv 0) (pe_call G_closure (hr.mono (by omega)) rfl T.g_closure T.F_closure.kp T.b_closure .nil pass0 (pa_cons (pv 1) pa_nil)) rfl)
    (pss_cons (ps_fld (pv 0) (pe_lst (pa_cons (pe_tup (pa_cons (pe_ix (ki_list K) (kpe_fld K (pv 0)) pe_int (fun _ _ => rfl)) (pa_cons (pe_un un_neg pe_int) pa_nil))) pa_nil)) rfl)
    (pss_cons (ps_fld (pv 0) (pe_ndisp P w hu (pe_ix (ki_list K) (kpe_fld K (pv 0)) pe_int (fun _ _ => rfl)) pe_int) rfl)
    (pss_cons (ps_fld (pv 0) (pe_lst pa_nil) rfl)
    (pss_cons (ps_set (i := 2) sc_Builder_init.nd rfl (Or.inl rfl) pe_int)
    (pss_one (ps_while PassesOwn.never (pt_cmpR op_lt (pv 2) (pe_callB (kc_len K) (by rfl) T.z_len bt_len (pa_cons (kpe_fld K (pv 0)) pa_nil)) (nomark _)) (pss_cons (ps_expr (kpe_app K (kpe_fld K (pv 0)) (pe_meth (pv 0) T.c_Builder T.t_Builder_row G_Builder_row (hr.mono (by omega)) T.b_Builder_row .nil pass0 (pa_cons (pe_ix (ki_tup K) (pe_ix (ki_list K) (kpe_fld K (pv 0)) (pv 2) (fun _ _ => rfl)) pe_int (fun _ _ => rfl)) (pa_cons (pe_un un_neg pe_int) pa_nil)))))
      (pss_one (ps_aug (i := 2) sc_Builder_init.nd rfl (.inl rfl) pe_int ip_add)))))))))), ?_⟩
    walk_at "go"
    refine ⟨a, f, rfl, hf, hc, h3, fun pp ks cs H1 npp s1 hpp hks clo => ?_⟩
    walk_at "go"
    refine g_rput (s1 _ _ hx) T.c_Builder T.n_Builder_parts (by decide) ?_
    have sx1 : SameX x H (upd H1 x (.ins (He.ga K "Builder") dx (putF "parts" (.ref pp) []))) := (s1.x x).trans SameX.upd
    have hx1 : upd H1 x (.ins (He.ga K "Builder") dx (putF "parts" (.ref pp) [])) x = some (.ins (He.ga K "Builder") dx (putF "parts" (.ref pp) [])) := upd_same
    have npx : pp ≠ x := ne_of hpp (s1 _ _ hx) fun z => nomatch z
    have hpp1 : upd H1 x (.ins (He.ga K "Builder") dx (putF "parts" (.ref pp) [])) pp = some (.lst (ks.map V.ref)) := by rw [upd_ne npx]; exact hpp
    have hks1 := hks.monoT (SameT.upd (o' := .ins (He.ga K "Builder") dx (putF "parts" (.ref pp) [])) (s1 _ _ hx) fun _ z => nomatch z)
    generalize upd H1 x (.ins (He.ga K "Builder") dx (putF "parts" (.ref pp) [])) = H2 at sx1 hx1 hpp1 hks1 ⊢
    obtain ⟨r0, rfl⟩ := clo.hd
    obtain _ | @⟨_, u0, _, ks', hf0, hks'⟩ := id hks1
    walk_at "go"
    refine g_rfld hx1 T.c_Builder T.n_Builder_parts rfl ?_
    walk_at "go"
    refine g_ixL (SqL.of hpp1) at0 ?_
    walk_at "go"
    refine g_newT 2 rfl (by decide) fun t ht => ?_
    have s3 := same_new (o := .tup [.ref u0, .int (-1)]) ht
    have ht3 : BsA (upd H2 t (.tup [.ref u0, .int (-1)])) (f.tidy, -1) t := ⟨u0, upd_same, hf0.mono s3⟩
    generalize upd H2 t (.tup [.ref u0, .int (-1)]) = H3 at s3 ht3 ⊢
    walk_at "go"
    refine g_newL 1 rfl (by decide) fun l hl => ?_
    have s4 := s3.new (o := .lst [.ref t]) hl
    have ht4 := ht3.monoT (same_new (o := .lst [.ref t]) hl).t
    have hl4 : upd H3 l (.lst [.ref t]) l = some (.lst ([t].map V.ref)) := upd_same
    have nl : H2 l = none := s3.free hl
    generalize upd H3 l (.lst [.ref t]) = H4 at s4 ht4 hl4 ⊢
    walk_at "go"
    refine g_rput (s4 _ _ hx1) T.c_Builder T.n_Builder_states (by show 1 < 1000; decide) ?_
    have nlx : l ≠ x := (ne_of_none hx1 nl).symm
    have sx5 : SameX x H2 (upd H4 x (.ins (He.ga K "Builder") dx (putF "states" (.ref l) (putF "parts" (.ref pp) [])))) := (s4.x x).trans SameX.upd
    have hx5 : upd H4 x (.ins (He.ga K "Builder") dx (putF "states" (.ref l) (putF "parts" (.ref pp) []))) x = some (.ins (He.ga K "Builder") dx (putF "states" (.ref l) (putF "parts" (.ref pp) []))) := upd_same
    have hl5 : upd H4 x (.ins (He.ga K "Builder") dx (putF "states" (.ref l) (putF "parts" (.ref pp) []))) l = some (.lst ([t].map V.ref)) := by rw [upd_ne nlx]; exact hl4
    have ht5 := ht4.monoT (SameT.upd (o' := .ins (He.ga K "Builder") dx (putF "states" (.ref l) (putF "parts" (.ref pp) []))) (s4 _ _ hx1) fun _ z => nomatch z)
    generalize upd H4 x (.ins (He.ga K "Builder") dx (putF "states" (.ref l) (putF "parts" (.ref pp) []))) = H5 at sx5 hx5 hl5 ht5 ⊢
    walk_at "go"
    intro d hd
    have s6 := same_new (o := DNo P w d []) hd
    walk_at "go"
    refine g_rfld (s6 _ _ hx5) T.c_Builder T.n_Builder_states rfl ?_
    walk_at "go"
    refine g_ixL (SqL.of (s6 _ _ hl5)) at0 ?_
    walk_at "go"
    have hdep : (bkey (f.tidy, -1)).depth ≤ 8 := bkey_depth (by show f.tidy.ht ≤ 6; rw [tidy_ht]; omega)
    refine g_rnd upd_same (ht5.monoT s6.t).key hdep ?_
    rw [upd_upd]
    have s7 := same_new (o := DNo P w d [(bkey (f.tidy, -1), t, V.int 0)]) hd
    have nd7 : NDict P w (upd H5 d (DNo P w d [(bkey (f.tidy, -1), t, V.int 0)])) d [(bkey (f.tidy, -1), t, V.int 0)] := ⟨upd_same, fun z hz => by
      cases List.mem_singleton.mp hz
      exact ⟨(ht5.monoT s7.t).key, hdep⟩⟩
    have ndx : d ≠ x := (ne_of_none hx5 hd).symm
    generalize upd H5 d (DNo P w d [(bkey (f.tidy, -1), t, V.int 0)]) = H7 at s7 nd7 ⊢
    walk_at "go"
    refine g_rput (s7 _ _ hx5) T.c_Builder T.n_Builder_numbers (by show 2 < 1000; decide) ?_
    walk_at "go"
    refine g_newL 0 rfl (by decide) fun rl hrl => ?_
    walk_at "go"
    have nrx : rl ≠ x := (ne_of_none upd_same hrl).symm
    refine g_rput (by rw [upd_ne nrx.symm]; exact upd_same) T.c_Builder T.n_Builder_rows (by show 3 < 1000; decide) ?_
    have eH : upd (upd (upd H7 x (.ins (He.ga K "Builder") dx (putF "numbers" (.ref d) (putF "states" (.ref l) (putF "parts" (.ref pp) []))))) rl (.lst [])) x (.ins (He.ga K "Builder") dx (putF "rows" (.ref rl) (putF "numbers" (.ref d) (putF "states" (.ref l) (putF "parts" (.ref pp) []))))) =
        upd (upd H7 rl (.lst [])) x (.ins (He.ga K "Builder") dx (bF pp l d rl)) := by
      funext b
      by_cases h1 : b = x
      · subst h1
        rw [upd_same, upd_same]
        rfl
      · rw [upd_ne h1, upd_ne h1]
        by_cases h2 : b = rl
        · subst h2
          rw [upd_same, upd_same]
        · rw [upd_ne h2, upd_ne h2, upd_ne h1]
    rw [eH]
    rw [upd_ne nrx] at hrl
    have s8 := same_new (o := .lst []) hrl
    have sx8 : SameX x H7 (upd (upd H7 rl (.lst [])) x (.ins (He.ga K "Builder") dx (bF pp l d rl))) := (s8.x x).trans SameX.upd
    have hx8 : upd (upd H7 rl (.lst [])) x (.ins (He.ga K "Builder") dx (bF pp l d rl)) x = some (.ins (He.ga K "Builder") dx (bF pp l d rl)) := upd_same
    have hr8 : upd (upd H7 rl (.lst [])) x (.ins (He.ga K "Builder") dx (bF pp l d rl)) rl = some (.lst []) := by rw [upd_ne nrx]; exact upd_same
    have t8 : SameT H7 (upd (upd H7 rl (.lst [])) x (.ins (He.ga K "Builder") dx (bF pp l d rl))) := s8.t.trans (SameT.upd (s8 _ _ (s7 _ _ hx5)) fun _ z => nomatch z)
    generalize upd (upd H7 rl (.lst [])) x (.ins (He.ga K "Builder") dx (bF pp l d rl)) = H8 at sx8 hx8 hr8 t8 ⊢
    -- all in place
    have sx58 : SameX x H5 H8 := (s7.x x).trans sx8
    have sx28 : SameX x H2 H8 := sx5.trans sx58
    have sx08 : SameX x H H8 := sx1.trans sx28
    have t58 : SameT H5 H8 := s7.t.trans t8
    have B8 : BAt P w K H8 x f pp l d rl [(f.tidy, -1)] := by
      refine ⟨⟨dx, hx8⟩, ⟨[t], sx58 _ _ nlx hl5, .cons (ht5.monoT t58) .nil, nd7.monoS t8 ?_⟩, List.nodup_cons.mpr ⟨(fun z => nomatch z), List.nodup_nil⟩, fun z hz => ?_⟩
      · rw [sx8 _ _ ndx nd7.at_, nd7.at_]
      · cases List.mem_singleton.mp hz
        exact ⟨clos_head f, .inl rfl⟩
    have hpp8 := sx28 _ _ npx hpp1
    have npl : pp ≠ l := ne_of_none hpp1 nl
    have hrl5 : H5 rl = none := s7.free hrl
    have npd : pp ≠ d := ne_of_none (sx5 _ _ npx hpp1) hd
    have nrl : rl ≠ l := (ne_of_none hl5 hrl5).symm
    have nrd : rl ≠ d := (ne_of_none nd7.at_ hrl).symm
    have npr : pp ≠ rl := ne_of_none (sx5 _ _ npx hpp1) hrl5
    have hks8 : FAs H8 (f.tidy :: r0) (u0 :: ks') := hks1.monoT (SameX.t sx28 hx1)
    have fr : ∀ (b : Addr) (Hz : Hp), SameX x H Hz → b ≠ x → Hz b = none → H b = none := fun b Hz s n e => by
      cases q : H b with
      | none => rfl
      | some o =>
        rw [s b o n q] at e
        cases e
    have nl0 : H l = none := fr l H2 sx1 nlx nl
    have nd0 : H d = none := fr d H5 (sx1.trans sx5) ndx hd
    have nr0 : H rl = none := fr rl H5 (sx1.trans sx5) nrx hrl5
    walk_at "go"
    refine g_while (W := fun m σ' H' => ∃ (sts : List St2) (rows : List F) (rs : List Addr) (i : Nat), σ' = [some (.ref x), some (.ref a), some (.int (i : Nat))] ∧ m = 121 - i ∧ i ≤ sts.length ∧ BAt P w K H' x f pp l d rl sts ∧ H' rl = some (.lst (rs.map V.ref)) ∧ FAs H' rows rs ∧ rows.length = i ∧
        SameX x H H' ∧ H' pp = some (.lst ((u0 :: ks').map V.ref)) ∧ FAs H' (f.tidy :: r0) (u0 :: ks') ∧ sts[0]? = some (f.tidy, -1) ∧ ∀ (i : Nat) (st : St2) (r : F), sts[i]? = some st → rows[i]? = some r → RowR sts N st.1 (-1) r)
      ⟨_, [], [], 0, rfl, rfl, Nat.zero_le _, B8, hr8, .nil, rfl, sx08, hpp8, hks8, rfl, fun i st r _ e => by simp at e⟩ ?_
    rintro m σ' H9 ⟨sts, rows, rs, i, rfl, rfl, hi, B, hr9, hrs, hri, sx9, hpp9, hks9, hd0, hrow⟩
    have hl120 := B.len h3 hfb
    obtain ⟨⟨dx9, e0⟩, ⟨bs, e1, e2, e3⟩, _, _⟩ := id B
    have hlen := Paired.length e2
    walk_at "go"
    refine g_rfld e0 T.c_Builder T.n_Builder_states rfl ?_
    walk_at "go"
    refine g_len (.inl (SqL.of e1)) ?_
    walk_at "go"
    rw [List.length_map, ← hlen]
    refine iteB (c' := decide (i < sts.length)) (by congr 1; exact propext ⟨fun h => by omega, fun h => by omega⟩) (fun hlt => ?_) (fun hlt => ?_)
    · have hlt := of_decide_eq_true hlt
      obtain ⟨st, hst⟩ : ∃ st, sts[i]? = some st := ⟨_, List.getElem?_eq_getElem hlt⟩
      obtain ⟨b, hb, u, hbu, hfu⟩ := Pd.get' e2 hst
      have hun := B.un st (List.mem_of_getElem? hst)
      obtain ⟨hh, hskt⟩ := hsk _ hun.1
      refine ⟨_, fun _ _ h => h, ?_⟩
      walk_at "go"
      refine g_rfld e0 T.c_Builder T.n_Builder_rows rfl ?_
      walk_at "go"
      refine g_tyL (SqL.of hr9) ?_
      walk_at "go"
      refine g_rm e0 rfl ?_
      walk_at "go"
      refine g_rfld e0 T.c_Builder T.n_Builder_states rfl ?_
      walk_at "go"
      refine g_ixL (SqL.of e1) (atI_nat (by rw [List.getElem?_map, hb]; rfl)) ?_
      walk_at "go"
      refine g_ixT (SqT.of hbu) at0 ?_
      walk_at "go"
      refine ⟨x, pp, l, d, rl, u, f, sts, st.1, -1, hh, rfl, B, hc, h3, hfb, hfu, hun.1, hskt, .inl rfl, fun p r H10 sts' s10 B10 pre hp hrr => ?_⟩
      have t10 := B.t s10
      have hr10 := s10 _ _ nrl nrd hr9
      have hl120' := B10.len h3 hfb
      walk_at "go"
      refine g_app hr10 (lt_line (by rw [List.length_map, ← Paired.length hrs]; omega)) ?_
      walk_at "go"
      have t11 : SameT H10 (upd H10 rl (.lst (rs.map V.ref ++ [V.ref p]))) := SameT.lst hr10
      have B11 : BAt P w K (upd H10 rl (.lst (rs.map V.ref ++ [V.ref p]))) x f pp l d rl sts' := by
        obtain ⟨⟨dx10, c0⟩, ⟨bs', c1, c2, c3⟩, c4, c5⟩ := B10
        exact ⟨⟨dx10, by rw [upd_ne nrx.symm]; exact c0⟩, ⟨bs', by rw [upd_ne nrl.symm]; exact c1, Paired.mapP c2 fun _ _ z => z.monoT t11, c3.monoS t11 (upd_ne nrd.symm)⟩, c4, c5⟩
      refine ⟨121 - (i + 1), by omega, sts', rows ++ [r], rs ++ [p], i + 1, rfl, rfl, by have := pre.length_le; omega, B11, by rw [upd_same, List.map_append]; rfl, Pd.snoc (hp.monoT t11) ((hrs.monoT t10).monoT t11), by rw [List.length_append, hri]; rfl, ?_, ?_, (hks9.monoT t10).monoT t11, pre_get pre hd0, fun j sj rj h1 h2 => ?_⟩
      · intro b o hbx hbo
        rw [upd_ne (ne_of_none hbo nr0)]
        exact s10 b o (ne_of_none hbo nl0) (ne_of_none hbo nd0) (sx9 b o hbx hbo)
      · rw [upd_ne npr]
        exact s10 _ _ npl npd hpp9
      · by_cases hj : j < i
        · rw [List.getElem?_append_left (by omega)] at h2
          have hjl : j < sts.length := by omega
          have e5 := pre_get pre (List.getElem?_eq_getElem hjl)
          rw [e5] at h1
          cases h1
          exact (hrow j _ rj (List.getElem?_eq_getElem hjl) h2).mono pre
        · have hj2 : j < (rows ++ [r]).length := (List.getElem?_eq_some_iff.mp h2).1
          rw [List.length_append, hri] at hj2
          have : j = i := by
            simp at hj2
            omega
          subst this
          rw [pre_get pre hst] at h1
          cases h1
          rw [List.getElem?_append_right (by omega), hri, Nat.sub_self] at h2
          cases h2
          exact hrr
    · have hlt := of_decide_eq_false hlt
      walk_at "go"
      exact k H9 _ sts rows sx9 ⟨clo, ⟨hd0, B.nd, B.un, by omega, hl120, hrow⟩, dx9, pp, l, d, rl, _, bs, rs, e0, hpp9, hks9, e1, e2, hr9, hrs⟩
end
end K22

set_option Elab.async false
set_option linter.all false
set_option maxRecDepth 100000
set_option maxHeartbeats 1000000
namespace K22
open PySem PySem.Spec PyProof.Rows L2
local macro_rules | `(tactic| walk_at "go1") => `(tactic| with_reducible first
  | refine g_seq ?_ | refine g_asg ?_ | refine g_name ?_ | refine g_c ?_ | refine g_op ?_ | refine g_cons ?_ | refine g_nil ?_ | refine g_cb ?_ | refine g_call ?_ | refine g_meth ?_
  | refine g_I0 ?_ | refine g_ret ?_ | refine g_retN ?_ | refine g_drop ?_ | refine g_if ?_ | refine g_test ?_ | refine g_tB ?_ | refine g_bool ?_
  | refine g_not ?_ | refine g_and ?_ | refine g_or ?_ | refine g_yes ?_ | refine g_tup ?_ | refine g_lst ?_ | refine g_slice ?_ | refine g_part ?_ | refine g_nopart ?_ | refine g_int ?_ | refine g_fld ?_ | refine g_dget ?_
  | refine g_din ?_ | refine g_dnotin ?_ | refine g_bm0 ?_ | refine g_bm ?_ | refine g_ifexp ?_ | refine g_andv ?_ | refine g_orv ?_ | refine g_notv ?_ | refine g_chain ?_ | refine g_U ?_ | refine g_next ?_ | refine g_brk ?_ | refine g_cont ?_
  | refine g_sfld ?_ | refine g_sdput ?_ | refine g_gtup ?_ | refine g_gcons ?_ | refine g_gnil ?_ | refine g_gsub ?_ | refine g_forT ?_ | refine g_forL ?_ | refine g_forR ?_ | refine g_lcT ?_ | refine g_lcL ?_ | refine g_lcR ?_ | refine g_un ?_ | refine g_sfa ?_ | refine g_ip ?_ | refine g_nin ?_ | refine g_nnot ?_ | refine g_nget ?_ | refine g_nput ?_ | refine g_ndisp ?_ | refine g_addI ?_ | refine g_subI ?_
  | (show Ends.nx _ _ _; refine g_nxm ?_) | (show Ends.rt _ _ _; refine g_rtm ?_) | (show Ends.bk _ _ _; refine g_bkm ?_) | (show Ends.ct _ _ _; refine g_ctm ?_))
local macro_rules | `(tactic| walk_at "go2") => `(tactic| first
  | ((with_reducible show tVar _ _ _ _); refine g_var rfl ?_)
  | ((with_reducible show rEq _ _ _ _); refine g_eq rfl ?_)
  | ((with_reducible show rNe _ _ _ _); refine g_ne rfl ?_)
  | ((with_reducible show tAug _ _ _ _ _ _); refine g_aug rfl ?_))
local macro_rules | `(tactic| walk_at "go") => `(tactic| repeat (first | walk_at "go1" | walk_at "go2"))
section
variable {P : Program} {w : World} {K : PySem.W.Frag} {mg : Str → Option Value} {base : Heap}
/-- the priority of a state -/
def prio (nb : Nat) (κ : Int → Bool) (z : Int) : Nat := if z < 0 then 0 else (2 * ((nb : Int) - z) - (if κ z then 0 else 1)).toNat
theorem prio_val {nb : Nat} {κ : Int → Bool} {z : Int} (h0 : 0 ≤ z) (h1 : z < nb) : ((prio nb κ z : Nat) : Int) = 2 * ((nb : Int) - z) - (if κ z then 0 else 1) := by
  unfold prio
  rw [if_neg (by omega)]
  cases κ z
  · show ((2 * ((nb : Int) - z) - 1).toNat : Int) = 2 * ((nb : Int) - z) - 1
    omega
  · show ((2 * ((nb : Int) - z) - 0).toNat : Int) = 2 * ((nb : Int) - z) - 0
    omega
structure Bnd (cs : List F) (nb : Nat) (κ : Int → Bool) : Prop where
  of : ∀ b v g, F.fix b v g ∈ cs → b = κ v ∧ 0 ≤ v ∧ v < nb
  all : ∀ v : Int, 0 ≤ v → v < nb → ∃ b g, F.fix b v g ∈ cs
  le : nb ≤ 7
open Classical in
theorem putK_keys (kvs : List (Key × V)) (k : Key) (v : V) : (putK kvs k v).map (·.1) = if k ∈ kvs.map (·.1) then kvs.map (·.1) else kvs.map (·.1) ++ [k] := by
  by_cases h : k ∈ kvs.map (·.1)
  · rw [if_pos h]
    obtain ⟨q, hq, e⟩ := List.mem_map.mp h
    have ha : kvs.any (fun kv => decide (kv.1 = k)) = true := List.any_eq_true.mpr ⟨q, hq, by simp [e]⟩
    unfold putK
    rw [if_pos ha, List.map_map]
    refine List.map_congr_left fun z _ => ?_
    show (if z.1 = k then (z.1, v) else z).1 = z.1
    split <;> rfl
  · rw [if_neg h]
    have ha : ¬ kvs.any (fun kv => decide (kv.1 = k)) = true := fun z => by
      obtain ⟨q, hq, e⟩ := List.any_eq_true.mp z
      exact h (List.mem_map.mpr ⟨q, hq, by simpa using e⟩)
    unfold putK
    rw [if_neg ha, List.map_append]
    rfl
theorem valV_nodup {kvs : List (Key × V)} {k : Key} {v : V} (h : (kvs.map (·.1)).Nodup) : ((putK kvs k v).map (·.1)).Nodup ∧ ∀ j, j ∈ (putK kvs k v).map (·.1) → j = k ∨ j ∈ kvs.map (·.1) := by
  rw [putK_keys]
  split
  · exact ⟨h, fun j => .inr⟩
  · rename_i n
    exact ⟨nodup_snoc h n, fun j hj => (List.mem_append.mp hj).elim .inr fun z => .inl (List.mem_singleton.mp z)⟩
theorem call_lenD {X : Cx} : CallR X (.builtin "len") (fun xs H Q => ∃ d kvs, xs = [.ref d] ∧ H d = some (.dK kvs) ∧ Q (.int (kvs.length : Nat)) H) := by
  intro pins s σ H vs us Q I r h
  obtain ⟨d, kvs, rfl, hd, q⟩ := h
  rw [Vals.ref1 r]
  exact d_len I (.inl hd) fun t s' I' => ⟨.int (kvs.length : Nat), H, I', ⟨t, rfl⟩, q⟩
/-- the dict of the binders, as far as it is made -/
structure BDict (cs : List F) (κ : Int → Bool) (kvs : List (Key × V)) : Prop where
  nd : (kvs.map (·.1)).Nodup
  of : ∀ k, k ∈ kvs.map (·.1) → ∃ b v g, k = Sum.inl v ∧ F.fix b v g ∈ cs
  all : ∀ b v g, F.fix b v g ∈ cs → valV kvs (Sum.inl v) = some (V.str (kX (κ v)))
theorem BDict.len {cs : List F} {κ : Int → Bool} {kvs : List (Key × V)} {nb : Nat} (D : BDict cs κ kvs) (B : Bnd cs nb κ) : kvs.length = nb := by
  have key : ∀ v : Int, 0 ≤ v → v < nb → (Sum.inl v : Key) ∈ kvs.map (·.1) := fun v h1 h2 => by
    obtain ⟨b, g, h⟩ := B.all v h1 h2
    have e := D.all b v g h
    unfold valV at e
    obtain ⟨q, hq, _⟩ := Option.map_eq_some_iff.mp e
    have h3 := List.find?_some hq
    simp at h3
    exact List.mem_map.mpr ⟨q, List.mem_of_find?_eq_some hq, h3⟩
  let R : List Key := (List.range nb).map fun (i : Nat) => Sum.inl (i : Int)
  have hR : R.Nodup := List.pairwise_map.mpr (List.Pairwise.imp (fun h e => h (by injection e with e; omega)) List.nodup_range)
  have l1 : kvs.length ≤ nb := by
    have := nodup_le D.nd (m := R) fun k hk => by
      obtain ⟨b, v, g, rfl, h⟩ := D.of k hk
      obtain ⟨_, h1, h2⟩ := B.of b v g h
      exact List.mem_map.mpr ⟨v.toNat, List.mem_range.mpr (by omega), by rw [Int.toNat_of_nonneg h1]⟩
    simpa [R] using this
  have l2 : nb ≤ kvs.length := by
    have := nodup_le hR (m := kvs.map (·.1)) fun k hk => by
      obtain ⟨i, hi, rfl⟩ := List.mem_map.mp hk
      exact key _ (by omega) (by have := List.mem_range.mp hi; omega)
    simpa [R] using this
  omega
def spPrio (K : PySem.W.Frag) (N : Nat) : Sp := fun vs H Q _ => ∃ (x : Addr) (f : F) (cs : List F) (sts : List St2) (rows : List F) (nb : Nat) (κ : Int → Bool), vs = [.ref x] ∧ BDone K N H x f cs sts rows ∧ f.ht ≤ 3 ∧ Bnd cs nb κ ∧
  ∀ p H', H p = none → Same H H' → H' p = some (.lst ((sts.map fun st => prio nb κ st.2).map fun (i : Nat) => V.int i)) → Q (.ref p) H'
-- slots of Builder.priorities: 0:self 1:binders 2:part 3:found 4:_ 5:least 6:priority
abbrev n_Builder_priorities : List Str := ["self", "binders", "part", "found", "_", "least", "priority"]
theorem sc_Builder_priorities : FnScope n_Builder_priorities p_Builder_priorities (defScope s_Builder_priorities) := ⟨rfl, rfl, rfl, by decide +kernel, rfl, by decide +kernel, by decide +kernel⟩
theorem ok_Builder_priorities (T : Top w K mg) (N : Nat) : Ok P w K mg base 1 a_Builder_priorities p_Builder_priorities (spPrio K N) := by
  refine T.F_Builder_priorities.ok sc_Builder_priorities (fun vs H Q E h => ?_) (fun cdv A outer s H vs Q E hr h => ?_)
  · obtain ⟨x, f, cs, sts, rows, nb, κ, rfl, _⟩ := h
    rfl
  · obtain ⟨x, f, cs, sts, rows, nb, κ, rfl, hB, h3, hbn, k⟩ := h
    have hu := hu_of hr
    refine ⟨_, PSs.nox (pss_cons (ps_setDc (i := 1) (own := [("part", 2)]) (g := gName 2) rfl sc_Builder_priorities.nd rfl rfl (swd_true rfl rfl rfl (by decide +kernel)) (kpi_list K (kpe_fld K (pv 0))) (blkOk_by (N := n_Builder_priorities) (sc := (defScope s_Builder_priorities)) (by decide +kernel)) (fun _ _ _ _ _ => (pg_name (i := 2) sc_Builder_priorities.nd rfl (Or.inl rfl))) (fun _ _ _ _ _ => (pts_one (pt_cmpR (ko_in K) (pe_ix (ki_tup K) (pv 2) pe_int (fun _ _ => rfl)) (pe_gref (by rfl) T.g_BINDERS) (by rfl)))) (fun _ _ _ _ _ => (pe_ix (ki_tup K) (pv 2) pe_int (fun _ _ => rfl))) (fun _ _ _ _ _ => (pe_ix (ki_tup K) (pv 2) pe_int (fun _ _ => rfl))))
    (pss_cons (ps_set (i := 3) sc_Builder_priorities.nd rfl (Or.inl rfl) (pe_lst pa_nil))
    (pss_cons (ps_for PassesOwn.never rfl (kpi_list K (kpe_fld K (pv 0))) (pg_tup (by rfl) (pgs_cons (pg_name (i := 4) sc_Builder_priorities.nd rfl (Or.inl rfl)) (pgs_cons (pg_name (i := 5) sc_Builder_priorities.nd rfl (Or.inl rfl)) pgs_nil))) (pss_cons (ps_set (i := 6) sc_Builder_priorities.nd rfl (Or.inl rfl) pe_int)
      (pss_cons (ps_if (pt_cmpR op_ge (pv 5) pe_int (nomark _)) (pss_one (ps_set (i := 6) sc_Builder_priorities.nd rfl (Or.inl rfl) (pe_op op_sub (pe_op op_mul pe_int (pe_op op_sub (pe_callB (call_lenD) (by rfl) T.z_len bt_len (pa_cons (pv 1) pa_nil)) (pv 5))) (pe_callTy (call_int1) (by rfl) T.z_int bt_int (pa_cons (pe_cmpR op_eq (pe_dget hu (pv 1) (pv 5) (fun _ _ => rfl)) pe_str (nomark _)) pa_nil))))) pss_nil)
      (pss_one (ps_expr (kpe_app K (pv 3) (pv 6)))))))
    (pss_one (ps_ret (pv 3)))))), ?_⟩
    obtain ⟨clo, bk, dx, pp, l, d, rl, ks, bs, rs, e0, e1, e2, e3, e4, e5, e6⟩ := hB
    have hl := Paired.length e2
    have h120 := bk.l120
    have hlb := Paired.length e4
    have h15 := clo.len h3
    walk_at "go"
    refine g_dcL ?_
    walk_at "go"
    refine g_rfld e0 T.c_Builder T.n_Builder_parts rfl ?_
    walk_at "go"
    refine g_rdcL (SqL.of e1) fun D hD => ⟨fun i H' => ∃ kvs, Same H H' ∧ H' D = some (.dK kvs) ∧ BDict (cs.take i) κ kvs ∧ kvs.length ≤ i, ⟨[], same_new hD, upd_same, ⟨List.nodup_nil, (fun _ h => nomatch h), (fun _ _ _ h => nomatch h)⟩, Nat.le_refl _⟩, fun i H' hi ⟨kvs, s0, _⟩ => SqL.of (s0 _ _ e1), fun i y H' hy ⟨kvs, s0, hD0, hb, hk⟩ => ?_, fun H1 ⟨kvs, s1, hD1, hb, hk⟩ => ?_⟩
    · rw [List.getElem?_map] at hy
      obtain ⟨u, hu', rfl⟩ := Option.map_eq_some_iff.mp hy
      obtain ⟨g, hg, hgu⟩ := Pd.get e2 hu'
      have hi : i < cs.length := (List.getElem?_eq_some_iff.mp hg).1
      obtain ⟨ys, ey, _⟩ := (hgu.mono s0).tup
      refine g_turnD rfl ?_
      walk_at "go"
      refine g_ixT (SqT.of ey) at0 ?_
      walk_at "go"
      refine g_inT (T.binders _) rfl rfl ?_
      walk_at "go"
      rw [k_fix g]
      cases hfx : g.isFix with
      | false =>
        refine iteF ?_
        refine ⟨kvs, s0, hD0, ⟨hb.nd, fun k hk => ?_, fun b v g' h => ?_⟩, by omega⟩
        · obtain ⟨b, v, g', e, h⟩ := hb.of k hk
          exact ⟨b, v, g', e, List.take_subset_take_left _ (Nat.le_succ i) h⟩
        · rw [take_snoc hg] at h
          rcases List.mem_append.mp h with h | h
          · exact hb.all b v g' h
          · rw [← List.mem_singleton.mp h] at hfx
            cases hfx
      | true =>
        refine iteT ?_
        obtain ⟨b, v, g0, rfl⟩ : ∃ b v g0, g = F.fix b v g0 := by cases g <;> first | exact ⟨_, _, _, rfl⟩ | cases hfx
        obtain ⟨u2, e2', _⟩ := hgu.mono s0
        walk_at "go"
        refine g_ixT (SqT.of e2') at1 ?_
        walk_at "go"
        refine g_ixT (SqT.of e2') at0 ?_
        walk_at "go"
        refine g_putD (k := Sum.inl v) hD0 (lt_line (by omega)) ?_
        obtain ⟨n1, n2⟩ := valV_nodup (k := (Sum.inl v : Key)) (v := V.str (kX b)) hb.nd
        refine ⟨_, s0.mut hD, upd_same, ⟨n1, fun k hk => ?_, fun b' v' g' h => ?_⟩, by have := length_putK kvs (Sum.inl v) (V.str (kX b)); omega⟩
        · rcases n2 k hk with rfl | hk
          · exact ⟨b, v, g0, rfl, by rw [take_snoc hg]; exact List.mem_append_right _ List.mem_cons_self⟩
          · obtain ⟨b', v', g', e, h⟩ := hb.of k hk
            exact ⟨b', v', g', e, List.take_subset_take_left _ (Nat.le_succ i) h⟩
        · rw [valV_put]
          by_cases e : v' = v
          · subst e
            rw [if_pos rfl, (hbn.of b v' g0 (List.mem_of_getElem? hg)).1]
          · rw [if_neg fun z => e (Sum.inl.inj z)]
            rw [take_snoc hg] at h
            rcases List.mem_append.mp h with h | h
            · exact hb.all b' v' g' h
            · have := List.mem_singleton.mp h
              injection this with z1 z2
              exact absurd z2 e
    · rw [List.take_of_length_le (by rw [List.length_map, ← hl]; exact Nat.le_refl _)] at hb
      have hlen := hb.len hbn
      walk_at "go"
      refine g_newL 0 rfl (by decide) fun q hq => ?_
      have s2 := same_new (o := .lst []) hq
      have hD2 := s2 _ _ hD1
      walk_at "go"
      refine g_rfld (s2 _ _ (s1 _ _ e0)) T.c_Builder T.n_Builder_states rfl ?_
      walk_at "go"
      refine g_rforL (SqL.of (s2 _ _ (s1 _ _ e3))) (fun i σ' H' => ∃ v1 v2 v3, σ' = [some (.ref x), some (.ref D), none, some (.ref q), v1, v2, v3] ∧ Same H1 H' ∧ H' q = some (.lst (((sts.take i).map fun st => prio nb κ st.2).map fun (i : Nat) => V.int i)))
        ⟨_, _, _, rfl, s2, upd_same⟩ (fun i _ H' _ ⟨_, _, _, _, s3, _⟩ => SqL.of (s3 _ _ (s1 _ _ e3))) ?_ ?_
      · rintro i y σ' H' hy ⟨v1, v2, v3, rfl, s3, hq3⟩
        rw [List.getElem?_map] at hy
        obtain ⟨b, hb', rfl⟩ := Option.map_eq_some_iff.mp hy
        obtain ⟨st, hst, u, hbu, hfu⟩ := Pd.get e4 hb'
        have hi : i < sts.length := (List.getElem?_eq_some_iff.mp hst).1
        have hz := (bk.un st (List.mem_of_getElem? hst)).2
        have hD3 := s3 _ _ hD1
        walk_at "go"
        refine g_run (SqT.of (s3 _ _ (s1 _ _ hbu))) rfl ?_
        walk_at "go"
        have fin : ∀ m : Int, m = (prio nb κ st.2 : Nat) → ∃ v1 v2 v3, [some (V.ref x), some (.ref D), none, some (.ref q), some (.ref u), some (.int st.2), some (.int m)] = [some (.ref x), some (.ref D), none, some (.ref q), v1, v2, v3] ∧ Same H1 (upd H' q (.lst ((((sts.take i).map fun st => prio nb κ st.2).map fun (i : Nat) => V.int i) ++ [.int m]))) ∧
            (upd H' q (.lst ((((sts.take i).map fun st => prio nb κ st.2).map fun (i : Nat) => V.int i) ++ [.int m]))) q = some (.lst (((sts.take (i + 1)).map fun st => prio nb κ st.2).map fun (i : Nat) => V.int i)) := by
          intro m hm
          refine ⟨_, _, _, rfl, s3.mut hq, ?_⟩
          rw [upd_same, take_snoc hst, hm]
          simp
        rcases hz with hz | ⟨b, g, hg⟩
        · rw [show decide (st.2 ≥ 0) = false from decide_eq_false (by omega)]
          refine iteF ?_
          walk_at "go"
          refine g_tyL (SqL.of hq3) ?_
          walk_at "go"
          refine g_app hq3 (lt_line (by rw [List.length_map, List.length_map, List.length_take]; omega)) ?_
          walk_at "go"
          exact fin 0 (by unfold prio; rw [if_pos (by omega)]; rfl)
        · have hgc := clo.all _ hg
          obtain ⟨hb1, hb2, hb3⟩ := hbn.of b st.2 g hgc
          rw [show decide (st.2 ≥ 0) = true from decide_eq_true (by omega)]
          refine iteT ?_
          walk_at "go"
          refine ⟨D, kvs, rfl, hD3, ?_⟩
          walk_at "go"
          refine g_I (show CMul 2 ((kvs.length : Nat) - st.2) from by unfold CMul; omega) ?_
          walk_at "go"
          refine g_rdg hD3 (hb.all b st.2 g hgc) ?_
          walk_at "go"
          refine .inr ⟨_, rfl, ?_⟩
          rw [hlen]
          walk_at "go"
          refine g_tyL (SqL.of hq3) ?_
          walk_at "go"
          refine g_app hq3 (lt_line (by rw [List.length_map, List.length_map, List.length_take]; omega)) ?_
          walk_at "go"
          refine fin _ ?_
          rw [prio_val hb2 hb3]
          cases κ st.2 <;> rfl
      · rintro σ' H' ⟨v1, v2, v3, rfl, s3, hq3⟩
        rw [List.take_of_length_le (by rw [List.length_map, ← hlb]; exact Nat.le_refl _)] at hq3
        walk_at "go"
        exact k q H' (s1.free hq) (s1.trans s3) hq3
end
end K22

set_option Elab.async false
set_option linter.all false
set_option maxRecDepth 100000
set_option maxHeartbeats 1000000
namespace K22
open PySem PySem.Spec PyProof.Rows L2
local macro_rules | `(tactic| walk_at "go1") => `(tactic| with_reducible first
  | refine g_seq ?_ | refine g_asg ?_ | refine g_name ?_ | refine g_c ?_ | refine g_op ?_ | refine g_cons ?_ | refine g_nil ?_ | refine g_cb ?_ | refine g_call ?_ | refine g_meth ?_
  | refine g_I0 ?_ | refine g_ret ?_ | refine g_retN ?_ | refine g_drop ?_ | refine g_if ?_ | refine g_test ?_ | refine g_tB ?_ | refine g_bool ?_
  | refine g_not ?_ | refine g_and ?_ | refine g_or ?_ | refine g_yes ?_ | refine g_tup ?_ | refine g_lst ?_ | refine g_slice ?_ | refine g_part ?_ | refine g_nopart ?_ | refine g_int ?_ | refine g_fld ?_ | refine g_dget ?_
  | refine g_din ?_ | refine g_dnotin ?_ | refine g_bm0 ?_ | refine g_bm ?_ | refine g_ifexp ?_ | refine g_andv ?_ | refine g_orv ?_ | refine g_notv ?_ | refine g_chain ?_ | refine g_U ?_ | refine g_next ?_ | refine g_brk ?_ | refine g_cont ?_
  | refine g_sfld ?_ | refine g_sdput ?_ | refine g_gtup ?_ | refine g_gcons ?_ | refine g_gnil ?_ | refine g_gsub ?_ | refine g_forT ?_ | refine g_forL ?_ | refine g_forR ?_ | refine g_lcT ?_ | refine g_lcL ?_ | refine g_lcR ?_ | refine g_un ?_ | refine g_sfa ?_ | refine g_ip ?_ | refine g_nin ?_ | refine g_nnot ?_ | refine g_nget ?_ | refine g_nput ?_ | refine g_ndisp ?_ | refine g_addI ?_ | refine g_subI ?_
  | (show Ends.nx _ _ _; refine g_nxm ?_) | (show Ends.rt _ _ _; refine g_rtm ?_) | (show Ends.bk _ _ _; refine g_bkm ?_) | (show Ends.ct _ _ _; refine g_ctm ?_))
local macro_rules | `(tactic| walk_at "go2") => `(tactic| first
  | ((with_reducible show tVar _ _ _ _); refine g_var rfl ?_)
  | ((with_reducible show rEq _ _ _ _); refine g_eq rfl ?_)
  | ((with_reducible show rNe _ _ _ _); refine g_ne rfl ?_)
  | ((with_reducible show tAug _ _ _ _ _ _); refine g_aug rfl ?_))
local macro_rules | `(tactic| walk_at "go") => `(tactic| repeat (first | walk_at "go1" | walk_at "go2"))
section
variable {P : Program} {w : World} {K : PySem.W.Frag} {mg : Str → Option Value} {base : Heap}
theorem RowR.ok {sts : List St2} : ∀ {n h : Nat} {g : F} {z : Int} {r : F}, RowR sts n g z r → g.Sk n h → r.rowOk sts.length false ∧ r.ht ≤ h
  | 0, _, _, _, _, q, _ => q.elim
  | _ + 1, _, .const _, _, _, q, _ => by
    cases q
    exact ⟨trivial, Nat.zero_le _⟩
  | _ + 1, _, .fact _ _, _, _, q, _ => by
    cases q
    exact ⟨trivial, Nat.zero_le _⟩
  | _ + 1, _, .var _, _, _, q, _ => q.elim
  | _ + 1, h, .mod b l f, z, r, ⟨i, e, q⟩, s => by
    subst q
    have := (List.getElem?_eq_some_iff.mp e).1
    exact ⟨⟨rfl, by omega, by omega⟩, s⟩
  | n + 1, h, .bin b f g, z, r, ⟨r1, r2, a, c, q⟩, ⟨k, e, s1, s2⟩ => by
    subst q e
    have h1 := RowR.ok (n := n) a s1
    have h2 := RowR.ok (n := n) c s2
    refine ⟨⟨h1.1, h2.1⟩, ?_⟩
    show max r1.ht r2.ht + 1 ≤ k + 1
    omega
  | n + 1, h, .fix b x f, z, r, q, s => RowR.ok (n := n) (g := (F.fix b x f).unf) q s
/-- what the mathematics gives of a guarded statement -/
structure MathOk (N : Nat) (f : F) (nb : Nat) (κ : Int → Bool) : Prop where
  sk : ∀ g ∈ f.clos, g.Sk N 3
  bnd : Bnd f.clos nb κ
theorem MathOk.fixB {N : Nat} {f : F} {nb : Nat} {κ : Int → Bool} (h : MathOk N f nb κ) : FixB f := fun b x g hm => by
  have := h.bnd.of b x g hm
  have := h.bnd.le
  omega
theorem Bnd.clo {f : F} {cs : List F} {nb : Nat} {κ : Int → Bool} (h : Bnd f.clos nb κ) (c : CloOk f cs) : Bnd cs nb κ :=
  ⟨fun b v g hm => h.of b v g (c.sub _ hm), fun v h1 h2 => let ⟨b, g, hm⟩ := h.all v h1 h2; ⟨b, g, c.all _ hm⟩, h.le⟩
/-- the machine of a statement -/
def mcOf (sts : List St2) (rows : List F) (nb : Nat) (κ : Int → Bool) : Mc := ⟨0, rows, sts.map fun st => prio nb κ st.2⟩
theorem mcOf_ok {N nb : Nat} {κ : Int → Bool} {f : F} {sts : List St2} {rows : List F} (m : MathOk N f nb κ) (B : Built N f sts rows) : (mcOf sts rows nb κ).Ok ∧ ∀ r ∈ rows, r.ht ≤ 3 := by
  have h0 : 0 < sts.length := (List.getElem?_eq_some_iff.mp B.hd).1
  have l := B.len
  have l1 := B.l120
  have key : ∀ r ∈ rows, r.rowOk sts.length false ∧ r.ht ≤ 3 := fun r hr => by
    obtain ⟨i, hi, e⟩ := List.mem_iff_getElem.mp hr
    have hi' : i < sts.length := by omega
    have q := B.row i sts[i] r (List.getElem?_eq_getElem hi') (by rw [List.getElem?_eq_getElem hi, e])
    exact q.ok (m.sk _ (B.un _ (List.getElem_mem hi')).1)
  refine ⟨⟨by show 1 ≤ rows.length; omega, by show rows.length ≤ 400; omega, by show (sts.map _).length = rows.length; rw [List.length_map, l], by show 0 < rows.length; omega, fun r hr => ?_, fun p hp => ?_⟩, fun r hr => (key r hr).2⟩
  · have := key r hr
    rw [← l] at this
    exact ⟨this.1, by omega⟩
  · obtain ⟨st, hst, rfl⟩ := List.mem_map.mp hp
    show prio nb κ st.2 ≤ 200
    have hz := (B.un st hst).2
    have hle := m.bnd.le
    rcases hz with hz | ⟨b, g, hz⟩
    · unfold prio
      rw [if_pos (by omega)]
      omega
    · have hb := m.bnd.of b _ g hz
      have e := prio_val (κ := κ) hb.2.1 hb.2.2
      have : (if κ st.2 then (0 : Int) else 1) ≥ 0 := by split <;> decide
      omega
abbrev ngA (K : PySem.W.Frag) : Addr := He.ga K "NotGuarded"
def spMachineOf (K : PySem.W.Frag) (N : Nat) : Sp := fun vs H Q E => ∃ (a : Addr) (f : F), vs = [.ref a] ∧ FA H f a ∧ f.Closed ∧ f.ht ≤ 3 ∧ (f.gd = false → ∀ H', Same H H' → E (.ref (ngA K)) none H') ∧
  (f.gd = true → ∃ nb κ, MathOk N f nb κ ∧ ∀ b H' sts rows, Same H H' → Built N f sts rows → MAt K H' b (mcOf sts rows nb κ) → Q (.ref b) H')
-- slots of machine_of: 0:statement 1:parts 2:builder
abbrev n_machine_of : List Str := ["statement", "parts", "builder"]
theorem sc_machine_of : FnScope n_machine_of p_machine_of (defScope s_machine_of) := ⟨rfl, rfl, rfl, by decide +kernel, rfl, by decide +kernel, by decide +kernel⟩
theorem ok_machine_of (T : Top w K mg) (N : Nat) : FnOk P w K mg base (L2.CX P w) (N + 30) (He.fAd K a_machine_of) (fdOf K a_machine_of) p_machine_of (spMachineOf K N) := by
  have G_closure := ok_closure (P := P) (base := base) T
  have G_is_guarded := ok_is_guarded (P := P) (base := base) T 12
  have G_Builder_init := ok_Builder_init (P := P) (base := base) T N
  have G_Builder_priorities := ok_Builder_priorities (P := P) (base := base) T N
  have G_Machine_init := ok_Machine_init (P := P) (base := base) T
  obtain ⟨_, h_MOST_CLOSURE⟩ := T.i_MOST_CLOSURE
  refine T.F_machine_of.ok sc_machine_of (fun vs H Q E h => ?_) (fun cdv A outer s H vs Q E hr h => ?_)
  · obtain ⟨a, f, rfl, _⟩ := h
    rfl
  · obtain ⟨a, f, rfl, hf, hc, h3, kn, ky⟩ := h
    refine ⟨_, (pss_cons (ps_set (i := 1) sc_machine_of.nd rfl (Or.inl rfl) (pe_call G_closure (hr.mono (by omega)) rfl T.g_closure T.F_closure.kp T.b_closure .nil pass0 (pa_cons (pv 0) pa_nil)))
    (pss_cons (ps_if (pt_not (pt_val (pe_call G_is_guarded (hr.mono (by omega)) rfl T.g_is_guarded T.F_is_guarded.kp T.b_is_guarded .nil pass0 (pa_cons (pv 0) pa_nil)))) (pss_one (ps_raise rfl (takes_of rfl rfl rfl rfl) (pmk_own PySem.F.excBase_ValueError T.x_NotGuarded.1 T.g_NotGuarded T.x_NotGuarded.2.1 (raises_own T.x_NotGuarded.2.2.1 T.x_NotGuarded.2.2.2) rfl))) pss_nil)
    (pss_cons (ps_if (pt_cmpR op_gt (pe_callB (kc_len K) (by rfl) T.z_len bt_len (pa_cons (pv 1) pa_nil)) (pe_gint (by rfl) h_MOST_CLOSURE) (nomark _)) (pss_one ps_never) pss_nil)
    (pss_cons (ps_set (i := 2) sc_machine_of.nd rfl (Or.inl rfl) (pe_make T.m_Builder (G_Builder_init) (hr.mono (by omega)) (by rfl) T.g_Builder T.b_Builder_init .nil pass0 (pa_cons (pv 0) pa_nil)))
    (pss_one (ps_ret (pe_make T.m_Machine (G_Machine_init) (hr.mono (by omega)) (by rfl) T.g_Machine T.b_Machine_init .nil pass0 (pa_cons pe_int (pa_cons (kpe_fld K (pv 2)) (pa_cons (pe_meth0 (pv 2) T.c_Builder T.t_Builder_priorities G_Builder_priorities (hr.mono (by omega)) T.b_Builder_priorities .nil pass0) pa_nil)))))))))), ?_⟩
    walk_at "go"
    refine ⟨a, f, rfl, hf, hc, h3, fun p as cs H1 np s1 hp has clo => ?_⟩
    walk_at "go"
    refine ⟨a, f, rfl, hf.mono s1, by omega, by omega, fun H2 s2 => ?_⟩
    have s12 := s1.trans s2
    walk_at "go"
    cases hg : f.gd with
    | false =>
      refine iteT ?_
      exact kn hg H2 s12
    | true =>
      obtain ⟨nb, κ, mo, k⟩ := ky hg
      refine iteF ?_
      walk_at "go"
      refine g_len (.inl (SqL.of (s2 _ _ hp))) ?_
      walk_at "go"
      have h15 := clo.len h3
      have hlen := Paired.length has
      rw [List.length_map, ← hlen, show decide (((cs.length : Nat) : Int) > 15) = false from decide_eq_false (by omega)]
      refine iteF ?_
      walk_at "go"
      refine g_make ?_
      walk_at "go"
      intro x dx nx ndx nex
      have sm := same_make (C := He.ga K "Builder") nx ndx
      refine ⟨x, dx, a, f, rfl, upd_same, (hf.mono s12).mono sm, hc, h3, mo.fixB, fun g hg => ⟨3, mo.sk g hg⟩, fun H3 cs' sts rows sx BD => ⟨rfl, ?_⟩⟩
      have s3 : Same H H3 := sx.new_of (s12.free nx) (s12.trans sm)
      obtain ⟨clo', bk, dx', pp, l, d, rl, ks, bs, rs, e0, e1, e2, e3, e4, e5, e6⟩ := id BD
      walk_at "go"
      refine g_make ?_
      walk_at "go"
      refine g_rfld e0 T.c_Builder T.n_Builder_rows rfl ?_
      walk_at "go"
      refine g_rm e0 (by first | rfl | decide +kernel) ?_
      walk_at "go"
      refine ⟨x, f, cs', sts, rows, nb, κ, rfl, BD, h3, mo.bnd.clo clo', fun q H4 nq s4 hq => ?_⟩
      walk_at "go"
      intro y dy ny ndy ney
      have sm4 := same_make (C := He.ga K "Machine") ny ndy
      have s4m := s4.trans sm4
      obtain ⟨mok, _⟩ := mcOf_ok mo bk
      refine ⟨y, dy, rl, q, rs, mcOf sts rows nb κ, false, rfl, upd_same, mok, s4m _ _ e5, e6.mono s4m, sm4 _ _ hq, fun H5 s5 hM => ⟨rfl, ?_⟩⟩
      exact k y H5 sts rows (s5.new_of ((s3.trans s4).free ny) ((s3.trans s4).trans sm4)) bk hM
end
end K22

set_option Elab.async false
set_option linter.all false
set_option maxRecDepth 100000
set_option maxHeartbeats 1000000
namespace K22
open PySem PySem.Spec PyProof.Rows L2
local macro_rules | `(tactic| walk_at "go1") => `(tactic| with_reducible first
  | refine g_seq ?_ | refine g_asg ?_ | refine g_name ?_ | refine g_c ?_ | refine g_op ?_ | refine g_cons ?_ | refine g_nil ?_ | refine g_cb ?_ | refine g_call ?_ | refine g_meth ?_
  | refine g_I0 ?_ | refine g_ret ?_ | refine g_retN ?_ | refine g_drop ?_ | refine g_if ?_ | refine g_test ?_ | refine g_tB ?_ | refine g_bool ?_
  | refine g_not ?_ | refine g_and ?_ | refine g_or ?_ | refine g_yes ?_ | refine g_tup ?_ | refine g_lst ?_ | refine g_slice ?_ | refine g_part ?_ | refine g_nopart ?_ | refine g_int ?_ | refine g_fld ?_ | refine g_dget ?_
  | refine g_din ?_ | refine g_dnotin ?_ | refine g_bm0 ?_ | refine g_bm ?_ | refine g_ifexp ?_ | refine g_andv ?_ | refine g_orv ?_ | refine g_notv ?_ | refine g_chain ?_ | refine g_U ?_ | refine g_next ?_ | refine g_brk ?_ | refine g_cont ?_
  | refine g_sfld ?_ | refine g_sdput ?_ | refine g_gtup ?_ | refine g_gcons ?_ | refine g_gnil ?_ | refine g_gsub ?_ | refine g_forT ?_ | refine g_forL ?_ | refine g_forR ?_ | refine g_lcT ?_ | refine g_lcL ?_ | refine g_lcR ?_ | refine g_un ?_ | refine g_sfa ?_ | refine g_ip ?_ | refine g_nin ?_ | refine g_nnot ?_ | refine g_nget ?_ | refine g_nput ?_ | refine g_ndisp ?_ | refine g_addI ?_ | refine g_subI ?_
  | (show Ends.nx _ _ _; refine g_nxm ?_) | (show Ends.rt _ _ _; refine g_rtm ?_) | (show Ends.bk _ _ _; refine g_bkm ?_) | (show Ends.ct _ _ _; refine g_ctm ?_))
local macro_rules | `(tactic| walk_at "go2") => `(tactic| first
  | ((with_reducible show tVar _ _ _ _); refine g_var rfl ?_)
  | ((with_reducible show rEq _ _ _ _); refine g_eq rfl ?_)
  | ((with_reducible show rNe _ _ _ _); refine g_ne rfl ?_)
  | ((with_reducible show tAug _ _ _ _ _ _); refine g_aug rfl ?_))
local macro_rules | `(tactic| walk_at "go") => `(tactic| repeat (first | walk_at "go1" | walk_at "go2"))
section
variable {P : Program} {w : World} {K : PySem.W.Frag} {mg : Str → Option Value} {base : Heap}
/-! ### positions -/
abbrev Po : Type := Nat × F
def F.parts : F → List F
  | .bin b f g => .bin b f g :: (f.parts ++ g.parts)
  | .mod b l f => .mod b l f :: f.parts
  | .fix b x f => .fix b x f :: f.parts
  | f => [f]
theorem parts_len : ∀ f : F, f.parts.length = f.size
  | .bin _ f g => by
    show (f.parts ++ g.parts).length + 1 = f.size + g.size + 1
    rw [List.length_append, parts_len f, parts_len g]
  | .mod _ _ f => congrArg Nat.succ (parts_len f)
  | .fix _ _ f => congrArg Nat.succ (parts_len f)
  | .const _ => rfl
  | .fact _ _ => rfl
  | .var _ => rfl
theorem parts_self (f : F) : f ∈ f.parts := by cases f <;> exact List.mem_cons_self
theorem parts_kid : ∀ {f g k : F}, g ∈ f.parts → k ∈ g.kids → k ∈ f.parts
  | .bin b f1 f2, g, k, h, hk => by
    rcases List.mem_cons.mp h with e | h
    · subst e
      have hk' : k ∈ [f1, f2] := hk
      refine List.mem_cons_of_mem _ (List.mem_append.mpr ?_)
      rcases List.mem_cons.mp hk' with e | hk'
      · rw [e]
        exact .inl (parts_self f1)
      · rw [List.mem_singleton.mp hk']
        exact .inr (parts_self f2)
    · refine List.mem_cons_of_mem _ (List.mem_append.mpr ?_)
      rcases List.mem_append.mp h with h | h
      · exact .inl (parts_kid h hk)
      · exact .inr (parts_kid h hk)
  | .mod b l f1, g, k, h, hk => by
    rcases List.mem_cons.mp h with e | h
    · subst e
      rw [List.mem_singleton.mp (show k ∈ [f1] from hk)]
      exact List.mem_cons_of_mem _ (parts_self f1)
    · exact List.mem_cons_of_mem _ (parts_kid h hk)
  | .fix b x f1, g, k, h, hk => by
    rcases List.mem_cons.mp h with e | h
    · subst e
      rw [List.mem_singleton.mp (show k ∈ [f1] from hk)]
      exact List.mem_cons_of_mem _ (parts_self f1)
    · exact List.mem_cons_of_mem _ (parts_kid h hk)
  | .const b, g, k, h, hk => by
    rw [List.mem_singleton.mp h] at hk
    cases hk
  | .fact b p, g, k, h, hk => by
    rw [List.mem_singleton.mp h] at hk
    cases hk
  | .var x, g, k, h, hk => by
    rw [List.mem_singleton.mp h] at hk
    cases hk
theorem parts_row : ∀ {f g : F} {n : Nat} {i : Bool}, f.rowOk n i → g ∈ f.parts → ∃ j, g.rowOk n j ∧ g.ht ≤ f.ht
  | .bin b f1 f2, g, n, i, h, hg => by
    rcases List.mem_cons.mp hg with e | hg
    · subst e
      exact ⟨i, h, Nat.le_refl _⟩
    · rcases List.mem_append.mp hg with hg | hg
      · obtain ⟨j, h1, h2⟩ := parts_row h.1 hg
        exact ⟨j, h1, by show g.ht ≤ max f1.ht f2.ht + 1; omega⟩
      · obtain ⟨j, h1, h2⟩ := parts_row h.2 hg
        exact ⟨j, h1, by show g.ht ≤ max f1.ht f2.ht + 1; omega⟩
  | .mod b l f1, g, n, i, h, hg => by
    rcases List.mem_cons.mp hg with e | hg
    · subst e
      exact ⟨i, h, Nat.le_refl _⟩
    · obtain ⟨j, h1, h2⟩ := parts_row (f := f1) (i := true) h hg
      exact ⟨j, h1, by show g.ht ≤ f1.ht + 1; omega⟩
  | .fix b x f1, g, n, i, h, hg => h.elim
  | .const b, g, n, i, h, hg => ⟨i, by rw [List.mem_singleton.mp hg]; exact h, by rw [List.mem_singleton.mp hg]; exact Nat.le_refl _⟩
  | .fact b p, g, n, i, h, hg => ⟨i, by rw [List.mem_singleton.mp hg]; exact h, by rw [List.mem_singleton.mp hg]; exact Nat.le_refl _⟩
  | .var x, g, n, i, h, hg => ⟨i, by rw [List.mem_singleton.mp hg]; exact h, by rw [List.mem_singleton.mp hg]; exact Nat.le_refl _⟩
/-- the parts that may stand in a position -/
def Mc.puni (M : Mc) : List F := (List.range M.rows.length).map (fun (i : Nat) => F.var i) ++ M.rows.flatMap F.parts
def Mc.rowAt (M : Mc) (x : Int) : F := M.rows.getD x.toNat (.const true)
structure PartOk (M : Mc) (g : F) : Prop where
  ht : g.ht ≤ 4
  fx : g.isFix = false
  vr : ∀ x, g = .var x → 0 ≤ x ∧ x.toNat < M.rows.length
theorem puni_ok {M : Mc} (h : M.Ok) {g : F} (hg : g ∈ M.puni) : PartOk M g := by
  rcases List.mem_append.mp hg with hg | hg
  · obtain ⟨i, hi, rfl⟩ := List.mem_map.mp hg
    have := List.mem_range.mp hi
    exact ⟨Nat.zero_le _, rfl, fun x e => by injection e with e; omega⟩
  · obtain ⟨r, hr, hg⟩ := List.mem_flatMap.mp hg
    obtain ⟨j, h1, h2⟩ := parts_row (h.rw_ r hr).1 hg
    have := (h.rw_ r hr).2
    exact ⟨by omega, rowOk_fix h1, fun x e => by subst e; have := h1.2; omega⟩
theorem puni_kid {M : Mc} {g k : F} (hg : g ∈ M.puni) (hk : k ∈ g.kids) : k ∈ M.puni := by
  rcases List.mem_append.mp hg with hg | hg
  · obtain ⟨i, hi, rfl⟩ := List.mem_map.mp hg
    cases hk
  · obtain ⟨r, hr, hg⟩ := List.mem_flatMap.mp hg
    exact List.mem_append_right _ (List.mem_flatMap.mpr ⟨r, hr, parts_kid hg hk⟩)
theorem puni_row {M : Mc} {x : Int} (h : x.toNat < M.rows.length) : M.rowAt x ∈ M.puni :=
  List.mem_append_right _ (List.mem_flatMap.mpr ⟨_, getD_mem h, parts_self _⟩)
theorem flat_le {α β : Type} (g : α → List β) (n : Nat) : ∀ l : List α, (∀ x ∈ l, (g x).length ≤ n) → (l.flatMap g).length ≤ l.length * n
  | [], _ => by simp
  | x :: l, h => by
    have h1 := h x List.mem_cons_self
    have h2 := flat_le g n l fun y hy => h y (List.mem_cons_of_mem _ hy)
    rw [List.flatMap_cons, List.length_append, List.length_cons, Nat.succ_mul]
    omega
theorem puni_len {M : Mc} (h : M.Ok) : M.puni.length ≤ 12800 := by
  have h1 := flat_le F.parts 31 M.rows fun r hr => by
    have e := F.size_le r
    have e2 : 2 ^ (r.ht + 1) ≤ 2 ^ 5 := Nat.pow_le_pow_right (by decide) (by have := (h.rw_ r hr).2; omega)
    rw [parts_len]
    omega
  have := h.n4
  unfold Mc.puni
  rw [List.length_append, List.length_map, List.length_range]
  omega
def PU (W : Wd) (M : Mc) (q : Po) : Prop := q.1 < W.n ∧ q.2 ∈ M.puni
def pun (W : Wd) (M : Mc) : List Po := (List.range W.n).flatMap fun s => M.puni.map fun g => (s, g)
theorem PU.mem {W : Wd} {M : Mc} {q : Po} (h : PU W M q) : q ∈ pun W M := List.mem_flatMap.mpr ⟨q.1, List.mem_range.mpr h.1, List.mem_map.mpr ⟨q.2, h.2, rfl⟩⟩
theorem pun_len {W : Wd} {M : Mc} (hw : W.Ok) (h : M.Ok) : (pun W M).length ≤ 51200 := by
  have h1 := flat_le (fun s => M.puni.map fun g => ((s, g) : Po)) 12800 (List.range W.n) fun s _ => by
    rw [List.length_map]
    exact puni_len h
  have := hw.n4
  rw [List.length_range] at h1
  unfold pun
  omega
def pkey (q : Po) : NestedKey := .tup [.num (q.1 : Nat), q.2.key]
theorem pkey_inj : ∀ x y : Po, pkey x = pkey y → x = y := fun x y h => by
  unfold pkey at h
  injection h with h
  injection h with h1 h
  injection h with h2 h
  injection h1 with h1
  exact Prod.ext (by omega) (key_inj h2)
theorem pkey_depth {q : Po} (h : q.2.ht ≤ 4) : (pkey q).depth ≤ 8 := by
  have e := key_depth q.2
  show max 0 (max q.2.key.depth 0) + 1 ≤ 8
  omega
def PoA (H : Hp) (q : Po) (b : Addr) : Prop := ∃ u, H b = some (.tup [.int (q.1 : Nat), .ref u]) ∧ FA H q.2 u
theorem PoA.monoT {H H' : Hp} {q : Po} {b : Addr} (s : SameT H H') (h : PoA H q b) : PoA H' q b := let ⟨u, e, z⟩ := h; ⟨u, s _ _ e, z.monoT s⟩
theorem PoA.key {H : Hp} {q : Po} {b : Addr} (h : PoA H q b) : KeyV H (pkey q) (.ref b) := let ⟨u, e, z⟩ := h; ⟨b, _, rfl, e, _, _, rfl, rfl, _, _, rfl, z.keyV, rfl⟩
def rF (ma wa l d o p v : Addr) : List (Str × V) := [("machine", .ref ma), ("world", .ref wa), ("positions", .ref l), ("numbers", .ref d), ("owners", .ref o), ("priorities", .ref p), ("moves", .ref v)]
structure RAt (P : Program) (w : World) (K : PySem.W.Frag) (H : Hp) (x ma wa l d o p v : Addr) (W : Wd) (M : Mc) (ps : List Po) : Prop where
  at_ : ∃ dx, H x = some (.ins (He.ga K "Run") dx (rF ma wa l d o p v))
  bs : ∃ bs cs : List Addr, H l = some (.lst (bs.map V.ref)) ∧ Paired (PoA H) ps bs ∧ ps.length = cs.length ∧ NDict P w H d (entI pkey ps cs 0)
  nd : ps.Nodup
  un : ∀ q ∈ ps, PU W M q
  wa_ : WAt K H wa W
  ma_ : MAt K H ma M
theorem RAt.len {H : Hp} {x ma wa l d o p v : Addr} {W : Wd} {M : Mc} {ps : List Po} (R : RAt P w K H x ma wa l d o p v W M ps) : ps.length ≤ 51200 := by
  have h1 := nodup_le R.nd fun q hq => (R.un q hq).mem
  have := pun_len R.wa_.ok R.ma_.ok
  omega
theorem RAt.mono {H H' : Hp} {x ma wa l d o p v : Addr} {W : Wd} {M : Mc} {ps : List Po} (R : RAt P w K H x ma wa l d o p v W M ps) (s : Same H H') : RAt P w K H' x ma wa l d o p v W M ps := by
  obtain ⟨⟨dx, h0⟩, ⟨bs, cs, h1, h2, h3, h4⟩, h5, h6, h7, h8⟩ := R
  exact ⟨⟨dx, s _ _ h0⟩, ⟨bs, cs, s _ _ h1, Paired.mapP h2 fun _ _ z => z.monoT s.t, h3, h4.mono s⟩, h5, h6, h7.mono s, h8.mono s⟩
theorem RAt.t {H H' : Hp} {x ma wa l d o p v : Addr} {W : Wd} {M : Mc} {ps : List Po} (R : RAt P w K H x ma wa l d o p v W M ps) (s : SameB l d H H') : SameT H H' := fun b xs e => by
  obtain ⟨bs, cs, h1, _, _, h2⟩ := R.bs
  exact s b _ (ne_of e h1 fun z => nomatch z) (ne_of e h2.at_ fun z => nomatch z) e
/-- what changes but the positions and the numbers -/
theorem RAt.mutO {H : Hp} {x ma wa l d o p v : Addr} {W : Wd} {M : Mc} {ps : List Po} (R : RAt P w K H x ma wa l d o p v W M ps) {c : Addr} {xs ys : List V} (h : H c = some (.lst xs)) (n : c ≠ l) : RAt P w K (upd H c (.lst ys)) x ma wa l d o p v W M ps := by
  have t : SameT H (upd H c (.lst ys)) := SameT.lst h
  obtain ⟨⟨dx, h0⟩, ⟨bs, cs, h1, h2, h3, h4⟩, h5, h6, h7, h8⟩ := R
  have nx : x ≠ c := ne_of h0 h fun z => nomatch z
  have nd : d ≠ c := ne_of h4.at_ h fun z => nomatch z
  obtain ⟨d1, f1, e1⟩ := h7.some
  obtain ⟨d2, f2, e2⟩ := h8.some
  have nw : wa ≠ c := ne_of e1 h fun z => nomatch z
  have nm : ma ≠ c := ne_of e2 h fun z => nomatch z
  exact ⟨⟨dx, by rw [upd_ne nx]; exact h0⟩, ⟨bs, cs, by rw [upd_ne n.symm]; exact h1, Paired.mapP h2 fun _ _ z => z.monoT t, h3, h4.monoS t (upd_ne nd)⟩, h5, h6, h7.monoS t (upd_ne nw), h8.monoS t (upd_ne nm)⟩
def spRunNum (P : Program) (w : World) (K : PySem.W.Frag) : Sp := fun vs H Q _ => ∃ (x ma wa l d o p v b : Addr) (W : Wd) (M : Mc) (ps : List Po) (s : Nat) (g : F), vs = [.ref x, .int (s : Nat), .ref b] ∧ RAt P w K H x ma wa l d o p v W M ps ∧ FA H g b ∧ PU W M (s, g) ∧
  ∀ (i : Nat) H' ps', SameB l d H H' → RAt P w K H' x ma wa l d o p v W M ps' → ps <+: ps' → ps'[i]? = some (s, g) → Q (.int (i : Nat)) H'
-- slots of Run.number: 0:self 1:state 2:part
abbrev n_Run_number : List Str := ["self", "state", "part"]
theorem sc_Run_number : FnScope n_Run_number p_Run_number (defScope s_Run_number) := ⟨rfl, rfl, rfl, by decide +kernel, rfl, by decide +kernel, by decide +kernel⟩
theorem ok_Run_number (T : Top w K mg) : Ok P w K mg base 1 a_Run_number p_Run_number (spRunNum P w K) := by
  refine T.F_Run_number.ok sc_Run_number (fun vs H Q E h => ?_) (fun cdv A outer s H vs Q E hr h => ?_)
  · obtain ⟨x, ma, wa, l, d, o, p, v, b, W, M, ps, s, g, rfl, _⟩ := h
    rfl
  · obtain ⟨x, ma, wa, l, d, o, p, v, b, W, M, ps, s', g, rfl, R, hb, hpu, k⟩ := h
    have hu : (A.deeper (envOfC "Run.number" (defScope s_Run_number) s.heap.objs.size (He.fAd K a_Run_number) cdv)).units + 64 < cLine := hr.units
    refine ⟨_, PSs.nox (pss_cons (ps_if (pt_cmp (pc_nnotin P w hu (pe_tup (pa_cons (pv 1) (pa_cons (pv 2) pa_nil))) (kpe_fld K (pv 0)))) (pss_cons (ps_nput P w hu (kpe_fld K (pv 0)) (pe_tup (pa_cons (pv 1) (pa_cons (pv 2) pa_nil))) (pe_callB (kc_len K) (by rfl) T.z_len bt_len (pa_cons (kpe_fld K (pv 0)) pa_nil)) rfl)
      (pss_one (ps_expr (kpe_app K (kpe_fld K (pv 0)) (pe_tup (pa_cons (pv 1) (pa_cons (pv 2) pa_nil))))))) pss_nil)
    (pss_one (ps_ret (pe_nget P w hu (kpe_fld K (pv 0)) (pe_tup (pa_cons (pv 1) (pa_cons (pv 2) pa_nil))) (fun _ _ => rfl))))), ?_⟩
    have hlen := R.len
    obtain ⟨⟨dx, e0⟩, ⟨bs, cs, e1, e2, e3, e4⟩, nd, un, hw, hm⟩ := id R
    have hd6 : (pkey (s', g)).depth ≤ 8 := pkey_depth (puni_ok hm.ok hpu.2).ht
    have hbl := Paired.length e2
    walk_at "go"
    refine g_newT 2 rfl (by decide) fun q1 hq1 => ?_
    have s1 := same_new (o := .tup [.int (s' : Nat), .ref b]) hq1
    have k1 : PoA (upd H q1 (.tup [.int (s' : Nat), .ref b])) (s', g) q1 := ⟨b, upd_same, hb.mono s1⟩
    generalize upd H q1 (.tup [.int (s' : Nat), .ref b]) = H1 at s1 k1 ⊢
    walk_at "go"
    refine g_rfld (s1 _ _ e0) T.c_Run T.n_Run_numbers rfl ?_
    walk_at "go"
    refine g_rnn (e4.mono s1) k1.key hd6 ?_
    walk_at "go"
    by_cases hin : (s', g) ∈ ps
    · obtain ⟨j, hj, hv⟩ := entI_some pkey_inj 0 e3 hin
      rw [hv]
      refine iteF ?_
      walk_at "go"
      obtain ⟨⟨dx', f0⟩, ⟨bs', cs', f1, f2, f3, f4⟩, _⟩ := id R.mono s1
      obtain ⟨j, hj, hv'⟩ := entI_some pkey_inj 0 f3 hin
      refine g_rfld f0 T.c_Run T.n_Run_numbers rfl ?_
      walk_at "go"
      refine g_newT 2 rfl (by decide) fun q4 hq4 => ?_
      have s4 := same_new (o := .tup [.int (s' : Nat), .ref b]) hq4
      have k4 : PoA (upd H1 q4 (.tup [.int (s' : Nat), .ref b])) (s', g) q4 := ⟨b, upd_same, (hb.mono s1).mono s4⟩
      refine g_rng (f4.mono s4) k4.key hd6 hv' ?_
      rw [Nat.zero_add]
      exact k j _ _ ((SameB.of s1).trans (SameB.of s4)) ((R.mono s1).mono s4) (List.prefix_refl _) hj
    · have hv := entI_none pkey_inj (bs := cs) 0 hin
      rw [hv]
      refine iteT ?_
      walk_at "go"
      refine g_rfld (s1 _ _ e0) T.c_Run T.n_Run_positions rfl ?_
      walk_at "go"
      refine g_len (.inl (SqL.of (s1 _ _ e1))) ?_
      walk_at "go"
      refine g_rfld (s1 _ _ e0) T.c_Run T.n_Run_numbers rfl ?_
      walk_at "go"
      refine g_newT 2 rfl (by decide) fun q2 hq2 => ?_
      have s2 := s1.trans (same_new (o := .tup [.int (s' : Nat), .ref b]) hq2)
      have k2 : PoA (upd H1 q2 (.tup [.int (s' : Nat), .ref b])) (s', g) q2 := ⟨b, upd_same, (hb.mono s1).mono (same_new hq2)⟩
      generalize upd H1 q2 (.tup [.int (s' : Nat), .ref b]) = H2 at s2 k2 ⊢
      walk_at "go"
      refine g_rnp (e4.mono s2) k2.key hd6 hv (lt_line (by rw [entI_len pkey 0 e3]; omega)) ?_
      walk_at "go"
      rw [List.length_map, ← hbl]
      have ndd := (e4.mono s2).put (v := V.int (ps.length : Nat)) k2.key hd6
      have xd : x ≠ d := ne_of e0 e4.at_ fun z => nomatch z
      have xl : x ≠ l := ne_of e0 e1 fun z => nomatch z
      have ld : l ≠ d := ne_of e1 e4.at_ fun z => nomatch z
      have sB3 : SameB l d H (upd H2 d (DNo P w d (entI pkey ps cs 0 ++ [(pkey (s', g), q2, V.int (ps.length : Nat))]))) := (SameB.of s2).trans SameB.put
      have t3 : SameT H2 (upd H2 d (DNo P w d (entI pkey ps cs 0 ++ [(pkey (s', g), q2, V.int (ps.length : Nat))]))) := (e4.mono s2).t
      have e13 : upd H2 d (DNo P w d (entI pkey ps cs 0 ++ [(pkey (s', g), q2, V.int (ps.length : Nat))])) l = some (.lst (bs.map V.ref)) := by rw [upd_ne ld]; exact s2 _ _ e1
      generalize upd H2 d (DNo P w d (entI pkey ps cs 0 ++ [(pkey (s', g), q2, V.int (ps.length : Nat))])) = H3 at ndd sB3 t3 e13 ⊢
      refine g_rfld (sB3 _ _ xl xd e0) T.c_Run T.n_Run_positions rfl ?_
      walk_at "go"
      refine g_tyL (SqL.of e13) ?_
      walk_at "go"
      refine g_newT 2 rfl (by decide) fun q3 hq3 => ?_
      have s4 := same_new (o := .tup [.int (s' : Nat), .ref b]) hq3
      have tT : SameT H H3 := s2.t.trans t3
      have k3 : PoA (upd H3 q3 (.tup [.int (s' : Nat), .ref b])) (s', g) q3 := ⟨b, upd_same, (hb.monoT tT).mono s4⟩
      have e14 := s4 _ _ e13
      have ndd4 := ndd.mono s4
      have sB4 := sB3.trans (SameB.of s4)
      have tT4 := tT.trans s4.t
      generalize upd H3 q3 (.tup [.int (s' : Nat), .ref b]) = H4 at k3 e14 ndd4 sB4 tT4 ⊢
      walk_at "go"
      refine g_app e14 (lt_line (by rw [List.length_map, ← hbl]; omega)) ?_
      have t5 : SameT H4 (upd H4 l (.lst (bs.map V.ref ++ [V.ref q3]))) := SameT.lst e14
      have sB5 := sB4.trans (SameB.putL (l := l) (d := d) (o := .lst (bs.map V.ref ++ [V.ref q3])))
      have R5 : RAt P w K (upd H4 l (.lst (bs.map V.ref ++ [V.ref q3]))) x ma wa l d o p v W M (ps ++ [(s', g)]) := by
        obtain ⟨dw, fw, ew⟩ := hw.some
        obtain ⟨dm, fm, em⟩ := hm.some
        have wl : wa ≠ l := ne_of ew e1 fun z => nomatch z
        have wd : wa ≠ d := ne_of ew e4.at_ fun z => nomatch z
        have ml : ma ≠ l := ne_of em e1 fun z => nomatch z
        have md : ma ≠ d := ne_of em e4.at_ fun z => nomatch z
        refine ⟨⟨dx, sB5 _ _ xl xd e0⟩, ⟨bs ++ [q3], cs ++ [q2], by rw [upd_same, List.map_append]; rfl, Pd.snoc (k3.monoT t5) (Paired.mapP e2 fun _ _ z => z.monoT (tT4.trans t5)), by rw [List.length_append, List.length_append, e3]; rfl, ?_⟩, nodup_snoc nd hin, fun z hz => ?_, hw.monoS (tT4.trans t5) ?_, hm.monoS (tT4.trans t5) ?_⟩
        · have := entI_snoc pkey (s', g) q2 0 e3
          rw [Nat.zero_add] at this
          rw [this]
          exact ndd4.monoS t5 (upd_ne ld.symm)
        · rcases List.mem_append.mp hz with h | h
          · exact un z h
          · rw [List.mem_singleton.mp h]
            exact hpu
        · rw [sB5 _ _ wl wd ew, ew]
        · rw [sB5 _ _ ml md em, em]
      have hb5 := hb.monoT (tT4.trans t5)
      generalize upd H4 l (.lst (bs.map V.ref ++ [V.ref q3])) = H5 at R5 sB5 hb5 ⊢
      walk_at "go"
      obtain ⟨⟨dx', f0⟩, ⟨bs', cs', f1, f2, f3, f4⟩, _⟩ := id R5
      obtain ⟨j, hj, hv'⟩ := entI_some pkey_inj 0 f3 (List.mem_append_right _ List.mem_cons_self)
      refine g_rfld f0 T.c_Run T.n_Run_numbers rfl ?_
      walk_at "go"
      refine g_newT 2 rfl (by decide) fun q4 hq4 => ?_
      have s4 := same_new (o := .tup [.int (s' : Nat), .ref b]) hq4
      have k4 : PoA (upd H5 q4 (.tup [.int (s' : Nat), .ref b])) (s', g) q4 := ⟨b, upd_same, (hb5).mono s4⟩
      refine g_rng (f4.mono s4) k4.key hd6 hv' ?_
      rw [Nat.zero_add]
      exact k j _ _ ((sB5).trans (SameB.of s4)) ((R5).mono s4) (List.prefix_append _ _) hj
end
end K22

set_option Elab.async false
set_option linter.all false
set_option maxRecDepth 100000
set_option maxHeartbeats 1000000
namespace K22
open PySem PySem.Spec PyProof.Rows L2
local macro_rules | `(tactic| walk_at "go1") => `(tactic| with_reducible first
  | refine g_seq ?_ | refine g_asg ?_ | refine g_name ?_ | refine g_c ?_ | refine g_op ?_ | refine g_cons ?_ | refine g_nil ?_ | refine g_cb ?_ | refine g_call ?_ | refine g_meth ?_
  | refine g_I0 ?_ | refine g_ret ?_ | refine g_retN ?_ | refine g_drop ?_ | refine g_if ?_ | refine g_test ?_ | refine g_tB ?_ | refine g_bool ?_
  | refine g_not ?_ | refine g_and ?_ | refine g_or ?_ | refine g_yes ?_ | refine g_tup ?_ | refine g_lst ?_ | refine g_slice ?_ | refine g_part ?_ | refine g_nopart ?_ | refine g_int ?_ | refine g_fld ?_ | refine g_dget ?_
  | refine g_din ?_ | refine g_dnotin ?_ | refine g_bm0 ?_ | refine g_bm ?_ | refine g_ifexp ?_ | refine g_andv ?_ | refine g_orv ?_ | refine g_notv ?_ | refine g_chain ?_ | refine g_U ?_ | refine g_next ?_ | refine g_brk ?_ | refine g_cont ?_
  | refine g_sfld ?_ | refine g_sdput ?_ | refine g_gtup ?_ | refine g_gcons ?_ | refine g_gnil ?_ | refine g_gsub ?_ | refine g_forT ?_ | refine g_forL ?_ | refine g_forR ?_ | refine g_lcT ?_ | refine g_lcL ?_ | refine g_lcR ?_ | refine g_un ?_ | refine g_sfa ?_ | refine g_ip ?_ | refine g_nin ?_ | refine g_nnot ?_ | refine g_nget ?_ | refine g_nput ?_ | refine g_ndisp ?_ | refine g_addI ?_ | refine g_subI ?_
  | (show Ends.nx _ _ _; refine g_nxm ?_) | (show Ends.rt _ _ _; refine g_rtm ?_) | (show Ends.bk _ _ _; refine g_bkm ?_) | (show Ends.ct _ _ _; refine g_ctm ?_))
local macro_rules | `(tactic| walk_at "go2") => `(tactic| first
  | ((with_reducible show tVar _ _ _ _); refine g_var rfl ?_)
  | ((with_reducible show rEq _ _ _ _); refine g_eq rfl ?_)
  | ((with_reducible show rNe _ _ _ _); refine g_ne rfl ?_)
  | ((with_reducible show tAug _ _ _ _ _ _); refine g_aug rfl ?_))
local macro_rules | `(tactic| walk_at "go") => `(tactic| repeat (first | walk_at "go1" | walk_at "go2"))
section
variable {P : Program} {w : World} {K : PySem.W.Frag} {mg : Str → Option Value} {base : Heap}
/-! ### Run.add -/
def Wd.own (W : Wd) (q : Po) : Bool := match q.2 with
  | .var _ => false
  | .mod b _ _ => b
  | .bin b _ _ => b
  | f => W.plain q.1 f
def Mc.pri (M : Mc) : F → Nat
  | .var x => M.pr.getD x.toNat 0
  | _ => 0
def succ (W : Wd) (M : Mc) (q : Po) : List Po := match q.2 with
  | .var x => [(q.1, M.rowAt x)]
  | .mod _ l g => (W.foll q.1 l).map fun t => (t, g)
  | .bin _ f g => [(q.1, f), (q.1, g)]
  | _ => []
structure MvS (W : Wd) (M : Mc) (ps : List Po) (q : Po) (mv : List Nat) : Prop where
  a : ∀ j ∈ mv, ∃ t ∈ succ W M q, ps[j]? = some t
  b : ∀ t ∈ succ W M q, ∃ j ∈ mv, ps[j]? = some t
theorem MvS.mono {W : Wd} {M : Mc} {ps ps' : List Po} {q : Po} {mv : List Nat} (h : MvS W M ps q mv) (pre : ps <+: ps') : MvS W M ps' q mv :=
  ⟨fun j hj => let ⟨t, h1, h2⟩ := h.a j hj; ⟨t, h1, pre_get pre h2⟩, fun t ht => let ⟨j, h1, h2⟩ := h.b t ht; ⟨j, h1, pre_get pre h2⟩⟩
structure GOk (W : Wd) (M : Mc) (ps : List Po) (os : List Bool) (prs : List Nat) (mvs : List (List Nat)) (k : Nat) : Prop where
  l1 : os.length = k
  l2 : prs.length = k
  l3 : mvs.length = k
  ow : ∀ (i : Nat) (q : Po), i < k → ps[i]? = some q → os[i]? = some (W.own q)
  pr : ∀ (i : Nat) (q : Po), i < k → ps[i]? = some q → prs[i]? = some (M.pri q.2)
  mv : ∀ (i : Nat) (q : Po) (m : List Nat), ps[i]? = some q → mvs[i]? = some m → MvS W M ps q m ∧ m.Pairwise (· < ·)
def bN (b : Bool) : Int := if b then 1 else 0
structure GAt (H : Hp) (l o p v : Addr) (os : List Bool) (prs : List Nat) (mvs : List (List Nat)) (as : List Addr) : Prop where
  ho : H o = some (.lst (os.map fun b => V.int (bN b)))
  hp : H p = some (.lst (prs.map fun (n : Nat) => V.int n))
  hv : H v = some (.lst (as.map V.ref))
  hm : Paired (fun (m : List Nat) a => H a = some (.lst (m.map fun (n : Nat) => V.int n))) mvs as
  dis : o ≠ l ∧ p ≠ l ∧ v ≠ l ∧ o ≠ p ∧ o ≠ v ∧ p ≠ v
  off : ∀ a ∈ as, a ≠ l ∧ a ≠ o ∧ a ≠ p ∧ a ≠ v
def SameA (l d o p v : Addr) (H H' : Hp) : Prop := ∀ b u, b ≠ l → b ≠ d → b ≠ o → b ≠ p → b ≠ v → H b = some u → H' b = some u
theorem g_tail {a b c i U : TS} {D : Ends} {σ : L2.St} {H : Hp} (Pt : L2.St → Hp → Prop) (h1 : ∀ U' : TS, (∀ σ' H', Pt σ' H' → U' D σ' H') → tSeq a (tSeq b (tSeq c (tSeq i U'))) D σ H) (h2 : ∀ σ' H', Pt σ' H' → U D σ' H') : tSeq a (tSeq b (tSeq c (tSeq i U))) D σ H := h1 U h2
theorem Pd.map_mem {α β : Type} {R R' : α → β → Prop} : ∀ {l : List α} {m : List β}, Paired R l m → (∀ x y, y ∈ m → R x y → R' x y) → Paired R' l m
  | _, _, .nil, _ => .nil
  | _, _, .cons a b, h => .cons (h _ _ List.mem_cons_self a) (Pd.map_mem b fun x y hy => h x y (List.mem_cons_of_mem _ hy))
theorem GAt.sameB {H H' : Hp} {l d o p v : Addr} {os : List Bool} {prs : List Nat} {mvs : List (List Nat)} {as : List Addr} (G : GAt H l o p v os prs mvs as) (s : SameB l d H H') (hd : ∀ xs, H d ≠ some (.lst xs)) : GAt H' l o p v os prs mvs as := by
  obtain ⟨h1, h2, h3, h4, ⟨d1, d2, d3, d4⟩, h6⟩ := G
  refine ⟨s _ _ d1 (fun e => hd _ (e ▸ h1)) h1, s _ _ d2 (fun e => hd _ (e ▸ h2)) h2, s _ _ d3 (fun e => hd _ (e ▸ h3)) h3, Pd.map_mem h4 fun m a ha hma => s _ _ (h6 a ha).1 (fun e => hd _ (e ▸ hma)) hma, ⟨d1, d2, d3, d4⟩, h6⟩
theorem RAt.fresh {H H' : Hp} {x ma wa l d o p v : Addr} {W : Wd} {M : Mc} {ps : List Po} (R : RAt P w K H' x ma wa l d o p v W M ps) (s : SameB l d H H') {t : Addr} (h : H' t = none) : H t = none := by
  obtain ⟨bs, cs, h1, _, _, h2⟩ := R.bs
  cases e : H t with
  | none => rfl
  | some u =>
    rw [s t u (fun z => by rw [z, h1] at h; cases h) (fun z => by rw [z, h2.at_] at h; cases h) e] at h
    cases h
theorem kc_setL {X : Cx} (K : PySem.W.Frag) (w : World) (hc : X.calm = true := by rfl) (h : X.K = K := by rfl) (hw : X.w = w := by rfl) : CallR X (.type "set") (rSetL K w) := by
  subst h hw
  exact cr_setL hc
theorem kc_sortedSet {X : Cx} (w : World) (hc : X.calm = true := by rfl) (hw : X.w = w := by rfl) : CallR X (.builtin "sorted") (rSortedSet w) := by
  subst hw
  exact cr_sortedSet hc
def spAdd (P : Program) (w : World) (K : PySem.W.Frag) : Sp := fun vs H Q _ => ∃ (x ma wa l d o p v b : Addr) (W : Wd) (M : Mc) (ps : List Po) (s : Nat) (g : F) (os : List Bool) (prs : List Nat) (mvs : List (List Nat)) (as : List Addr) (k : Nat),
  vs = [.ref x, .int (s : Nat), .ref b] ∧ RAt P w K H x ma wa l d o p v W M ps ∧ FA H g b ∧ ps[k]? = some (s, g) ∧ GAt H l o p v os prs mvs as ∧ GOk W M ps os prs mvs k ∧
  ∀ H' ps' os' prs' mvs' as', SameA l d o p v H H' → RAt P w K H' x ma wa l d o p v W M ps' → ps <+: ps' → GAt H' l o p v os' prs' mvs' as' → GOk W M ps' os' prs' mvs' (k + 1) → Q .non H'
theorem var_ex {g : F} (h : g.isVar = true) : ∃ y, g = .var y := by cases g <;> first | exact ⟨_, rfl⟩ | cases h
theorem mod_ex {g : F} (h : g.isMod = true) : ∃ c l k, g = .mod c l k := by cases g <;> first | exact ⟨_, _, _, rfl⟩ | cases h
theorem bin_ex {g : F} (h : g.isBin = true) : ∃ c j k, g = .bin c j k := by cases g <;> first | exact ⟨_, _, _, rfl⟩ | cases h
theorem fix_ex {g : F} (h : g.isFix = true) : ∃ c j k, g = .fix c j k := by cases g <;> first | exact ⟨_, _, _, rfl⟩ | cases h
theorem foll_lt {W : Wd} (h : W.Ok) {s : Nat} {l : Int} {t : Nat} (ht : t ∈ W.foll s l) : t < W.n := by
  obtain ⟨q, hq, rfl⟩ := List.mem_map.mp ht
  exact (h.sp q (List.mem_filter.mp hq).1).2.1
theorem foll_len {W : Wd} (h : W.Ok) (s : Nat) (l : Int) : (W.foll s l).length ≤ 32 := by
  unfold Wd.foll
  rw [List.length_map]
  exact Nat.le_trans (List.length_filter_le _ _) h.sl
-- slots of Run.add: 0:self* 1:state 2:part* 3:kind 4:priority 5:owner 6:targets 7:other
abbrev n_Run_add : List Str := ["self", "state", "part", "kind", "priority", "owner", "targets", "other"]
theorem sc_Run_add : FnScope n_Run_add p_Run_add (defScope s_Run_add) := ⟨rfl, rfl, rfl, by decide +kernel, rfl, by decide +kernel, by decide +kernel⟩
theorem ok_Run_add (T : Top w K mg) : Ok P w K mg base 3 a_Run_add p_Run_add (spAdd P w K) := by
  have G_Run_number := ok_Run_number (P := P) (base := base) T
  have G_followers := ok_followers (P := P) (base := base) T
  have G_is_plain_true := ok_is_plain_true (P := P) (base := base) T
  refine T.F_Run_add.ok sc_Run_add (fun vs H Q E h => ?_) (fun cdv A outer s H vs Q E hr h => ?_)
  · obtain ⟨x, ma, wa, l, d, o, p, v, b, W, M, ps, s, g, os, prs, mvs, as, k, rfl, _⟩ := h
    rfl
  · obtain ⟨x, ma, wa, l, d, o, p, v, b, W, M, ps, s', g, os, prs, mvs, as, k, rfl, R, hb, hk, G, GO', kk⟩ := h
    refine ⟨_, PSs.nox (pss_cons (ps_set (i := 3) sc_Run_add.nd rfl (Or.inl rfl) (pe_ix (ki_tup K) (pv 2) pe_int (fun _ _ => rfl)))
    (pss_cons (ps_set (i := 4) sc_Run_add.nd rfl (Or.inl rfl) pe_int)
    (pss_cons (ps_set (i := 5) sc_Run_add.nd rfl (Or.inl rfl) pe_int)
    (pss_cons (ps_if (pt_cmpR op_eq (pv 3) pe_str (nomark _)) (pss_cons (ps_set (i := 4) sc_Run_add.nd rfl (Or.inl rfl) (pe_ix (ki_tup K) (kpe_fld K (kpe_fld K (pv 0))) (pe_ix (ki_tup K) (pv 2) pe_int (fun _ _ => rfl)) (fun _ _ => rfl)))
      (pss_one (ps_set (i := 6) sc_Run_add.nd rfl (Or.inl rfl) (pe_lst (pa_cons (pe_meth (pv 0) T.c_Run T.t_Run_number G_Run_number (hr.mono (by omega)) T.b_Run_number .nil pass0 (pa_cons (pv 1) (pa_cons (pe_ix (ki_tup K) (kpe_fld K (kpe_fld K (pv 0))) (pe_ix (ki_tup K) (pv 2) pe_int (fun _ _ => rfl)) (fun _ _ => rfl)) pa_nil))) pa_nil))))) (pss_one (ps_if (pt_cmpR (ko_in K) (pv 3) (pe_tup (pa_cons pe_str (pa_cons pe_str pa_nil))) (by rfl)) (pss_cons (ps_set (i := 5) sc_Run_add.nd rfl (Or.inl rfl) (pe_callTy (call_int1) (by rfl) T.z_int bt_int (pa_cons (pe_cmpR op_eq (pv 3) pe_str (nomark _)) pa_nil)))
        (pss_one (ps_setLc (i := 6) (own := [("other", 7)]) (g := gName 7) (tt := tYes) rfl sc_Run_add.nd rfl rfl (sw_true rfl rfl rfl (by decide +kernel)) (kpi_list K (pe_call G_followers (hr.mono (by omega)) rfl T.g_followers T.F_followers.kp T.b_followers .nil pass0 (pa_cons (kpe_fld K (pv 0)) (pa_cons (pv 1) (pa_cons (pe_ix (ki_tup K) (pv 2) pe_int (fun _ _ => rfl)) pa_nil))))) (blkOk_by (N := n_Run_add) (sc := (defScope s_Run_add)) (by decide +kernel)) (fun _ _ _ _ _ => (pg_name (i := 7) sc_Run_add.nd rfl (Or.inl rfl))) (fun _ _ _ _ _ => pts_nil) (fun _ _ _ _ _ => (pe_meth (pv 0) T.c_Run T.t_Run_number G_Run_number (hr.mono (by omega)) T.b_Run_number .nil pass0 (pa_cons (pv 7) (pa_cons (pe_ix (ki_tup K) (pv 2) pe_int (fun _ _ => rfl)) pa_nil))))))) (pss_one (ps_if (pt_cmpR (ko_in K) (pv 3) (pe_tup (pa_cons pe_str (pa_cons pe_str pa_nil))) (by rfl)) (pss_cons (ps_set (i := 5) sc_Run_add.nd rfl (Or.inl rfl) (pe_callTy (call_int1) (by rfl) T.z_int bt_int (pa_cons (pe_cmpR op_eq (pv 3) pe_str (nomark _)) pa_nil)))
          (pss_one (ps_set (i := 6) sc_Run_add.nd rfl (Or.inl rfl) (pe_lst (pa_cons (pe_meth (pv 0) T.c_Run T.t_Run_number G_Run_number (hr.mono (by omega)) T.b_Run_number .nil pass0 (pa_cons (pv 1) (pa_cons (pe_ix (ki_tup K) (pv 2) pe_int (fun _ _ => rfl)) pa_nil))) (pa_cons (pe_meth (pv 0) T.c_Run T.t_Run_number G_Run_number (hr.mono (by omega)) T.b_Run_number .nil pass0 (pa_cons (pv 1) (pa_cons (pe_ix (ki_tup K) (pv 2) pe_int (fun _ _ => rfl)) pa_nil))) pa_nil)))))) (pss_cons (ps_set (i := 5) sc_Run_add.nd rfl (Or.inl rfl) (pe_callTy (call_int1) (by rfl) T.z_int bt_int (pa_cons (pe_call G_is_plain_true (hr.mono (by omega)) rfl T.g_is_plain_true T.F_is_plain_true.kp T.b_is_plain_true .nil pass0 (pa_cons (kpe_fld K (pv 0)) (pa_cons (pv 1) (pa_cons (pv 2) pa_nil)))) pa_nil)))
          (pss_one (ps_set (i := 6) sc_Run_add.nd rfl (Or.inl rfl) (pe_lst pa_nil)))))))))
    (pss_cons (ps_expr (kpe_app K (kpe_fld K (pv 0)) (pv 5)))
    (pss_cons (ps_expr (kpe_app K (kpe_fld K (pv 0)) (pv 4)))
    (pss_one (ps_expr (kpe_app K (kpe_fld K (pv 0)) (pe_callB (kc_sortedSet w) (by rfl) T.z_sorted bt_sorted (pa_cons (pe_callTy (kc_setL K w) (by rfl) T.z_set bt_set (pa_cons (pv 6) pa_nil)) pa_nil))))))))))), ?_⟩
    have hpu := R.un _ (List.mem_of_getElem? hk)
    have hw := R.wa_
    have hm := R.ma_
    have hpo := puni_ok hm.ok hpu.2
    obtain ⟨⟨dx, e0⟩, ⟨bs, cs, e1, e2, e3, e4⟩, nd, un, _, _⟩ := id R
    obtain ⟨ys, ey, _⟩ := hb.tup
    have hdl : ∀ xs, H d ≠ some (.lst xs) := fun xs e => by
      rw [e4.at_] at e
      cases e
    refine g_tail (fun σ' H' => ∃ ps' tg ts v7, σ' = [some (.ref x), some (.int (s' : Nat)), some (.ref b), some (.str g.kind), some (.int (M.pri g : Nat)), some (.int (bN (W.own (s', g)))), some (.ref tg), v7] ∧ SameB l d H H' ∧ RAt P w K H' x ma wa l d o p v W M ps' ∧ ps <+: ps' ∧
      H tg = none ∧ H' tg = some (.lst (ts.map fun (n : Nat) => V.int n)) ∧ ts.length < 60 ∧ MvS W M ps' (s', g) ts) (fun U hU => ?_) (fun σ' H' hP => ?_)
    · walk_at "go"
      refine g_ixT (SqT.of ey) at0 ?_
      walk_at "go"
      refine iteB (k_var g) (fun hv => ?_) (fun hv => ?_)
      · obtain ⟨y, rfl⟩ := var_ex hv
        have hy := hpo.vr y rfl
        have ey' : H b = some (.tup [.str "var", .int y]) := hb
        obtain ⟨mok, dm, rt, pt, rs, m1, m2, m3, m4⟩ := id hm
        have hpr : M.pr[y.toNat]? = some (M.pri (.var y)) := by
          have := mok.pl
          show _ = some (M.pr.getD y.toNat 0)
          rw [List.getD_eq_getElem?_getD, List.getElem?_eq_getElem (by omega)]
          rfl
        have hrow : M.rows[y.toNat]? = some (M.rowAt y) := by
          show _ = some (M.rows.getD y.toNat (.const true))
          rw [List.getD_eq_getElem?_getD, List.getElem?_eq_getElem hy.2]
          rfl
        obtain ⟨ra, hra, hrf⟩ := Pd.get' m3 hrow
        have eyn : y = ((y.toNat : Nat) : Int) := by omega
        walk_at "go"
        refine g_rfld e0 T.c_Run T.n_Run_machine rfl ?_
        walk_at "go"
        refine g_rfld m1 T.c_Machine T.n_Machine_priorities rfl ?_
        walk_at "go"
        refine g_ixT (SqT.of ey') at1 ?_
        walk_at "go"
        refine g_ixT (SqT.of m4) (by rw [eyn]; exact atI_nat (by rw [List.getElem?_map, hpr]; rfl)) ?_
        walk_at "go"
        refine g_rm e0 rfl ?_
        walk_at "go"
        refine g_rfld e0 T.c_Run T.n_Run_machine rfl ?_
        walk_at "go"
        refine g_rfld m1 T.c_Machine T.n_Machine_rows rfl ?_
        walk_at "go"
        refine g_ixT (SqT.of ey') at1 ?_
        walk_at "go"
        refine g_ixT (SqT.of m2) (by rw [eyn]; exact atI_nat (by rw [List.getElem?_map, hra]; rfl)) ?_
        walk_at "go"
        refine ⟨x, ma, wa, l, d, o, p, v, ra, W, M, ps, s', _, rfl, R, hrf, ⟨hpu.1, puni_row hy.2⟩, fun i H1 ps1 sB R1 pre hi => ?_⟩
        walk_at "go"
        refine g_newL 1 rfl (by decide) fun tg htg => ?_
        have s2 := same_new (o := .lst [.int (i : Nat)]) htg
        walk_at "go"
        refine hU _ _ ⟨ps1, tg, [i], _, rfl, sB.trans (SameB.of s2), R1.mono s2, pre, R1.fresh sB htg, upd_same, by show 1 < 60; decide, fun j hj => ⟨_, List.mem_cons_self, by rw [List.mem_singleton.mp hj]; exact hi⟩, fun t ht => ⟨i, List.mem_cons_self, by rw [List.mem_singleton.mp ht]; exact hi⟩⟩
      · walk_at "go"
        refine g_newT 2 rfl (by decide) fun q1 hq1 => ?_
        have s1 := same_new (o := .tup [.str "some", .str "all"]) hq1
        refine g_inT (SqT.of upd_same) rfl rfl ?_
        generalize upd H q1 (.tup [.str "some", .str "all"]) = H1 at s1 ⊢
        walk_at "go"
        refine iteB (k_mod g) (fun hmo => ?_) (fun hmo => ?_)
        · obtain ⟨c, lb, g, rfl⟩ := mod_ex hmo
          obtain ⟨u, ey', hgu⟩ := id hb
          walk_at "go"
          refine .inr ⟨_, rfl, ?_⟩
          walk_at "go"
          refine g_rfld (s1 _ _ e0) T.c_Run T.n_Run_world rfl ?_
          walk_at "go"
          refine g_ixT (SqT.of (s1 _ _ ey')) at1 ?_
          walk_at "go"
          refine ⟨wa, W, s', lb, rfl, hw.mono s1, fun fl H2 nfl s2 hfl => ?_⟩
          have s12 := s1.trans s2
          have nfl0 := s1.free nfl
          have flen := foll_len hw.ok s' lb
          refine g_rlcL (SqL.of hfl) fun E hE => ⟨fun i H' => ∃ (ps1 : List Po) (ts : List Nat), SameB l d H H' ∧ RAt P w K H' x ma wa l d o p v W M ps1 ∧ ps <+: ps1 ∧ H' fl = some (.lst ((W.foll s' lb).map fun (t : Nat) => V.int t)) ∧ H' E = some (.lst (ts.map fun (t : Nat) => V.int t)) ∧ FA H' (.mod c lb g) b ∧
            Paired (fun t j => ps1[j]? = some (t, g)) ((W.foll s' lb).take i) ts, ?_, fun i H' hi ⟨_, _, _, _, _, z, _⟩ => SqL.of z, fun i y H' hy ⟨ps1, ts, sB, R1, pre, h1, h2, h3, h4⟩ => ?_, fun H' ⟨ps1, ts, sB, R1, pre, h1, h2, h3, h4⟩ => ?_⟩
          · have s3 := s12.new (o := .lst []) hE
            exact ⟨ps, [], SameB.of s3, R.mono s3, List.prefix_refl _, (same_new hE) _ _ hfl, upd_same, hb.mono s3, .nil⟩
          · rw [List.getElem?_map] at hy
            obtain ⟨t, ht, rfl⟩ := Option.map_eq_some_iff.mp hy
            have hil : i < (W.foll s' lb).length := (List.getElem?_eq_some_iff.mp ht).1
            obtain ⟨u2, ey2, hgu2⟩ := id h3
            obtain ⟨⟨dx1, f0⟩, ⟨bs1, cs1, c1, c2, c3, c4⟩, _⟩ := id R1
            refine g_turn rfl ?_
            walk_at "go"
            refine iteT ?_
            walk_at "go"
            refine g_rm f0 rfl ?_
            walk_at "go"
            refine g_ixT (SqT.of ey2) at2 ?_
            walk_at "go"
            refine ⟨x, ma, wa, l, d, o, p, v, u2, W, M, ps1, t, g, rfl, R1, hgu2, ⟨foll_lt hw.ok (List.mem_of_getElem? ht), puni_kid hpu.2 List.mem_cons_self⟩, fun j H3 ps3 sB3 R3 pre3 hj => ?_⟩
            walk_at "go"
            have nEl : E ≠ l := (ne_of_none (s12 _ _ e1) hE).symm
            have nEd : E ≠ d := (ne_of_none (s12 _ _ e4.at_) hE).symm
            have nfl_l : fl ≠ l := (ne_of_none e1 nfl0).symm
            have nfl_d : fl ≠ d := (ne_of_none e4.at_ nfl0).symm
            have nfE : fl ≠ E := ne_of_none hfl hE
            have h2' := sB3 _ _ nEl nEd h2
            have tl := Paired.length h4
            rw [List.length_take] at tl
            refine g_add h2' (lt_line (by rw [List.length_map]; omega)) ?_
            have t3 : SameT H3 (upd H3 E (.lst (ts.map (fun (t : Nat) => V.int t) ++ [V.int (j : Nat)]))) := SameT.lst h2'
            refine ⟨ps3, ts ++ [j], ?_, R3.mutO h2' nEl, pre.trans pre3, by rw [upd_ne nfE]; exact sB3 _ _ nfl_l nfl_d h1, by rw [upd_same, List.map_append]; rfl, (h3.monoT (R1.t sB3)).monoT t3, ?_⟩
            · intro b' o' n1 n2 e
              rw [upd_ne (ne_of_none (s12 _ _ e) hE)]
              exact (sB.trans sB3) b' o' n1 n2 e
            · rw [take_snoc ht]
              exact Pd.snoc (R := fun (t : Nat) (j : Nat) => ps3[j]? = some ((t, g) : Po)) hj (Paired.mapP h4 fun _ _ z => pre_get pre3 z)
          · rw [List.take_of_length_le (by rw [List.length_map]; exact Nat.le_refl _)] at h4
            have tl := Paired.length h4
            walk_at "go"
            have eown : (if decide (V.str (F.mod c lb g).kind = V.str "all") = true then (1 : Int) else 0) = bN (W.own (s', .mod c lb g)) := by
              rw [k_all]
              show (if (c == true) = true then (1 : Int) else 0) = bN c
              cases c <;> rfl
            refine hU _ _ ⟨ps1, E, ts, _, by rw [eown]; rfl, sB, R1, pre, s12.free hE, h2, by omega, fun j hj => ?_, fun t ht => ?_⟩
            · obtain ⟨i, hi, rfl⟩ := List.mem_iff_getElem.mp hj
              obtain ⟨t, ht, e⟩ := Pd.get h4 (List.getElem?_eq_getElem hi)
              exact ⟨(t, g), List.mem_map.mpr ⟨t, List.mem_of_getElem? ht, rfl⟩, e⟩
            · obtain ⟨t0, ht0, rfl⟩ := List.mem_map.mp ht
              obtain ⟨i, hi, rfl⟩ := List.mem_iff_getElem.mp ht0
              obtain ⟨j, hj, e⟩ := Pd.get' h4 (List.getElem?_eq_getElem hi)
              exact ⟨j, List.mem_of_getElem? hj, e⟩
        · walk_at "go"
          refine g_newT 2 rfl (by decide) fun q2 hq2 => ?_
          have s2 := s1.trans (same_new (o := .tup [.str "and", .str "or"]) hq2)
          refine g_inT (SqT.of upd_same) rfl rfl ?_
          generalize upd H1 q2 (.tup [.str "and", .str "or"]) = H2 at s2 ⊢
          walk_at "go"
          refine iteB (k_bin g) (fun hbi => ?_) (fun hbi => ?_)
          · obtain ⟨c, g1, g2, rfl⟩ := bin_ex hbi
            obtain ⟨u1, u2, ey', hg1, hg2⟩ := id hb
            walk_at "go"
            refine .inr ⟨_, rfl, ?_⟩
            walk_at "go"
            refine g_rm (s2 _ _ e0) rfl ?_
            walk_at "go"
            refine g_ixT (SqT.of (s2 _ _ ey')) at1 ?_
            walk_at "go"
            refine ⟨x, ma, wa, l, d, o, p, v, u1, W, M, ps, s', g1, rfl, R.mono s2, hg1.mono s2, ⟨hpu.1, puni_kid hpu.2 List.mem_cons_self⟩, fun i H3 ps3 sB3 R3 pre3 hi => ?_⟩
            have t3 := (R.mono s2).t sB3
            obtain ⟨⟨dx3, f0⟩, _⟩ := id R3
            walk_at "go"
            refine g_rm f0 rfl ?_
            walk_at "go"
            refine g_ixT (SqT.of (t3 _ _ (s2 _ _ ey'))) at2 ?_
            walk_at "go"
            refine ⟨x, ma, wa, l, d, o, p, v, u2, W, M, ps3, s', g2, rfl, R3, (hg2.mono s2).monoT t3, ⟨hpu.1, puni_kid hpu.2 (List.mem_cons_of_mem _ List.mem_cons_self)⟩, fun j H4 ps4 sB4 R4 pre4 hj => ?_⟩
            walk_at "go"
            refine g_newL 2 rfl (by decide) fun tg htg => ?_
            have s5 := same_new (o := .lst [.int (i : Nat), .int (j : Nat)]) htg
            walk_at "go"
            have hi' := pre_get pre4 hi
            have eown : (if decide (V.str (F.bin c g1 g2).kind = V.str "and") = true then (1 : Int) else 0) = bN (W.own (s', .bin c g1 g2)) := by
              show (if decide (V.str (kB c) = V.str "and") = true then (1 : Int) else 0) = bN c
              cases c
              · rw [show decide (V.str (kB false) = V.str "and") = false by decide +kernel]
                rfl
              · rw [show decide (V.str (kB true) = V.str "and") = true by decide +kernel]
                rfl
            refine hU _ _ ⟨ps4, tg, [i, j], _, by rw [eown]; rfl, (SameB.of s2).trans (sB3.trans (sB4.trans (SameB.of s5))), R4.mono s5, pre3.trans pre4, R4.fresh ((SameB.of s2).trans (sB3.trans sB4)) htg, upd_same, by show 2 < 60; decide, fun n hn => ?_, fun t ht => ?_⟩
            · rcases List.mem_cons.mp hn with rfl | hn
              · exact ⟨_, List.mem_cons_self, hi'⟩
              · rw [List.mem_singleton.mp hn]
                exact ⟨_, List.mem_cons_of_mem _ List.mem_cons_self, hj⟩
            · rcases List.mem_cons.mp ht with rfl | ht
              · exact ⟨i, List.mem_cons_self, hi'⟩
              · rw [List.mem_singleton.mp ht]
                exact ⟨j, List.mem_cons_of_mem _ List.mem_cons_self, hj⟩
          · walk_at "go"
            refine g_rfld (s2 _ _ e0) T.c_Run T.n_Run_world rfl ?_
            walk_at "go"
            refine ⟨wa, W, s', b, g, rfl, hw.mono s2, hpu.1, hb.mono s2, hv, hbi, hmo, hpo.fx, fun H3 s3 => ?_⟩
            have s23 := s2.trans s3
            walk_at "go"
            refine .inr ⟨_, rfl, ?_⟩
            walk_at "go"
            refine g_newL 0 rfl (by decide) fun tg htg => ?_
            have s4 := s23.new (o := .lst []) htg
            walk_at "go"
            have e1' : W.own (s', g) = W.plain s' g := by
              cases g <;> first | rfl | (cases hv; done) | (cases hbi; done) | (cases hmo; done) | exact absurd hpo.fx (by decide)
            have e2' : M.pri g = 0 := by
              cases g <;> first | rfl | (cases hv; done)
            have e3' : succ W M (s', g) = [] := by
              cases g <;> first | rfl | (cases hv; done) | (cases hbi; done) | (cases hmo; done)
            refine hU _ _ ⟨ps, tg, [], _, by rw [e1', e2']; rfl, SameB.of s4, R.mono s4, List.prefix_refl _, s23.free htg, upd_same, by decide, fun n hn => (nomatch hn), fun t ht => ?_⟩
            rw [e3'] at ht
            cases ht
    · obtain ⟨ps', tg, ts, v7, rfl, sB, R', pre, htn, htg, hts, mvs'⟩ := hP
      obtain ⟨⟨dx', f0⟩, ⟨bs', cs', f1, f2, f3, f4⟩, nd', un', _, _⟩ := id R'
      obtain ⟨g1, g2, g3, g4, ⟨d1, d2, d3, d4, d5, d6⟩, g6⟩ := G.sameB sB hdl
      have hl' := R'.len
      have hkl : k < ps.length := (List.getElem?_eq_some_iff.mp hk).1
      have hpl := pre.length_le
      obtain ⟨z1, z2, z3, z4, z5, z6⟩ := id GO'
      walk_at "go"
      refine g_rfld f0 T.c_Run T.n_Run_owners rfl ?_
      walk_at "go"
      refine g_tyL (SqL.of g1) ?_
      walk_at "go"
      refine g_app g1 (lt_line (by rw [List.length_map]; omega)) ?_
      walk_at "go"
      have R1 := R'.mutO (ys := (os.map fun b => V.int (bN b)) ++ [.int (bN (W.own (s', g)))]) g1 d1
      have S1 : SameA l d o p v H (upd H' o (.lst ((os.map fun b => V.int (bN b)) ++ [.int (bN (W.own (s', g)))]))) := fun b u n1 n2 n3 _ _ e => by rw [upd_ne n3]; exact sB b u n1 n2 e
      have c1 : upd H' o (.lst ((os.map fun b => V.int (bN b)) ++ [.int (bN (W.own (s', g)))])) o = some (.lst ((os ++ [W.own (s', g)]).map fun b => V.int (bN b))) := by rw [upd_same, List.map_append]; rfl
      have c2 : upd H' o (.lst ((os.map fun b => V.int (bN b)) ++ [.int (bN (W.own (s', g)))])) p = some (.lst (prs.map fun (n : Nat) => V.int n)) := by rw [upd_ne d4.symm]; exact g2
      have c3 : upd H' o (.lst ((os.map fun b => V.int (bN b)) ++ [.int (bN (W.own (s', g)))])) v = some (.lst (as.map V.ref)) := by rw [upd_ne d5.symm]; exact g3
      have c4 : Paired (fun (m : List Nat) a => upd H' o (.lst ((os.map fun b => V.int (bN b)) ++ [.int (bN (W.own (s', g)))])) a = some (.lst (m.map fun (n : Nat) => V.int n))) mvs as := Pd.map_mem g4 fun m a ha hma => by rw [upd_ne (g6 a ha).2.1]; exact hma
      have nto : tg ≠ o := (ne_of_none G.ho htn).symm
      have ntp : tg ≠ p := (ne_of_none G.hp htn).symm
      have ntv : tg ≠ v := (ne_of_none G.hv htn).symm
      have c5 : upd H' o (.lst ((os.map fun b => V.int (bN b)) ++ [.int (bN (W.own (s', g)))])) tg = some (.lst (ts.map fun (n : Nat) => V.int n)) := by rw [upd_ne nto]; exact htg
      generalize upd H' o (.lst ((os.map fun b => V.int (bN b)) ++ [.int (bN (W.own (s', g)))])) = H1 at R1 S1 c1 c2 c3 c4 c5 ⊢
      obtain ⟨⟨dx1, i0⟩, _⟩ := id R1
      refine g_rfld i0 T.c_Run T.n_Run_priorities rfl ?_
      walk_at "go"
      refine g_tyL (SqL.of c2) ?_
      walk_at "go"
      refine g_app c2 (lt_line (by rw [List.length_map]; omega)) ?_
      walk_at "go"
      have R2 := R1.mutO (ys := (prs.map fun (n : Nat) => V.int n) ++ [.int (M.pri g : Nat)]) c2 d2
      have S2 : SameA l d o p v H (upd H1 p (.lst ((prs.map fun (n : Nat) => V.int n) ++ [.int (M.pri g : Nat)]))) := fun b u n1 n2 n3 n4 n5 e => by rw [upd_ne n4]; exact S1 b u n1 n2 n3 n4 n5 e
      have b1 : upd H1 p (.lst ((prs.map fun (n : Nat) => V.int n) ++ [.int (M.pri g : Nat)])) o = some (.lst ((os ++ [W.own (s', g)]).map fun b => V.int (bN b))) := by rw [upd_ne d4]; exact c1
      have b2 : upd H1 p (.lst ((prs.map fun (n : Nat) => V.int n) ++ [.int (M.pri g : Nat)])) p = some (.lst ((prs ++ [M.pri g]).map fun (n : Nat) => V.int n)) := by rw [upd_same, List.map_append]; rfl
      have b3 : upd H1 p (.lst ((prs.map fun (n : Nat) => V.int n) ++ [.int (M.pri g : Nat)])) v = some (.lst (as.map V.ref)) := by rw [upd_ne d6.symm]; exact c3
      have b4 : Paired (fun (m : List Nat) a => upd H1 p (.lst ((prs.map fun (n : Nat) => V.int n) ++ [.int (M.pri g : Nat)])) a = some (.lst (m.map fun (n : Nat) => V.int n))) mvs as := Pd.map_mem c4 fun m a ha hma => by rw [upd_ne (g6 a ha).2.2.1]; exact hma
      have b5 : upd H1 p (.lst ((prs.map fun (n : Nat) => V.int n) ++ [.int (M.pri g : Nat)])) tg = some (.lst (ts.map fun (n : Nat) => V.int n)) := by rw [upd_ne ntp]; exact c5
      generalize upd H1 p (.lst ((prs.map fun (n : Nat) => V.int n) ++ [.int (M.pri g : Nat)])) = H2 at R2 S2 b1 b2 b3 b4 b5 ⊢
      obtain ⟨⟨dx2, j0⟩, ⟨bs2, cs2, j1, j2, j3, j4⟩, _⟩ := id R2
      refine g_rfld j0 T.c_Run T.n_Run_moves rfl ?_
      walk_at "go"
      refine g_tyL (SqL.of b3) ?_
      walk_at "go"
      refine ⟨tg, ts.map fun (n : Nat) => (n : Int), rfl, SqL.of (by rw [b5, List.map_map]; rfl), by rw [List.length_map]; exact hts, fun st m hst hmle => ?_⟩
      rw [List.length_map] at hmle
      walk_at "go"
      refine ⟨st, _, m, rfl, upd_same, by omega, fun ns q hns1 hns2 hnl hq => ?_⟩
      have s3 := (same_new (o := SetO w st (fun j => decide (j ∈ ts.map fun (n : Nat) => (n : Int))) m) hst).new (o := .lst (ns.map V.int)) hq
      have hq3 : upd (upd H2 st (SetO w st (fun j => decide (j ∈ ts.map fun (n : Nat) => (n : Int))) m)) q (.lst (ns.map V.int)) q = some (.lst (ns.map V.int)) := upd_same
      have hq0 : H2 q = none := (same_new hst).free hq
      generalize upd (upd H2 st (SetO w st (fun j => decide (j ∈ ts.map fun (n : Nat) => (n : Int))) m)) q (.lst (ns.map V.int)) = H3 at s3 hq3 ⊢
      have b3' := s3 _ _ b3
      walk_at "go"
      have las : as.length = mvs.length := (Paired.length b4).symm
      refine g_app b3' (lt_line (by rw [List.length_map]; omega)) ?_
      walk_at "go"
      -- the targets, sorted
      have hmem : ∀ k : Int, k ∈ ns ↔ ∃ n ∈ ts, (n : Int) = k := fun k => by
        rw [hns2 k, decide_eq_true_iff, List.mem_map]
      have hnn : ns = (ns.map Int.toNat).map fun (n : Nat) => (n : Int) := by
        rw [List.map_map]
        conv => lhs; rw [← List.map_id ns]
        refine List.map_congr_left fun k hk => ?_
        obtain ⟨n, _, e⟩ := (hmem k).mp hk
        show k = ((k.toNat : Nat) : Int)
        omega
      have hts' : ∀ n : Nat, n ∈ ns.map Int.toNat ↔ n ∈ ts := fun n => by
        constructor
        · intro h
          obtain ⟨k, hk, rfl⟩ := List.mem_map.mp h
          obtain ⟨n, hn, e⟩ := (hmem k).mp hk
          subst e
          exact hn
        · intro h
          exact List.mem_map.mpr ⟨(n : Int), (hmem _).mpr ⟨n, h, rfl⟩, rfl⟩
      have hpw : (ns.map Int.toNat).Pairwise (· < ·) := by
        rw [List.pairwise_map]
        refine List.Pairwise.imp_of_mem (fun {a b} ha hb h => ?_) hns1
        obtain ⟨n, _, e⟩ := (hmem a).mp ha
        omega
      have hq3' : H3 q = some (.lst ((ns.map Int.toNat).map fun (n : Nat) => V.int n)) := by
        rw [hq3]
        conv => lhs; rw [hnn]
        rw [List.map_map]
        rfl
      have nqv : q ≠ v := (ne_of_none b3 hq0).symm
      have R4 := (R2.mono s3).mutO (ys := as.map V.ref ++ [V.ref q]) b3' d3
      refine kk _ ps' (os ++ [W.own (s', g)]) (prs ++ [M.pri g]) (mvs ++ [ns.map Int.toNat]) (as ++ [q]) ?_ R4 pre ⟨?_, ?_, ?_, ?_, ⟨d1, d2, d3, d4, d5, d6⟩, fun a ha => ?_⟩ ⟨by rw [List.length_append, z1]; rfl, by rw [List.length_append, z2]; rfl, by rw [List.length_append, z3]; rfl, fun i t hi ht => ?_, fun i t hi ht => ?_, fun i t m ht hm' => ?_⟩
      · intro b u n1 n2 n3 n4 n5 e
        rw [upd_ne n5]
        exact s3 _ _ (S2 b u n1 n2 n3 n4 n5 e)
      · rw [upd_ne d5]
        exact s3 _ _ b1
      · rw [upd_ne d6]
        exact s3 _ _ b2
      · rw [upd_same, List.map_append]
        rfl
      · refine Pd.snoc (R := fun (m : List Nat) a => upd H3 v (.lst (as.map V.ref ++ [V.ref q])) a = some (.lst (m.map fun (n : Nat) => V.int n))) ?_ (Pd.map_mem b4 fun m a ha hma => ?_)
        · rw [upd_ne nqv]
          exact hq3'
        · rw [upd_ne (g6 a ha).2.2.2]
          exact s3 _ _ hma
      · rcases List.mem_append.mp ha with h | h
        · exact g6 a h
        · rw [List.mem_singleton.mp h]
          exact ⟨(ne_of_none j1 hq0).symm, (ne_of_none b1 hq0).symm, (ne_of_none b2 hq0).symm, nqv⟩
      · by_cases e : i < k
        · rw [List.getElem?_append_left (by omega)]
          rw [pre_get pre (List.getElem?_eq_getElem (show i < ps.length by omega))] at ht
          exact z4 i t e (by rw [← ht]; exact List.getElem?_eq_getElem (by omega))
        · have : i = k := by omega
          subst this
          rw [pre_get pre hk] at ht
          cases ht
          rw [List.getElem?_append_right (by omega), z1, Nat.sub_self]
          rfl
      · by_cases e : i < k
        · rw [List.getElem?_append_left (by omega)]
          rw [pre_get pre (List.getElem?_eq_getElem (show i < ps.length by omega))] at ht
          exact z5 i t e (by rw [← ht]; exact List.getElem?_eq_getElem (by omega))
        · have : i = k := by omega
          subst this
          rw [pre_get pre hk] at ht
          cases ht
          rw [List.getElem?_append_right (by omega), z2, Nat.sub_self]
          rfl
      · by_cases e : i < k
        · rw [List.getElem?_append_left (by omega)] at hm'
          rw [pre_get pre (List.getElem?_eq_getElem (show i < ps.length by omega))] at ht
          have := z6 i t m (by rw [← ht]; exact List.getElem?_eq_getElem (by omega)) hm'
          exact ⟨this.1.mono pre, this.2⟩
        · have hil := (List.getElem?_eq_some_iff.mp hm').1
          rw [List.length_append, z3] at hil
          have : i = k := by
            simp at hil
            omega
          subst this
          rw [pre_get pre hk] at ht
          cases ht
          rw [List.getElem?_append_right (by omega), z3, Nat.sub_self] at hm'
          cases hm'
          exact ⟨⟨fun j hj => mvs'.a j ((hts' j).mp hj), fun t ht => let ⟨j, h1, h2⟩ := mvs'.b t ht; ⟨j, (hts' j).mpr h1, h2⟩⟩, hpw⟩
end
end K22

set_option Elab.async false
set_option linter.all false
set_option maxRecDepth 100000
set_option maxHeartbeats 1000000
namespace K22
open PySem PySem.Spec PyProof.Rows L2
local macro_rules | `(tactic| walk_at "go1") => `(tactic| with_reducible first
  | refine g_seq ?_ | refine g_asg ?_ | refine g_name ?_ | refine g_c ?_ | refine g_op ?_ | refine g_cons ?_ | refine g_nil ?_ | refine g_cb ?_ | refine g_call ?_ | refine g_meth ?_
  | refine g_I0 ?_ | refine g_ret ?_ | refine g_retN ?_ | refine g_drop ?_ | refine g_if ?_ | refine g_test ?_ | refine g_tB ?_ | refine g_bool ?_
  | refine g_not ?_ | refine g_and ?_ | refine g_or ?_ | refine g_yes ?_ | refine g_tup ?_ | refine g_lst ?_ | refine g_slice ?_ | refine g_part ?_ | refine g_nopart ?_ | refine g_int ?_ | refine g_fld ?_ | refine g_dget ?_
  | refine g_din ?_ | refine g_dnotin ?_ | refine g_bm0 ?_ | refine g_bm ?_ | refine g_ifexp ?_ | refine g_andv ?_ | refine g_orv ?_ | refine g_notv ?_ | refine g_chain ?_ | refine g_U ?_ | refine g_next ?_ | refine g_brk ?_ | refine g_cont ?_
  | refine g_sfld ?_ | refine g_sdput ?_ | refine g_gtup ?_ | refine g_gcons ?_ | refine g_gnil ?_ | refine g_gsub ?_ | refine g_forT ?_ | refine g_forL ?_ | refine g_forR ?_ | refine g_lcT ?_ | refine g_lcL ?_ | refine g_lcR ?_ | refine g_un ?_ | refine g_sfa ?_ | refine g_ip ?_ | refine g_nin ?_ | refine g_nnot ?_ | refine g_nget ?_ | refine g_nput ?_ | refine g_ndisp ?_ | refine g_addI ?_ | refine g_subI ?_
  | (show Ends.nx _ _ _; refine g_nxm ?_) | (show Ends.rt _ _ _; refine g_rtm ?_) | (show Ends.bk _ _ _; refine g_bkm ?_) | (show Ends.ct _ _ _; refine g_ctm ?_))
local macro_rules | `(tactic| walk_at "go2") => `(tactic| first
  | ((with_reducible show tVar _ _ _ _); refine g_var rfl ?_)
  | ((with_reducible show rEq _ _ _ _); refine g_eq rfl ?_)
  | ((with_reducible show rNe _ _ _ _); refine g_ne rfl ?_)
  | ((with_reducible show tAug _ _ _ _ _ _); refine g_aug rfl ?_))
local macro_rules | `(tactic| walk_at "go") => `(tactic| repeat (first | walk_at "go1" | walk_at "go2"))
section
variable {P : Program} {w : World} {K : PySem.W.Frag} {mg : Str → Option Value} {base : Heap}
/-! ### Run -/
def rNdcR (P : Program) (w : World) (g : TG) (tk tv : TE) (vs : List Nat) (σ : L2.St) (us : List V) (H : Hp) (Q : VK) : Prop := ∃ n : Int, us = [.int n] ∧ -(2 ^ 62) ≤ n ∧ n < 2 ^ 62 ∧ rDc P w (Itr 0 n.toNat) g tk tv vs σ H Q
section
variable {σ : L2.St} {H : Hp} {Q : VK} {g : TG} {tk tv : TE} {vs : List Nat}
theorem g_ndcR {ta : TA} (q : ta σ H fun us H1 => rNdcR P w g tk tv vs σ us H1 Q) : tNDc P w (iRng1 ta) g tk tv vs σ H Q := q
theorem g_rndcR {n : Nat} (hn : n < 2 ^ 62) (k : ∀ E, H E = none → ∃ Pv : Nat → Hp → Prop, Pv 0 (upd H E (DNo P w E [])) ∧ (∀ (i : Nat) H', i < n → Pv i H' → rDcTurn P w g tk tv vs σ E (Pv (i + 1)) (.int (i : Nat)) H') ∧ ∀ H', Pv n H' → Q (.ref E) H') : rNdcR P w g tk tv vs σ [.int (n : Nat)] H Q := by
  refine ⟨n, rfl, by omega, by omega, fun E hE => ?_⟩
  rw [show ((n : Nat) : Int).toNat = n by omega]
  obtain ⟨Pv, h0, hs, hd⟩ := k E hE
  refine ⟨fun i m H' => m = n - i ∧ i ≤ n ∧ Pv i H', ⟨n, rfl, Nat.zero_le _, h0⟩, ?_⟩
  rintro i m H' ⟨rfl, hi, p⟩
  by_cases lt : i < n
  · refine .inr ⟨lt, Pv (i + 1), fun H2 p2 => ⟨n - (i + 1), by omega, rfl, lt, p2⟩, fun x H2 ⟨e, y⟩ => ?_⟩
    subst e y
    rw [Int.zero_add]
    exact hs i _ lt p
  · cases (show i = n by omega)
    exact .inl ⟨Nat.le_refl _, hd H' p⟩
theorem g_turnN {i : Nat} {E : Addr} {N : Hp → Prop} {y : V} (hw : wipe ((wipe σ vs).set i (some y)) vs = wipe σ vs)
    (q : tk ((wipe σ vs).set i (some y)) H fun k H3 => tv ((wipe σ vs).set i (some y)) H3 fun z H4 => rDcPut P w E N k z H4) : rDcTurn P w (gName i) tk tv vs σ E N y H := ⟨hw, q⟩
theorem g_dcPut {E b : Addr} {N : Hp → Prop} {xs : List Ent} {k : NestedKey} {z : V} (h : NDict P w H E xs) (hk : KeyV H k (.ref b)) (hd : k.depth ≤ 8) (e : valN xs k = none) (l : xs.length < sizeLine) (q : N (upd H E (DNo P w E (xs ++ [(k, b, z)])))) : rDcPut P w E N (.ref b) z H := ⟨b, xs, k, rfl, h, hk, hd, e, l, q⟩
end
structure RunDone (K : PySem.W.Frag) (H : Hp) (x : Addr) (W : Wd) (M : Mc) (ps : List Po) (os : List Bool) (prs : List Nat) (mvs : List (List Nat)) : Prop where
  at_ : ∃ (dx ma wa l d o p v : Addr) (as : List Addr), H x = some (.ins (He.ga K "Run") dx (rF ma wa l d o p v)) ∧ GAt H l o p v os prs mvs as
  g : GOk W M ps os prs mvs ps.length
  nd : ps.Nodup
  un : ∀ q ∈ ps, PU W M q
  st : ∀ s, s < W.n → ps[s]? = some (s, .var (M.start : Nat))
  len : ps.length ≤ 51200
def spRun (K : PySem.W.Frag) : Sp := fun vs H Q _ => ∃ (x dx ma wa : Addr) (W : Wd) (M : Mc), vs = [.ref x, .ref ma, .ref wa] ∧ H x = some (.ins (He.ga K "Run") dx []) ∧ MAt K H ma M ∧ WAt K H wa W ∧
  ∀ H' ps os prs mvs, SameX x H H' → RunDone K H' x W M ps os prs mvs → Q .non H'
-- slots of Run.__init__: 0:self* 1:machine* 2:world 3:state 4:k 5:at 6:part
abbrev n_Run_init : List Str := ["self", "machine", "world", "state", "k", "at", "part"]
theorem sc_Run_init : FnScope n_Run_init p_Run_init (defScope s_Run_init) := ⟨rfl, rfl, rfl, by decide +kernel, rfl, by decide +kernel, by decide +kernel⟩
theorem ok_Run_init (T : Top w K mg) : Ok P w K mg base 5 a_Run_init p_Run_init (spRun K) := by
  have G_Run_add := ok_Run_add (P := P) (base := base) T
  refine T.F_Run_init.ok sc_Run_init (fun vs H Q E h => ?_) (fun cdv A outer s H vs Q E hr h => ?_)
  · obtain ⟨x, dx, ma, wa, W, M, rfl, _⟩ := h
    rfl
  · obtain ⟨x, dx, ma, wa, W, M, rfl, hx, hm, hw, k⟩ := h
    have hu : (A.deeper (envOfC "Run.__init__" (defScope s_Run_init) s.heap.objs.size (He.fAd K a_Run_init) cdv)).units + 64 < cLine := hr.units
    refine ⟨_, PSs.nox (pss_cons (ps_fld (pv 0) (pv 1) rfl)
    (pss_cons (ps_fld (pv 0) (pv 2) rfl)
    (pss_cons (ps_fld (pv 0) (pe_lc (own := [("state", 3)]) (g := gName 3) (tt := tYes) rfl sc_Run_init.nd (pi_range1 (by rfl) T.z_range (pa_cons (pe_callB (kc_len K) (by rfl) T.z_len bt_len (pa_cons (kpe_fld K (pv 2)) pa_nil)) pa_nil)) (blkOk_by (N := n_Run_init) (sc := (defScope s_Run_init)) (by decide +kernel)) (fun _ _ _ _ _ => (pg_name (i := 3) sc_Run_init.nd rfl (Or.inl rfl))) (fun _ _ _ _ _ => pts_nil) (fun _ _ _ _ _ => (pe_tup (pa_cons (pv 3) (pa_cons (pe_tup (pa_cons pe_str (pa_cons (kpe_fld K (pv 1)) pa_nil))) pa_nil))))) rfl)
    (pss_cons (ps_fld (pv 0) (pe_ndc hu P w (own := [("k", 4)]) (g := gName 4) rfl sc_Run_init.nd (pi_range1 (by rfl) T.z_range (pa_cons (pe_callB (kc_len K) (by rfl) T.z_len bt_len (pa_cons (kpe_fld K (pv 0)) pa_nil)) pa_nil)) (blkOk_by (N := n_Run_init) (sc := (defScope s_Run_init)) (by decide +kernel)) (fun _ _ _ _ _ => (pg_name (i := 4) sc_Run_init.nd rfl (Or.inl rfl))) (fun _ _ _ _ _ => (pe_ix (ki_list K) (kpe_fld K (pv 0)) (pv 4) (fun _ _ => rfl))) (fun _ _ _ _ _ => (pv 4))) rfl)
    (pss_cons (ps_fld (pv 0) (pe_lst pa_nil) rfl)
    (pss_cons (ps_fld (pv 0) (pe_lst pa_nil) rfl)
    (pss_cons (ps_fld (pv 0) (pe_lst pa_nil) rfl)
    (pss_cons (ps_set (i := 5) sc_Run_init.nd rfl (Or.inl rfl) pe_int)
    (pss_one (ps_while PassesOwn.never (pt_cmpR op_lt (pv 5) (pe_callB (kc_len K) (by rfl) T.z_len bt_len (pa_cons (kpe_fld K (pv 0)) pa_nil)) (nomark _)) (pss_cons (ps_asg (pe_ix (ki_list K) (kpe_fld K (pv 0)) (pv 5) (fun _ _ => rfl)) (pg_tup (by rfl) (pgs_cons (pg_name (i := 3) sc_Run_init.nd rfl (Or.inl rfl)) (pgs_cons (pg_name (i := 6) sc_Run_init.nd rfl (Or.inl rfl)) pgs_nil))))
      (pss_cons (ps_expr (pe_meth (pv 0) T.c_Run T.t_Run_add G_Run_add (hr.mono (by omega)) T.b_Run_add .nil pass0 (pa_cons (pv 3) (pa_cons (pv 6) pa_nil))))
      (pss_one (ps_aug (i := 5) sc_Run_init.nd rfl (.inl rfl) pe_int ip_add)))))))))))))), ?_⟩
    obtain ⟨mok, dm, rt, pt, rs, m1, m2, m3, m4⟩ := id hm
    obtain ⟨wok, dw, wps, wpt, was, wbs, w1, w2, w3, w4, w5⟩ := id hw
    have nmx : ma ≠ x := fun z => by
      subst z
      rw [hx] at m1
      injection m1 with m1
      injection m1 with _ _ m1
      cases m1
    have nwx : wa ≠ x := fun z => by
      subst z
      rw [hx] at w1
      injection w1 with w1
      injection w1 with _ _ w1
      cases w1
    have fl := wok.fl
    have n4 := wok.n4
    have hwl := Paired.length w3
    walk_at "go"
    refine g_rput hx T.c_Run T.n_Run_machine (by decide) ?_
    walk_at "go"
    refine g_rput upd_same T.c_Run T.n_Run_world (by show 1 < 1000; decide) ?_
    rw [upd_upd]
    have sx2 : SameX x H (upd H x (.ins (He.ga K "Run") dx (putF "world" (.ref wa) (putF "machine" (.ref ma) [])))) := SameX.upd
    have hx2 : upd H x (.ins (He.ga K "Run") dx (putF "world" (.ref wa) (putF "machine" (.ref ma) []))) x = some (.ins (He.ga K "Run") dx (putF "world" (.ref wa) (putF "machine" (.ref ma) []))) := upd_same
    generalize upd H x (.ins (He.ga K "Run") dx (putF "world" (.ref wa) (putF "machine" (.ref ma) []))) = H2 at sx2 hx2 ⊢
    have t2 := SameX.t sx2 hx
    have hm2 := hm.monoS t2 (by rw [sx2 _ _ nmx m1, m1])
    have hw2 := hw.monoS t2 (by rw [sx2 _ _ nwx w1, w1])
    walk_at "go"
    refine g_rfld (sx2 _ _ nwx w1) T.c_World T.n_World_states rfl ?_
    walk_at "go"
    refine g_len (.inr (SqT.of (t2 _ _ w2))) ?_
    walk_at "go"
    rw [List.length_map, ← hwl, fl]
    refine g_rlcR (by omega) fun E hE => ⟨fun i H' => ∃ bs : List Addr, Same H2 H' ∧ H' E = some (.lst (bs.map V.ref)) ∧ Paired (PoA H') ((List.range i).map fun s => ((s, F.var (M.start : Nat)) : Po)) bs, ⟨[], same_new hE, upd_same, .nil⟩, fun i H' hi ⟨bs, s0, h1, h2⟩ => ?_, fun H3 ⟨bs, s3, h1, h2⟩ => ?_⟩
    · refine g_turn rfl ?_
      walk_at "go"
      refine iteT ?_
      walk_at "go"
      refine g_rfld (s0 _ _ (sx2 _ _ nmx m1)) T.c_Machine T.n_Machine_start rfl ?_
      walk_at "go"
      refine g_newT 2 rfl (by decide) fun q1 hq1 => ?_
      have s1 := same_new (o := .tup [.str "var", .int (M.start : Nat)]) hq1
      walk_at "go"
      refine g_newT 2 rfl (by decide) fun q2 hq2 => ?_
      have s2 := s1.new (o := .tup [.int (i : Nat), .ref q1]) hq2
      walk_at "go"
      have bl := Paired.length h2
      rw [List.length_map, List.length_range] at bl
      refine g_add (s2 _ _ h1) (lt_line (by rw [List.length_map]; omega)) ?_
      refine ⟨bs ++ [q2], (s0.trans s2).mut hE, by rw [upd_same, List.map_append]; rfl, ?_⟩
      rw [List.range_succ, List.map_append]
      have tl := SameT.lst (o' := .lst (bs.map V.ref ++ [V.ref q2])) (s2 _ _ h1)
      have hz : PoA (upd (upd H' q1 (.tup [.str "var", .int (M.start : Nat)])) q2 (.tup [.int (i : Nat), .ref q1])) ((i, F.var (M.start : Nat)) : Po) q2 := ⟨q1, upd_same, (same_new hq2) q1 (.tup [.str "var", .int (M.start : Nat)]) upd_same⟩
      exact Pd.snoc (hz.monoT tl) (Paired.mapP h2 fun _ _ z => (z.monoT s2.t).monoT tl)
    generalize hps0 : ((List.range W.n).map fun s => ((s, F.var (M.start : Nat)) : Po)) = ps0 at h2
    have lps : ps0.length = W.n := by rw [← hps0, List.length_map, List.length_range]
    have nd0 : ps0.Nodup := by
      rw [← hps0]
      exact List.pairwise_map.mpr (List.Pairwise.imp (fun h e => h (by injection e)) List.nodup_range)
    have un0 : ∀ q ∈ ps0, PU W M q := fun q hq => by
      rw [← hps0] at hq
      obtain ⟨s, hs, rfl⟩ := List.mem_map.mp hq
      exact ⟨List.mem_range.mp hs, List.mem_append_left _ (List.mem_map.mpr ⟨M.start, List.mem_range.mpr mok.st, rfl⟩)⟩
    have st0 : ∀ s, s < W.n → ps0[s]? = some (s, .var (M.start : Nat)) := fun s hs => by
      rw [← hps0, List.getElem?_map, List.getElem?_range hs]
      rfl
    have bl := Paired.length h2
    have nEx : E ≠ x := (ne_of_none hx2 hE).symm
    walk_at "go"
    refine g_rput (s3 _ _ hx2) T.c_Run T.n_Run_positions (by show 2 < 1000; decide) ?_
    have sx4 : SameX x H2 (upd H3 x (.ins (He.ga K "Run") dx (putF "positions" (.ref E) (putF "world" (.ref wa) (putF "machine" (.ref ma) []))))) := (s3.x x).trans SameX.upd
    have hx4 : upd H3 x (.ins (He.ga K "Run") dx (putF "positions" (.ref E) (putF "world" (.ref wa) (putF "machine" (.ref ma) [])))) x = some (.ins (He.ga K "Run") dx (putF "positions" (.ref E) (putF "world" (.ref wa) (putF "machine" (.ref ma) [])))) := upd_same
    have h14 : upd H3 x (.ins (He.ga K "Run") dx (putF "positions" (.ref E) (putF "world" (.ref wa) (putF "machine" (.ref ma) [])))) E = some (.lst (bs.map V.ref)) := by rw [upd_ne nEx]; exact h1
    have t34 : SameT H3 (upd H3 x (.ins (He.ga K "Run") dx (putF "positions" (.ref E) (putF "world" (.ref wa) (putF "machine" (.ref ma) []))))) := SameT.upd (s3 _ _ hx2) fun _ z => nomatch z
    have h24 : Paired (PoA (upd H3 x (.ins (He.ga K "Run") dx (putF "positions" (.ref E) (putF "world" (.ref wa) (putF "machine" (.ref ma) [])))))) ps0 bs := Paired.mapP h2 fun _ _ z => z.monoT t34
    generalize upd H3 x (.ins (He.ga K "Run") dx (putF "positions" (.ref E) (putF "world" (.ref wa) (putF "machine" (.ref ma) [])))) = H4 at sx4 hx4 h14 h24 ⊢
    walk_at "go"
    refine g_ndcR ?_
    walk_at "go"
    refine g_rfld hx4 T.c_Run T.n_Run_positions rfl ?_
    walk_at "go"
    refine g_len (.inl (SqL.of h14)) ?_
    walk_at "go"
    rw [List.length_map, ← bl, lps]
    refine g_rndcR (by omega) fun D hD => ⟨fun i H' => Same H4 H' ∧ NDict P w H' D (entI pkey (ps0.take i) (bs.take i) 0), ⟨same_new hD, ⟨upd_same, fun _ h => nomatch h⟩⟩, fun i H' hi ⟨s0, N⟩ => ?_, fun H5 ⟨s5, N⟩ => ?_⟩
    · obtain ⟨q, hq⟩ : ∃ q, ps0[i]? = some q := ⟨_, List.getElem?_eq_getElem (by omega)⟩
      obtain ⟨b, hb, hqb⟩ := Pd.get' h24 hq
      have hpo := puni_ok mok (un0 q (List.mem_of_getElem? hq)).2
      refine g_turnN rfl ?_
      walk_at "go"
      refine g_rfld (s0 _ _ hx4) T.c_Run T.n_Run_positions rfl ?_
      walk_at "go"
      refine g_ixL (SqL.of (s0 _ _ h14)) (atI_nat (by rw [List.getElem?_map, hb]; rfl)) ?_
      walk_at "go"
      have nin : q ∉ ps0.take i := fun h => by
        obtain ⟨j, hj, e⟩ := List.mem_iff_getElem.mp h
        rw [List.length_take] at hj
        rw [List.getElem_take] at e
        exact List.pairwise_iff_getElem.mp nd0 j i (by omega) (by omega) (by omega) (e.trans (List.getElem?_eq_some_iff.mp hq).2.symm)
      have ll : (ps0.take i).length = (bs.take i).length := by rw [List.length_take, List.length_take, bl]
      have hv := entI_none pkey_inj (bs := bs.take i) 0 nin
      have hk := (hqb.monoT s0.t).key
      refine g_dcPut N hk (pkey_depth hpo.ht) hv (lt_line (by rw [entI_len pkey 0 ll, List.length_take]; omega)) ?_
      refine ⟨s0.mut hD, ?_⟩
      have := N.put (v := V.int (i : Nat)) hk (pkey_depth hpo.ht)
      rw [take_snoc hq, take_snoc hb, entI_snoc pkey q b 0 ll]
      rw [show 0 + (ps0.take i).length = i by rw [List.length_take]; omega]
      exact this
    rw [List.take_of_length_le (by omega), List.take_of_length_le (by omega)] at N
    have hx5 := s5 _ _ hx4
    have hD4 : H4 D = none := hD
    have nDx : D ≠ x := (ne_of_none hx4 hD).symm
    walk_at "go"
    refine g_rput hx5 T.c_Run T.n_Run_numbers (by show 3 < 1000; decide) ?_
    have t56 : SameT H5 (upd H5 x (.ins (He.ga K "Run") dx (putF "numbers" (.ref D) (putF "positions" (.ref E) (putF "world" (.ref wa) (putF "machine" (.ref ma) [])))))) := SameT.upd hx5 fun _ z => nomatch z
    have sx6 : SameX x H4 (upd H5 x (.ins (He.ga K "Run") dx (putF "numbers" (.ref D) (putF "positions" (.ref E) (putF "world" (.ref wa) (putF "machine" (.ref ma) [])))))) := (s5.x x).trans SameX.upd
    have hx6 : upd H5 x (.ins (He.ga K "Run") dx (putF "numbers" (.ref D) (putF "positions" (.ref E) (putF "world" (.ref wa) (putF "machine" (.ref ma) []))))) x = some (.ins (He.ga K "Run") dx (putF "numbers" (.ref D) (putF "positions" (.ref E) (putF "world" (.ref wa) (putF "machine" (.ref ma) []))))) := upd_same
    have N6 : NDict P w (upd H5 x (.ins (He.ga K "Run") dx (putF "numbers" (.ref D) (putF "positions" (.ref E) (putF "world" (.ref wa) (putF "machine" (.ref ma) [])))))) D (entI pkey ps0 bs 0) := N.monoS t56 (upd_ne nDx)
    generalize upd H5 x (.ins (He.ga K "Run") dx (putF "numbers" (.ref D) (putF "positions" (.ref E) (putF "world" (.ref wa) (putF "machine" (.ref ma) []))))) = H6 at sx6 hx6 N6 ⊢
    walk_at "go"
    refine g_newL 0 rfl (by decide) fun o ho => ?_
    walk_at "go"
    have nox : o ≠ x := (ne_of_none hx6 ho).symm
    refine g_rput (by rw [upd_ne nox.symm]; exact hx6) T.c_Run T.n_Run_owners (by show 4 < 1000; decide) ?_
    have sx7 : SameX x H6 (upd (upd H6 o (.lst [])) x (.ins (He.ga K "Run") dx (putF "owners" (.ref o) (putF "numbers" (.ref D) (putF "positions" (.ref E) (putF "world" (.ref wa) (putF "machine" (.ref ma) []))))))) := ((same_new ho).x x).trans SameX.upd
    have hx7 : upd (upd H6 o (.lst [])) x (.ins (He.ga K "Run") dx (putF "owners" (.ref o) (putF "numbers" (.ref D) (putF "positions" (.ref E) (putF "world" (.ref wa) (putF "machine" (.ref ma) [])))))) x = some (.ins (He.ga K "Run") dx (putF "owners" (.ref o) (putF "numbers" (.ref D) (putF "positions" (.ref E) (putF "world" (.ref wa) (putF "machine" (.ref ma) [])))))) := upd_same
    have ho7 : upd (upd H6 o (.lst [])) x (.ins (He.ga K "Run") dx (putF "owners" (.ref o) (putF "numbers" (.ref D) (putF "positions" (.ref E) (putF "world" (.ref wa) (putF "machine" (.ref ma) [])))))) o = some (.lst []) := by rw [upd_ne nox]; exact upd_same
    generalize upd (upd H6 o (.lst [])) x (.ins (He.ga K "Run") dx (putF "owners" (.ref o) (putF "numbers" (.ref D) (putF "positions" (.ref E) (putF "world" (.ref wa) (putF "machine" (.ref ma) [])))))) = H7 at sx7 hx7 ho7 ⊢
    walk_at "go"
    refine g_newL 0 rfl (by decide) fun p hp => ?_
    walk_at "go"
    have npx : p ≠ x := (ne_of_none hx7 hp).symm
    refine g_rput (by rw [upd_ne npx.symm]; exact hx7) T.c_Run T.n_Run_priorities (by show 5 < 1000; decide) ?_
    have sx8 : SameX x H7 (upd (upd H7 p (.lst [])) x (.ins (He.ga K "Run") dx (putF "priorities" (.ref p) (putF "owners" (.ref o) (putF "numbers" (.ref D) (putF "positions" (.ref E) (putF "world" (.ref wa) (putF "machine" (.ref ma) [])))))))) := ((same_new hp).x x).trans SameX.upd
    have hx8 : upd (upd H7 p (.lst [])) x (.ins (He.ga K "Run") dx (putF "priorities" (.ref p) (putF "owners" (.ref o) (putF "numbers" (.ref D) (putF "positions" (.ref E) (putF "world" (.ref wa) (putF "machine" (.ref ma) []))))))) x = some (.ins (He.ga K "Run") dx (putF "priorities" (.ref p) (putF "owners" (.ref o) (putF "numbers" (.ref D) (putF "positions" (.ref E) (putF "world" (.ref wa) (putF "machine" (.ref ma) []))))))) := upd_same
    have hp8 : upd (upd H7 p (.lst [])) x (.ins (He.ga K "Run") dx (putF "priorities" (.ref p) (putF "owners" (.ref o) (putF "numbers" (.ref D) (putF "positions" (.ref E) (putF "world" (.ref wa) (putF "machine" (.ref ma) []))))))) p = some (.lst []) := by rw [upd_ne npx]; exact upd_same
    generalize upd (upd H7 p (.lst [])) x (.ins (He.ga K "Run") dx (putF "priorities" (.ref p) (putF "owners" (.ref o) (putF "numbers" (.ref D) (putF "positions" (.ref E) (putF "world" (.ref wa) (putF "machine" (.ref ma) []))))))) = H8 at sx8 hx8 hp8 ⊢
    walk_at "go"
    refine g_newL 0 rfl (by decide) fun v hv => ?_
    walk_at "go"
    have nvx : v ≠ x := (ne_of_none hx8 hv).symm
    refine g_rput (by rw [upd_ne nvx.symm]; exact hx8) T.c_Run T.n_Run_moves (by show 6 < 1000; decide) ?_
    have sx9 : SameX x H8 (upd (upd H8 v (.lst [])) x (.ins (He.ga K "Run") dx (rF ma wa E D o p v))) := ((same_new hv).x x).trans SameX.upd
    have hx9 : upd (upd H8 v (.lst [])) x (.ins (He.ga K "Run") dx (rF ma wa E D o p v)) x = some (.ins (He.ga K "Run") dx (rF ma wa E D o p v)) := upd_same
    have hv9 : upd (upd H8 v (.lst [])) x (.ins (He.ga K "Run") dx (rF ma wa E D o p v)) v = some (.lst []) := by rw [upd_ne nvx]; exact upd_same
    have eH : upd (upd H8 v (.lst [])) x (.ins (He.ga K "Run") dx (putF "moves" (.ref v) (putF "priorities" (.ref p) (putF "owners" (.ref o) (putF "numbers" (.ref D) (putF "positions" (.ref E) (putF "world" (.ref wa) (putF "machine" (.ref ma) [])))))))) = upd (upd H8 v (.lst [])) x (.ins (He.ga K "Run") dx (rF ma wa E D o p v)) := rfl
    rw [eH]
    generalize upd (upd H8 v (.lst [])) x (.ins (He.ga K "Run") dx (rF ma wa E D o p v)) = H9 at sx9 hx9 hv9 ⊢
    walk_at "go"
    -- all in place
    have sx69 := (sx7.trans sx8).trans sx9
    have sx49 := sx6.trans sx69
    have sx29 := sx4.trans sx49
    have sx09 := sx2.trans sx29
    have t49 := SameX.t sx49 hx4
    have t69 := SameX.t sx69 hx6
    have t09 := SameX.t sx09 hx
    have fr : ∀ (b : Addr) (Ha Hb : Hp), SameX x Ha Hb → b ≠ x → Hb b = none → Ha b = none := fun b Ha Hb s n e => by
      cases q : Ha b with
      | none => rfl
      | some o =>
        rw [s b o n q] at e
        cases e
    have ho6 : H6 o = none := ho
    have hp6 : H6 p = none := fr _ _ _ sx7 npx hp
    have hv6 : H6 v = none := fr _ _ _ (sx7.trans sx8) nvx hv
    have hE6 : H6 E = some (.lst (bs.map V.ref)) := sx6 _ _ nEx h14
    have zE : H E = none := fr _ _ _ sx2 nEx hE
    have zD : H D = none := fr _ _ _ (sx2.trans sx4) nDx hD4
    have zo : H o = none := fr _ _ _ ((sx2.trans sx4).trans sx6) nox ho6
    have zp : H p = none := fr _ _ _ ((sx2.trans sx4).trans sx6) npx hp6
    have zv : H v = none := fr _ _ _ ((sx2.trans sx4).trans sx6) nvx hv6
    have R9 : RAt P w K H9 x ma wa E D o p v W M ps0 := by
      refine ⟨⟨dx, hx9⟩, ⟨bs, bs, sx69 _ _ nEx hE6, Paired.mapP h24 fun _ _ z => z.monoT t49, bl, N6.monoS t69 ?_⟩, nd0, un0, hw.monoS t09 ?_, hm.monoS t09 ?_⟩
      · rw [sx69 _ _ nDx N6.at_, N6.at_]
      · rw [sx09 _ _ nwx w1, w1]
      · rw [sx09 _ _ nmx m1, m1]
    have G9 : GAt H9 E o p v [] [] [] [] := by
      refine ⟨(sx8.trans sx9) _ _ nox ho7, sx9 _ _ npx hp8, hv9, .nil, ⟨(ne_of_none hE6 ho6).symm, (ne_of_none hE6 hp6).symm, (ne_of_none hE6 hv6).symm, ne_of_none ho7 hp, ne_of_none (sx8 _ _ nox ho7) hv, ne_of_none hp8 hv⟩, fun _ h => nomatch h⟩
    refine g_while (W := fun m σ' H' => ∃ (ps : List Po) (os : List Bool) (prs : List Nat) (mvs : List (List Nat)) (as : List Addr) (i : Nat) (v1 v2 : Option V), σ' = [some (.ref x), some (.ref ma), some (.ref wa), v1, none, some (.int (i : Nat)), v2] ∧ m = 51201 - i ∧ i ≤ ps.length ∧
        RAt P w K H' x ma wa E D o p v W M ps ∧ ps0 <+: ps ∧ GAt H' E o p v os prs mvs as ∧ GOk W M ps os prs mvs i ∧ SameX x H H')
      ⟨ps0, [], [], [], [], 0, _, _, rfl, rfl, Nat.zero_le _, R9, List.prefix_refl _, G9, ⟨rfl, rfl, rfl, (fun i q h => absurd h (Nat.not_lt_zero _)), (fun i q h => absurd h (Nat.not_lt_zero _)), fun i q m _ h => by simp at h⟩, sx09⟩ ?_
    rintro m σ' H10 ⟨ps, os, prs, mvs, as, i, v1, v2, rfl, rfl, hi, R, pre, G, GO, sx10⟩
    have hl := R.len
    obtain ⟨⟨dx', e0⟩, ⟨bs', cs', e1, e2, e3, e4⟩, nd', un', _, _⟩ := id R
    have hbl := Paired.length e2
    walk_at "go"
    refine g_rfld e0 T.c_Run T.n_Run_positions rfl ?_
    walk_at "go"
    refine g_len (.inl (SqL.of e1)) ?_
    walk_at "go"
    rw [List.length_map, ← hbl]
    refine iteB (c' := decide (i < ps.length)) (by congr 1; exact propext ⟨fun h => by omega, fun h => by omega⟩) (fun hlt => ?_) (fun hlt => ?_)
    · have hlt := of_decide_eq_true hlt
      obtain ⟨q, hq⟩ : ∃ q, ps[i]? = some q := ⟨_, List.getElem?_eq_getElem hlt⟩
      obtain ⟨b, hb, u, hbu, hfu⟩ := Pd.get' e2 hq
      refine ⟨_, fun _ _ h => h, ?_⟩
      walk_at "go"
      refine g_rfld e0 T.c_Run T.n_Run_positions rfl ?_
      walk_at "go"
      refine g_ixL (SqL.of e1) (atI_nat (by rw [List.getElem?_map, hb]; rfl)) ?_
      walk_at "go"
      refine g_run (SqT.of hbu) rfl ?_
      walk_at "go"
      refine g_rm e0 (by first | rfl | decide +kernel) ?_
      walk_at "go"
      refine ⟨x, ma, wa, E, D, o, p, v, u, W, M, ps, q.1, q.2, os, prs, mvs, as, i, rfl, R, hfu, hq, G, GO, fun H11 ps' os' prs' mvs' as' SA R' pre' G' GO' => ?_⟩
      walk_at "go"
      refine ⟨51201 - (i + 1), by omega, ps', os', prs', mvs', as', i + 1, _, _, rfl, rfl, by have := pre'.length_le; omega, R', pre.trans pre', G', GO', fun c y n e => ?_⟩
      exact SA c y (ne_of_none e zE) (ne_of_none e zD) (ne_of_none e zo) (ne_of_none e zp) (ne_of_none e zv) (sx10 c y n e)
    · have hlt := of_decide_eq_false hlt
      have : i = ps.length := by omega
      subst this
      walk_at "go"
      exact k H10 ps os prs mvs sx10 ⟨⟨dx', ma, wa, E, D, o, p, v, as, e0, G⟩, GO, nd', un', fun s hs => pre_get pre (st0 s hs), hl⟩
end
end K22

set_option Elab.async false
set_option linter.all false
set_option maxRecDepth 100000
set_option maxHeartbeats 1000000
namespace K22
open PySem PySem.Spec PyProof.Rows L2
local macro_rules | `(tactic| walk_at "go1") => `(tactic| with_reducible first
  | refine g_seq ?_ | refine g_asg ?_ | refine g_name ?_ | refine g_c ?_ | refine g_op ?_ | refine g_cons ?_ | refine g_nil ?_ | refine g_cb ?_ | refine g_call ?_ | refine g_meth ?_
  | refine g_I0 ?_ | refine g_ret ?_ | refine g_retN ?_ | refine g_drop ?_ | refine g_if ?_ | refine g_test ?_ | refine g_tB ?_ | refine g_bool ?_
  | refine g_not ?_ | refine g_and ?_ | refine g_or ?_ | refine g_yes ?_ | refine g_tup ?_ | refine g_lst ?_ | refine g_slice ?_ | refine g_part ?_ | refine g_nopart ?_ | refine g_int ?_ | refine g_fld ?_ | refine g_dget ?_
  | refine g_din ?_ | refine g_dnotin ?_ | refine g_bm0 ?_ | refine g_bm ?_ | refine g_ifexp ?_ | refine g_andv ?_ | refine g_orv ?_ | refine g_notv ?_ | refine g_chain ?_ | refine g_U ?_ | refine g_next ?_ | refine g_brk ?_ | refine g_cont ?_
  | refine g_sfld ?_ | refine g_sdput ?_ | refine g_gtup ?_ | refine g_gcons ?_ | refine g_gnil ?_ | refine g_gsub ?_ | refine g_forT ?_ | refine g_forL ?_ | refine g_forR ?_ | refine g_lcT ?_ | refine g_lcL ?_ | refine g_lcR ?_ | refine g_un ?_ | refine g_sfa ?_ | refine g_ip ?_ | refine g_nin ?_ | refine g_nnot ?_ | refine g_nget ?_ | refine g_nput ?_ | refine g_ndisp ?_ | refine g_addI ?_ | refine g_subI ?_
  | (show Ends.nx _ _ _; refine g_nxm ?_) | (show Ends.rt _ _ _; refine g_rtm ?_) | (show Ends.bk _ _ _; refine g_bkm ?_) | (show Ends.ct _ _ _; refine g_ctm ?_))
local macro_rules | `(tactic| walk_at "go2") => `(tactic| first
  | ((with_reducible show tVar _ _ _ _); refine g_var rfl ?_)
  | ((with_reducible show rEq _ _ _ _); refine g_eq rfl ?_)
  | ((with_reducible show rNe _ _ _ _); refine g_ne rfl ?_)
  | ((with_reducible show tAug _ _ _ _ _ _); refine g_aug rfl ?_))
local macro_rules | `(tactic| walk_at "go") => `(tactic| repeat (first | walk_at "go1" | walk_at "go2"))
section
variable {P : Program} {w : World} {K : PySem.W.Frag} {mg : Str → Option Value} {base : Heap}
/-! ### Solver -/
def SameN (ws : List Addr) (H H' : Hp) : Prop := ∀ b u, b ∉ ws → H b = some u → H' b = some u
theorem SameN.trans {ws : List Addr} {H H1 H2 : Hp} (a : SameN ws H H1) (b : SameN ws H1 H2) : SameN ws H H2 := fun c u n e => b c u n (a c u n e)
theorem SameN.of {ws : List Addr} {H H' : Hp} (s : Same H H') : SameN ws H H' := fun b u _ e => s b u e
theorem SameN.put {ws : List Addr} {H : Hp} {c : Addr} {o : HO} (h : c ∈ ws) : SameN ws H (upd H c o) := fun b u n e => by
  rw [upd_ne fun z => n (by rw [z]; exact h)]
  exact e
/-- a thing that H0 doesn't know may change -/
theorem SameN.mut {ws : List Addr} {H0 H : Hp} {c : Addr} {o : HO} (s : SameN ws H0 H) (h : H0 c = none) : SameN ws H0 (upd H c o) := fun b u n e => by
  rw [upd_ne (ne_of_none e h)]
  exact s b u n e
theorem SameN.mono {ws ws' : List Addr} {H H' : Hp} (s : SameN ws H H') (h : ∀ b ∈ ws, b ∈ ws') : SameN ws' H H' := fun b u n e => s b u (fun z => n (h b z)) e
theorem SameN.free {ws : List Addr} {H H' : Hp} (s : SameN ws H H') {b : Addr} (n : b ∉ ws) (e : H' b = none) : H b = none := by
  cases q : H b with
  | none => rfl
  | some u =>
    rw [s b u n q] at e
    cases e
def NL (H : Hp) (m : List Nat) (a : Addr) : Prop := H a = some (.lst (m.map fun (n : Nat) => V.int n))
structure SvA where
  x : Addr
  dx : Addr
  o : Addr
  p : Addr
  v : Addr
  c : Addr
  wl : Addr
  ch : Addr
  mas : List Addr
  cas : List Addr
def SvA.stat (a : SvA) : List Addr := a.x :: a.o :: a.p :: a.v :: a.c :: (a.mas ++ a.cas)
def sF (a : SvA) (n : Nat) : List (Str × V) := [("owners", .ref a.o), ("priorities", .ref a.p), ("moves", .ref a.v), ("count", .int (n : Nat)), ("coming", .ref a.c), ("winner", .ref a.wl), ("choice", .ref a.ch)]
structure SvAt (K : PySem.W.Frag) (H : Hp) (a : SvA) (G : Gm) (cm : List (List Nat)) : Prop where
  hx : H a.x = some (.ins (He.ga K "Solver") a.dx (sF a G.n))
  ho : H a.o = some (.lst (G.os.map fun b => V.int (bN b)))
  hp : H a.p = some (.lst (G.prs.map fun (n : Nat) => V.int n))
  hv : H a.v = some (.lst (a.mas.map V.ref))
  hm : Paired (NL H) G.mv a.mas
  hc : H a.c = some (.lst (a.cas.map V.ref))
  hcm : Paired (NL H) cm a.cas
  ok : G.Ok
  cl : cm.length = G.n
  cmm : ∀ t x, t < G.n → (x ∈ cm.getD t [] ↔ t ∈ G.mvs x)
  cnd : ∀ t, (cm.getD t []).Nodup
  far : ∀ b ∈ a.stat, b ≠ a.wl ∧ b ≠ a.ch
  wc : a.wl ≠ a.ch
theorem SvAt.mono {H H' : Hp} {a : SvA} {G : Gm} {cm : List (List Nat)} {ws : List Addr} (S : SvAt K H a G cm) (s : SameN ws H H') (hw : ∀ b ∈ a.stat, b ∉ ws) : SvAt K H' a G cm := by
  obtain ⟨h1, h2, h3, h4, h5, h6, h7, h8, h9, h10, h11, h12, h13⟩ := S
  refine ⟨s _ _ (hw _ (by simp [SvA.stat])) h1, s _ _ (hw _ (by simp [SvA.stat])) h2, s _ _ (hw _ (by simp [SvA.stat])) h3, s _ _ (hw _ (by simp [SvA.stat])) h4, ?_, s _ _ (hw _ (by simp [SvA.stat])) h6, ?_, h8, h9, h10, h11, h12, h13⟩
  · exact Pd.map_mem h5 fun m b hb e => s _ _ (hw _ (by simp [SvA.stat, hb])) e
  · exact Pd.map_mem h7 fun m b hb e => s _ _ (hw _ (by simp [SvA.stat, hb])) e
theorem Pd.right {α β : Type} {R : α → β → Prop} : ∀ {l : List α} {m : List β} {y : β}, Paired R l m → y ∈ m → ∃ x, R x y
  | _, _, _, .nil, h => nomatch h
  | _, _, y, .cons a b, h => by
    rcases List.mem_cons.mp h with rfl | h
    · exact ⟨_, a⟩
    · exact Pd.right b h
theorem SvAt.some {H : Hp} {a : SvA} {G : Gm} {cm : List (List Nat)} (S : SvAt K H a G cm) : ∀ b ∈ a.stat, ∃ u, H b = .some u := fun b hb => by
  simp only [SvA.stat, List.mem_cons, List.mem_append] at hb
  rcases hb with rfl | rfl | rfl | rfl | rfl | hb | hb
  · exact ⟨_, S.hx⟩
  · exact ⟨_, S.ho⟩
  · exact ⟨_, S.hp⟩
  · exact ⟨_, S.hv⟩
  · exact ⟨_, S.hc⟩
  · obtain ⟨m, e⟩ := Pd.right S.hm hb
    exact ⟨_, e⟩
  · obtain ⟨m, e⟩ := Pd.right S.hcm hb
    exact ⟨_, e⟩
theorem SvAt.fresh {H : Hp} {a : SvA} {G : Gm} {cm : List (List Nat)} (S : SvAt K H a G cm) {b : Addr} (h : H b = none) : b ∉ a.stat := fun hb => by
  obtain ⟨u, e⟩ := S.some b hb
  rw [h] at e
  cases e
def IL (H : Hp) (l : Addr) (ins : List Bool) : Prop := H l = some (.lst (ins.map V.bl))
abbrev insF (ins : List Bool) : Nat → Bool := fun x => ins.getD x false
/-- the keys of such a dict -/
structure DKey (kvs : List (Key × V)) (n : Nat) : Prop where
  nd : (kvs.map (·.1)).Nodup
  lt : ∀ k ∈ kvs.map (·.1), ∃ y : Nat, y < n ∧ k = Sum.inl (y : Int)
theorem DKey.len {kvs : List (Key × V)} {n : Nat} (h : DKey kvs n) : kvs.length ≤ n := by
  have := nodup_le h.nd (m := (List.range n).map fun (i : Nat) => (Sum.inl (i : Int) : Key)) fun k hk => by
    obtain ⟨y, hy, e⟩ := h.lt k hk
    exact List.mem_map.mpr ⟨y, List.mem_range.mpr hy, e.symm⟩
  simpa using this
theorem DKey.put {kvs : List (Key × V)} {n : Nat} (h : DKey kvs n) {y : Nat} (hy : y < n) (v : V) : DKey (putK kvs (Sum.inl (y : Int)) v) n := by
  obtain ⟨h1, h2⟩ := valV_nodup (k := (Sum.inl (y : Int) : Key)) (v := v) h.nd
  exact ⟨h1, fun k hk => (h2 k hk).elim (fun e => ⟨y, hy, e⟩) (h.lt k)⟩
theorem DKey.nil (n : Nat) : DKey [] n := ⟨List.nodup_nil, fun _ h => nomatch h⟩
def Fnd (kvs : List (Key × V)) (qs : List Nat) : Prop := ∀ y : Nat, (valV kvs (Sum.inl (y : Int))).isSome = decide (y ∈ qs)
theorem Fnd.put {kvs : List (Key × V)} {qs : List Nat} (h : Fnd kvs qs) (x : Nat) (v : V) : Fnd (putK kvs (Sum.inl (x : Int)) v) (qs ++ [x]) := fun y => by
  rw [valV_put]
  by_cases e : y = x
  · subst e
    simp
  · rw [if_neg fun z => e (by injection z with z; omega), h y]
    simp [e]
theorem nl_get {H : Hp} {l : List (List Nat)} {as : List Addr} (h : Paired (NL H) l as) {x : Nat} (hx : x < l.length) : ∃ b, as[x]? = some b ∧ H b = some (.lst ((l.getD x []).map fun (n : Nat) => V.int n)) := by
  obtain ⟨b, h1, h2⟩ := Pd.get' h (List.getElem?_eq_getElem hx)
  refine ⟨b, h1, ?_⟩
  rw [List.getD_eq_getElem?_getD, List.getElem?_eq_getElem hx]
  exact h2
theorem ixN_of {n j : Nat} (h : j < n) : ixN n (j : Int) = some j := by
  unfold ixN
  rw [if_pos (by omega), if_pos (by omega)]
  congr 1
theorem g_tail1 {i U : TS} {D : Ends} {σ : L2.St} {H : Hp} (Pt : L2.St → Hp → Prop) (h1 : ∀ U' : TS, (∀ σ' H', Pt σ' H' → U' D σ' H') → tSeq i U' D σ H) (h2 : ∀ σ' H', Pt σ' H' → U D σ' H') : tSeq i U D σ H := h1 U h2
def spAttr (K : PySem.W.Frag) : Sp := fun vs H Q _ => ∃ (a : SvA) (G : Gm) (cm : List (List Nat)) (il tl : Addr) (ins : List Bool) (pl : Bool) (T : List Nat) (cs : List Int), vs = [.ref a.x, .ref il, .int (bN pl), .ref tl] ∧ SvAt K H a G cm ∧ IL H il ins ∧ ins.length = G.n ∧ il ≠ a.ch ∧
  H tl = some (.lst (T.map fun (n : Nat) => V.int n)) ∧ tl ≠ a.ch ∧ T.Nodup ∧ (∀ t ∈ T, t < G.n ∧ insF ins t = true) ∧ H a.ch = some (.lst (cs.map V.int)) ∧ cs.length = G.n ∧
  ∀ (q : Addr) (Qs : List Nat) (H' : Hp) (cs' : List Int), H q = none → SameN [a.ch] H H' → H' a.ch = some (.lst (cs'.map V.int)) → cs'.length = G.n → H' q = some (.lst (Qs.map fun (n : Nat) => V.int n)) → AttOk G (insF ins) pl T Qs → Q (.ref q) H'
-- slots of Solver.attracted: 0:self 1:inside* 2:player 3:targets 4:found 5:target 6:left 7:queue 8:at 9:position 10:k
abbrev n_Solver_attracted : List Str := ["self", "inside", "player", "targets", "found", "target", "left", "queue", "at", "position", "k"]
theorem sc_Solver_attracted : FnScope n_Solver_attracted p_Solver_attracted (defScope s_Solver_attracted) := ⟨rfl, rfl, rfl, by decide +kernel, rfl, by decide +kernel, by decide +kernel⟩
theorem ok_Solver_attracted (T : Top w K mg) : Ok P w K mg base 1 a_Solver_attracted p_Solver_attracted (spAttr K) := by
  refine T.F_Solver_attracted.ok sc_Solver_attracted (fun vs H Q E h => ?_) (fun cdv A outer s H vs Q E hr h => ?_)
  · obtain ⟨a, G, cm, il, tl, ins, pl, Ts, cs, rfl, _⟩ := h
    rfl
  · obtain ⟨a, G, cm, il, tl, ins, pl, Ts, cs, rfl, S, hil, hin, nil, htl, ntl, ndT, hT, hch, hcl, k⟩ := h
    have hu := hu_of hr
    refine ⟨_, PSs.nox (pss_cons (ps_setDc (i := 4) (own := [("target", 5)]) (g := gName 5) (tt := tYes) rfl sc_Solver_attracted.nd rfl rfl (swd_true rfl rfl rfl (by decide +kernel)) (kpi_list K (pv 3)) (blkOk_by (N := n_Solver_attracted) (sc := (defScope s_Solver_attracted)) (by decide +kernel)) (fun _ _ _ _ _ => (pg_name (i := 5) sc_Solver_attracted.nd rfl (Or.inl rfl))) (fun _ _ _ _ _ => pts_nil) (fun _ _ _ _ _ => (pv 5)) (fun _ _ _ _ _ => pe_bl))
    (pss_cons (ps_set (i := 6) sc_Solver_attracted.nd rfl (Or.inl rfl) pe_dnewK)
    (pss_cons (ps_set (i := 7) sc_Solver_attracted.nd rfl (Or.inl rfl) (pe_callTy (kc_list K) (by rfl) T.z_list bt_list (pa_cons (pv 3) pa_nil)))
    (pss_cons (ps_set (i := 8) sc_Solver_attracted.nd rfl (Or.inl rfl) pe_int)
    (pss_cons (ps_while PassesOwn.never (pt_cmpR op_lt (pv 8) (pe_callB (kc_len K) (by rfl) T.z_len bt_len (pa_cons (pv 7) pa_nil)) (nomark _)) (pss_cons (ps_for PassesOwn.never rfl (kpi_list K (pe_ix (ki_list K) (kpe_fld K (pv 0)) (pe_ix (ki_list K) (pv 7) (pv 8) (fun _ _ => rfl)) (fun _ _ => rfl))) (pg_name (i := 9) sc_Solver_attracted.nd rfl (Or.inl rfl)) (pss_one (ps_if (PW.pt (pw_and (pt_val (pe_ix (ki_list K) (pv 1) (pv 9) (fun _ _ => rfl))) (pw_and1 (pt_cmp (pc_dnotin hu (pv 9) (pv 4)))))) (pss_one (ps_if (pt_cmpR op_eq (pe_ix (ki_list K) (kpe_fld K (pv 0)) (pv 9) (fun _ _ => rfl)) (pv 2) (nomark _)) (pss_cons (ps_asg (pe_ix (ki_list K) (pv 7) (pv 8) (fun _ _ => rfl)) (pg_sub (kpe_fld K (pv 0)) (pv 9) set_list))
            (pss_cons (ps_dput hu (pv 4) (pv 9) pe_bl rfl)
            (pss_one (ps_expr (kpe_app K (pv 7) (pv 9)))))) (pss_cons (ps_if (pt_cmp (pc_dnotin hu (pv 9) (pv 6))) (pss_one (ps_dput hu (pv 6) (pv 9) (pe_callB (kc_len K) (by rfl) T.z_len bt_len (pa_cons (pe_lc (own := [("k", 10)]) (g := gName 10) rfl sc_Solver_attracted.nd (kpi_list K (pe_ix (ki_list K) (kpe_fld K (pv 0)) (pv 9) (fun _ _ => rfl))) (blkOk_by (N := n_Solver_attracted) (sc := (defScope s_Solver_attracted)) (by decide +kernel)) (fun _ _ _ _ _ => (pg_name (i := 10) sc_Solver_attracted.nd rfl (Or.inl rfl))) (fun _ _ _ _ _ => (pts_one (pt_val (pe_ix (ki_list K) (pv 1) (pv 10) (fun _ _ => rfl))))) (fun _ _ _ _ _ => (pv 10))) pa_nil)) rfl)) pss_nil)
            (pss_cons (ps_daug hu (pv 6) (pv 9) pe_int in_sub (fun _ _ _ => rfl))
            (pss_one (ps_if (pt_cmpR op_eq (pe_dget hu (pv 6) (pv 9) (fun _ _ => rfl)) pe_int (nomark _)) (pss_cons (ps_dput hu (pv 4) (pv 9) pe_bl rfl)
              (pss_one (ps_expr (kpe_app K (pv 7) (pv 9))))) pss_nil)))))) pss_nil)))
      (pss_one (ps_aug (i := 8) sc_Solver_attracted.nd rfl (.inl rfl) pe_int ip_add))))
    (pss_one (ps_ret (pv 7)))))))), ?_⟩
    have ok := S.ok
    have nle := ok.le
    have chn : ∀ b ∈ a.stat, b ∉ [a.ch] := fun b hb h => (S.far b hb).2 (List.mem_singleton.mp h)
    walk_at "go"
    refine g_dcL ?_
    walk_at "go"
    refine g_rdcL (SqL.of htl) fun Fd hFd => ⟨fun i H' => ∃ kf, Same H H' ∧ H' Fd = some (.dK kf) ∧ Fnd kf (Ts.take i) ∧ DKey kf G.n, ⟨[], same_new hFd, upd_same, fun y => rfl, DKey.nil _⟩, fun i H' hi ⟨kf, s0, _⟩ => SqL.of (s0 _ _ htl), fun i y H' hy ⟨kf, s0, h1, h2, h3⟩ => ?_, fun H1 ⟨kf, s1, h1, h2, h3⟩ => ?_⟩
    · rw [List.getElem?_map] at hy
      obtain ⟨t, ht, rfl⟩ := Option.map_eq_some_iff.mp hy
      have htn := (hT t (List.mem_of_getElem? ht)).1
      refine g_turnD rfl ?_
      walk_at "go"
      refine iteT ?_
      walk_at "go"
      refine g_putD (k := Sum.inl (t : Int)) h1 (lt_line (by have := h3.len; omega)) ?_
      refine ⟨_, s0.mut hFd, upd_same, ?_, h3.put htn _⟩
      rw [take_snoc ht]
      exact h2.put t _
    rw [List.take_of_length_le (by rw [List.length_map]; exact Nat.le_refl _)] at h2
    walk_at "go"
    refine fun Ld hLd => ?_
    walk_at "go"
    have s2 := s1.new (o := .dK []) hLd
    have s12 := same_new (o := .dK []) hLd
    refine ⟨tl, _, rfl, .inl (SqL.of (s2 _ _ htl)), fun Qd hQd => ?_⟩
    walk_at "go"
    have s3 := s2.new (o := .lst (Ts.map fun (n : Nat) => V.int n)) hQd
    have s23 := same_new (o := .lst (Ts.map fun (n : Nat) => V.int n)) hQd
    have nFL : Fd ≠ Ld := ne_of_none h1 hLd
    have nFQ : Fd ≠ Qd := ne_of_none (s12 _ _ h1) hQd
    have nLQ : Ld ≠ Qd := ne_of_none upd_same hQd
    have zL : H Ld = none := s1.free hLd
    have zQ : H Qd = none := s2.free hQd
    have nFc : Fd ≠ a.ch := (ne_of_none hch hFd).symm
    have nLc : Ld ≠ a.ch := (ne_of_none hch zL).symm
    have nQc : Qd ≠ a.ch := (ne_of_none hch zQ).symm
    refine g_while (W := fun m σ' H' => ∃ (qs : List Nat) (i : Nat) (kf kl : List (Key × V)) (cs' : List Int) (v9 : Option V), σ' = [some (.ref a.x), some (.ref il), some (.int (bN pl)), some (.ref tl), some (.ref Fd), none, some (.ref Ld), some (.ref Qd), some (.int (i : Nat)), v9, none] ∧ m = G.n + 1 - i ∧ i ≤ qs.length ∧ SameN [a.ch] H H' ∧
        H' Fd = some (.dK kf) ∧ H' Ld = some (.dK kl) ∧ H' Qd = some (.lst (qs.map fun (n : Nat) => V.int n)) ∧ H' a.ch = some (.lst (cs'.map V.int)) ∧ cs'.length = G.n ∧ Fnd kf qs ∧ DKey kf G.n ∧ DKey kl G.n ∧ AInv G (insF ins) pl Ts (fun _ t => decide (t ∈ qs.take i)) qs kl)
      ⟨Ts, 0, kf, [], cs, none, rfl, rfl, Nat.zero_le _, SameN.of s3, s23 _ _ (s12 _ _ h1), s23 _ _ upd_same, upd_same, s3 _ _ hch, hcl, h2, h3, DKey.nil _, (AInv.start ndT hT).congr (fun x t _ => by simp) (fun x t h => by simp at h)⟩ ?_
    rintro m σ' H' ⟨qs, i, kf, kl, cs', v9, rfl, rfl, hi, sN, hF, hL, hQ, hC, hCl, fF, dF, dL, A⟩
    have hql : qs.length ≤ G.n := by
      have := nodup_le A.nd (m := List.range G.n) fun x hx => List.mem_range.mpr (A.sub x hx).1
      rw [List.length_range] at this
      exact this
    have S' := S.mono sN chn
    walk_at "go"
    refine g_len (.inl (SqL.of hQ)) ?_
    walk_at "go"
    rw [List.length_map]
    refine iteB (c' := decide (i < qs.length)) (by congr 1; exact propext ⟨fun h => by omega, fun h => by omega⟩) (fun hlt => ?_) (fun hlt => ?_)
    · have hlt := of_decide_eq_true hlt
      obtain ⟨t0, ht0⟩ : ∃ t0, qs[i]? = some t0 := ⟨_, List.getElem?_eq_getElem hlt⟩
      have ht0m := List.mem_of_getElem? ht0
      have ht0n := (A.sub t0 ht0m).1
      obtain ⟨ca, hca, hcl'⟩ := nl_get S'.hcm (x := t0) (by rw [S'.cl]; exact ht0n)
      have hcmd := S'.cnd t0
      have hcmm := fun x => S'.cmm t0 x ht0n
      generalize hLc : cm.getD t0 [] = L at hcl' hcmd hcmm
      have hat : atI (qs.map fun (n : Nat) => V.int n) (i : Nat) = some (V.int (t0 : Nat)) := atI_nat (by rw [List.getElem?_map, ht0]; rfl)
      have hLn : ∀ x ∈ L, x < G.n := fun x hx => by
        refine Classical.byContradiction fun h => ?_
        have := (hcmm x).mp hx
        unfold Gm.mvs at this
        rw [List.getD_eq_getElem?_getD, List.getElem?_eq_none (by show G.n ≤ x; omega)] at this
        cases this
      have nt0 : t0 ∉ qs.take i := fun h => by
        obtain ⟨j, hj, e⟩ := List.mem_iff_getElem.mp h
        rw [List.length_take] at hj
        rw [List.getElem_take] at e
        exact List.pairwise_iff_getElem.mp A.nd j i (by omega) hlt (by omega) (e.trans (List.getElem?_eq_some_iff.mp ht0).2.symm)
      refine ⟨_, fun _ _ h => h, ?_⟩
      walk_at "go"
      refine g_rfld S'.hx T.c_Solver T.n_Solver_coming rfl ?_
      walk_at "go"
      refine g_ixL (SqL.of hQ) hat ?_
      walk_at "go"
      refine g_ixL (SqL.of S'.hc) (atI_nat (by rw [List.getElem?_map, hca]; rfl)) ?_
      walk_at "go"
      refine g_rforL (SqL.of hcl') (fun j σ' H2 => ∃ (qs' : List Nat) (kf kl : List (Key × V)) (cs' : List Int) (v9 : Option V), σ' = [some (.ref a.x), some (.ref il), some (.int (bN pl)), some (.ref tl), some (.ref Fd), none, some (.ref Ld), some (.ref Qd), some (.int (i : Nat)), v9, none] ∧ qs <+: qs' ∧ SameN [a.ch] H H2 ∧
          H2 Fd = some (.dK kf) ∧ H2 Ld = some (.dK kl) ∧ H2 Qd = some (.lst (qs'.map fun (n : Nat) => V.int n)) ∧ H2 a.ch = some (.lst (cs'.map V.int)) ∧ cs'.length = G.n ∧ Fnd kf qs' ∧ DKey kf G.n ∧ DKey kl G.n ∧ H2 ca = some (.lst (L.map fun (n : Nat) => V.int n)) ∧
          AInv G (insF ins) pl Ts (fun x t => decide (t ∈ qs.take i) || (decide (t = t0) && decide (x ∈ L.take j))) qs' kl)
        ⟨qs, kf, kl, cs', v9, rfl, List.prefix_refl _, sN, hF, hL, hQ, hC, hCl, fF, dF, dL, hcl', A.congr (fun x t _ => by simp) (fun x t h => by simp at h; exact List.mem_of_mem_take h)⟩ (fun j σ' H2 _ ⟨_, _, _, _, _, _, _, _, _, _, _, _, _, _, _, _, z, _⟩ => SqL.of z) ?_ ?_
      · rintro j y σ' H2 hy ⟨qs', kf, kl, cs', v9, rfl, pre, sN2, hF, hL, hQ, hC, hCl, fF, dF, dL, hca2, A⟩
        rw [List.getElem?_map] at hy
        obtain ⟨x, hx, rfl⟩ := Option.map_eq_some_iff.mp hy
        have hxm := List.mem_of_getElem? hx
        have hxn := hLn x hxm
        have hxt : t0 ∈ G.mvs x := (hcmm x).mp hxm
        have S2 := S.mono sN2 chn
        have hil2 : H2 il = some (.lst (ins.map V.bl)) := sN2 _ _ (fun h => nil (List.mem_singleton.mp h)) hil
        have hql' : qs'.length ≤ G.n := by
          have := nodup_le A.nd (m := List.range G.n) fun x hx => List.mem_range.mpr (A.sub x hx).1
          rw [List.length_range] at this
          exact this
        have t0q : t0 ∈ qs' := pre.mem ht0m
        have hxj : x ∉ L.take j := fun h => by
          obtain ⟨j', hj, e⟩ := List.mem_iff_getElem.mp h
          have hjl := (List.getElem?_eq_some_iff.mp hx).1
          rw [List.length_take] at hj
          rw [List.getElem_take] at e
          exact List.pairwise_iff_getElem.mp hcmd j' j (by omega) hjl (by omega) (e.trans (List.getElem?_eq_some_iff.mp hx).2.symm)
        have nD : (decide (t0 ∈ qs.take i) || (decide (t0 = t0) && decide (x ∈ L.take j))) = false := by simp [nt0, hxj]
        have cg : ∀ (qq : List Nat) (ll : List (Key × V)), AInv G (insF ins) pl Ts (addD (fun x t => decide (t ∈ qs.take i) || (decide (t = t0) && decide (x ∈ L.take j))) x t0) qq ll → AInv G (insF ins) pl Ts (fun x t => decide (t ∈ qs.take i) || (decide (t = t0) && decide (x ∈ L.take (j + 1)))) qq ll := fun qq ll B => by
          have e : (addD (fun x t => decide (t ∈ qs.take i) || (decide (t = t0) && decide (x ∈ L.take j))) x t0) = fun x t => decide (t ∈ qs.take i) || (decide (t = t0) && decide (x ∈ L.take (j + 1))) := by
            funext y t
            rw [take_snoc hx]
            unfold addD
            simp only [List.mem_append, List.mem_singleton, Bool.decide_or]
            cases decide (t ∈ qs.take i) <;> cases decide (t = t0) <;> cases decide (y ∈ L.take j) <;> cases decide (y = x) <;> rfl
          rw [← e]
          exact B
        have hins : atI (ins.map V.bl) (x : Nat) = some (V.bl (insF ins x)) := atI_nat (by
          rw [List.getElem?_map, List.getElem?_eq_getElem (by omega)]
          show some (V.bl _) = some (V.bl (ins.getD x false))
          rw [List.getD_eq_getElem?_getD, List.getElem?_eq_getElem (by omega)]
          rfl)
        walk_at "go"
        refine g_ixL (SqL.of hil2) hins ?_
        walk_at "go"
        cases hI : insF ins x with
        | false =>
          refine iteF ?_
          refine iteF ?_
          walk_at "go"
          exact ⟨qs', kf, kl, cs', _, rfl, pre, sN2, hF, hL, hQ, hC, hCl, fF, dF, dL, hca2, cg _ _ (A.skip t0q (.inl hI))⟩
        | true =>
          refine iteT ?_
          walk_at "go"
          refine g_rdn (k := Sum.inl (x : Int)) hF ?_
          walk_at "go"
          rw [fF x]
          by_cases hxq : x ∈ qs'
          · rw [decide_eq_true hxq]
            refine iteF ?_
            walk_at "go"
            exact ⟨qs', kf, kl, cs', _, rfl, pre, sN2, hF, hL, hQ, hC, hCl, fF, dF, dL, hca2, cg _ _ (A.skip t0q (.inr hxq))⟩
          · rw [decide_eq_false hxq]
            refine iteT ?_
            walk_at "go"
            have how : atI (G.os.map fun b => V.int (bN b)) (x : Nat) = some (V.int (bN (G.own x))) := atI_nat (by
              rw [List.getElem?_map, List.getElem?_eq_getElem (by rw [ok.l1]; exact hxn)]
              show some (V.int (bN _)) = some (V.int (bN (G.os.getD x false)))
              rw [List.getD_eq_getElem?_getD, List.getElem?_eq_getElem (by rw [ok.l1]; exact hxn)]
              rfl)
            have hat2 : atI (qs'.map fun (n : Nat) => V.int n) (i : Nat) = some (V.int (t0 : Nat)) := atI_nat (by rw [List.getElem?_map, pre_get pre ht0]; rfl)
            refine g_rfld S2.hx T.c_Solver T.n_Solver_owners rfl ?_
            walk_at "go"
            refine g_ixL (SqL.of S2.ho) how ?_
            walk_at "go"
            rw [show decide (V.int (bN (G.own x)) = V.int (bN pl)) = decide (G.own x = pl) by cases G.own x <;> cases pl <;> rfl]
            have ncF : ca ≠ Fd := ne_of hca2 hF fun z => nomatch z
            have ncL : ca ≠ Ld := ne_of hca2 hL fun z => nomatch z
            have nca : ca ∈ a.stat := by
              have := List.mem_of_getElem? hca
              simp [SvA.stat, this]
            have ncc : ca ≠ a.ch := (S.far ca nca).2
            have ncQ : ca ≠ Qd := fun z => by
              obtain ⟨u, e⟩ := S.some ca nca
              rw [z, zQ] at e
              cases e
            have hFz : H Fd = none := hFd
            by_cases ho : G.own x = pl
            · rw [decide_eq_true ho]
              refine iteT ?_
              walk_at "go"
              refine g_ixL (SqL.of hQ) hat2 ?_
              walk_at "go"
              refine g_rfld S2.hx T.c_Solver T.n_Solver_choice rfl ?_
              walk_at "go"
              refine g_setL hC (by rw [List.length_map, hCl]; exact ixN_of hxn) ?_
              have sN3 : SameN [a.ch] H (upd H2 a.ch (.lst ((cs'.map V.int).set x (.int (t0 : Nat))))) := sN2.trans (SameN.put (List.mem_singleton.mpr rfl))
              have hC3 : upd H2 a.ch (.lst ((cs'.map V.int).set x (.int (t0 : Nat)))) a.ch = some (.lst ((cs'.set x (t0 : Nat)).map V.int)) := by rw [upd_same, List.map_set]
              have hF3 : upd H2 a.ch (.lst ((cs'.map V.int).set x (.int (t0 : Nat)))) Fd = some (.dK kf) := by rw [upd_ne nFc]; exact hF
              have hL3 : upd H2 a.ch (.lst ((cs'.map V.int).set x (.int (t0 : Nat)))) Ld = some (.dK kl) := by rw [upd_ne nLc]; exact hL
              have hQ3 : upd H2 a.ch (.lst ((cs'.map V.int).set x (.int (t0 : Nat)))) Qd = some (.lst (qs'.map fun (n : Nat) => V.int n)) := by rw [upd_ne nQc]; exact hQ
              have hc3 : upd H2 a.ch (.lst ((cs'.map V.int).set x (.int (t0 : Nat)))) ca = some (.lst (L.map fun (n : Nat) => V.int n)) := by rw [upd_ne ncc]; exact hca2
              generalize upd H2 a.ch (.lst ((cs'.map V.int).set x (.int (t0 : Nat)))) = H3 at sN3 hC3 hF3 hL3 hQ3 hc3 ⊢
              walk_at "go"
              refine g_rdp (k := Sum.inl (x : Int)) hF3 (lt_line (by have := dF.len; omega)) ?_
              walk_at "go"
              have hQ4 : upd H3 Fd (.dK (putK kf (Sum.inl (x : Int)) (V.bl true))) Qd = some (.lst (qs'.map fun (n : Nat) => V.int n)) := by rw [upd_ne nFQ.symm]; exact hQ3
              refine g_tyL (SqL.of hQ4) ?_
              walk_at "go"
              refine g_app hQ4 (lt_line (by rw [List.length_map]; omega)) ?_
              walk_at "go"
              refine ⟨qs' ++ [x], putK kf (Sum.inl (x : Int)) (V.bl true), kl, cs'.set x ((t0 : Nat) : Int), _, rfl, pre.trans (List.prefix_append _ _), (sN3.mut hFz).mut zQ, ?_, ?_, ?_, ?_, by rw [List.length_set]; exact hCl, fF.put x (V.bl true), dF.put hxn (V.bl true), dL, ?_, cg _ _ (A.ownS t0q hxt hxn hI hxq ho)⟩
              · rw [upd_ne nFQ, upd_same]
              · rw [upd_ne nLQ, upd_ne nFL.symm]
                exact hL3
              · rw [upd_same, List.map_append]
                rfl
              · rw [upd_ne nQc.symm, upd_ne nFc.symm]
                exact hC3
              · rw [upd_ne ncQ, upd_ne ncF]
                exact hc3
            · rw [decide_eq_false ho]
              refine iteF ?_
              obtain ⟨hv, hcn⟩ := A.opp x hxn hI hxq ho
              generalize hD : (fun x t => decide (t ∈ qs.take i) || (decide (t = t0) && decide (x ∈ L.take j))) = D at A cg hv hcn
              have nDx : D x t0 = false := by rw [← hD]; exact nD
              refine g_tail1 (fun σ' H3 => ∃ (kl3 : List (Key × V)), σ' = [some (.ref a.x), some (.ref il), some (.int (bN pl)), some (.ref tl), some (.ref Fd), none, some (.ref Ld), some (.ref Qd), some (.int (i : Nat)), some (.int (x : Nat)), none] ∧ SameN [a.ch] H H3 ∧ H3 Fd = some (.dK kf) ∧ H3 Ld = some (.dK kl3) ∧
                  H3 Qd = some (.lst (qs'.map fun (n : Nat) => V.int n)) ∧ H3 a.ch = some (.lst (cs'.map V.int)) ∧ H3 ca = some (.lst (L.map fun (n : Nat) => V.int n)) ∧ DKey kl3 G.n ∧ (∀ y : Nat, y ≠ x → valV kl3 (Sum.inl (y : Int)) = valV kl (Sum.inl (y : Int))) ∧
                  valV kl3 (Sum.inl (x : Int)) = some (.int ((insN G (insF ins) x : Int) - (cntD G D x : Nat)))) (fun U hU => ?_) (fun σ' H3 hP => ?_)
              · walk_at "go"
                refine g_rdn (k := Sum.inl (x : Int)) hL ?_
                walk_at "go"
                rw [hv]
                by_cases hz : cntD G D x = 0
                · rw [if_pos hz]
                  refine iteT ?_
                  walk_at "go"
                  refine g_rfld S2.hx T.c_Solver T.n_Solver_moves rfl ?_
                  walk_at "go"
                  obtain ⟨ma, hma, hml⟩ := nl_get S2.hm (x := x) hxn
                  refine g_ixL (SqL.of S2.hv) (atI_nat (by rw [List.getElem?_map, hma]; rfl)) ?_
                  walk_at "go"
                  have hml' : H2 ma = some (.lst ((G.mvs x).map fun (n : Nat) => V.int n)) := hml
                  have mlen : (G.mvs x).length ≤ G.n := by
                    have := nodup_le (ok.nd x) (m := List.range G.n) fun y hy => List.mem_range.mpr (ok.lt x y hy)
                    rw [List.length_range] at this
                    exact this
                  refine g_rlcL (SqL.of hml') fun E hE => ⟨fun i' H' => Same H2 H' ∧ H' E = some (.lst ((((G.mvs x).take i').filter fun t => insF ins t).map fun (n : Nat) => V.int n)), ⟨same_new hE, upd_same⟩, fun i' H' hi ⟨s0, _⟩ => SqL.of (s0 _ _ hml'), fun i' y H' hy ⟨s0, hE0⟩ => ?_, fun H4 ⟨s4, hE4⟩ => ?_⟩
                  · rw [List.getElem?_map] at hy
                    obtain ⟨t, ht, rfl⟩ := Option.map_eq_some_iff.mp hy
                    have htn := ok.lt x t (List.mem_of_getElem? ht)
                    have hins' : atI (ins.map V.bl) (t : Nat) = some (V.bl (insF ins t)) := atI_nat (by
                      rw [List.getElem?_map, List.getElem?_eq_getElem (by omega)]
                      show some (V.bl _) = some (V.bl (ins.getD t false))
                      rw [List.getD_eq_getElem?_getD, List.getElem?_eq_getElem (by omega)]
                      rfl)
                    refine g_turn rfl ?_
                    walk_at "go"
                    refine g_ixL (SqL.of (s0 _ _ hil2)) hins' ?_
                    walk_at "go"
                    cases hIt : insF ins t with
                    | false =>
                      refine iteF ⟨s0, ?_⟩
                      rw [take_snoc ht, List.filter_append, List.filter_cons_of_neg (by rw [hIt]; exact Bool.false_ne_true), List.filter_nil, List.append_nil]
                      exact hE0
                    | true =>
                      refine iteT ?_
                      walk_at "go"
                      refine g_add hE0 (lt_line (by rw [List.length_map]; have := List.length_filter_le (fun t => insF ins t) ((G.mvs x).take i'); rw [List.length_take] at this; omega)) ⟨s0.mut hE, ?_⟩
                      rw [upd_same, take_snoc ht, List.filter_append, List.filter_cons_of_pos hIt, List.filter_nil, List.map_append]
                      rfl
                  · rw [List.take_of_length_le (by rw [List.length_map]; exact Nat.le_refl _)] at hE4
                    walk_at "go"
                    refine g_len (.inl (SqL.of hE4)) ?_
                    walk_at "go"
                    refine g_rdp (k := Sum.inl (x : Int)) (s4 _ _ hL) (lt_line (by have := dL.len; omega)) ?_
                    walk_at "go"
                    refine hU _ _ ⟨_, rfl, (sN2.trans (SameN.of s4)).mut zL, ?_, upd_same, ?_, ?_, ?_, dL.put hxn _, fun y hy => ?_, ?_⟩
                    · rw [upd_ne nFL]
                      exact s4 _ _ hF
                    · rw [upd_ne nLQ.symm]
                      exact s4 _ _ hQ
                    · rw [upd_ne nLc.symm]
                      exact s4 _ _ hC
                    · rw [upd_ne ncL]
                      exact s4 _ _ hca2
                    · rw [valV_put, if_neg fun z => hy (by injection z with z; omega)]
                    · rw [valV_put, if_pos rfl, hz, List.length_map]
                      show some (V.int ((insN G (insF ins) x : Nat) : Int)) = _
                      rw [show ((0 : Nat) : Int) = 0 from rfl, Int.sub_zero]
                · rw [if_neg hz]
                  refine iteF ?_
                  walk_at "go"
                  exact hU _ _ ⟨kl, rfl, sN2, hF, hL, hQ, hC, hca2, dL, fun _ _ => rfl, by rw [hv, if_neg hz]⟩
              · obtain ⟨kl3, rfl, sN3, hF3, hL3, hQ3, hC3, hc3, dL3, ly, lx⟩ := hP
                have lx' : valV (putK kl3 (Sum.inl (x : Int)) (V.int ((insN G (insF ins) x : Int) - (cntD G D x : Nat) - 1))) (Sum.inl (x : Int)) = some (.int ((insN G (insF ins) x : Int) - (cntD G D x : Nat) - 1)) := by rw [valV_put, if_pos rfl]
                have ly' : ∀ y : Nat, y ≠ x → valV (putK kl3 (Sum.inl (x : Int)) (V.int ((insN G (insF ins) x : Int) - (cntD G D x : Nat) - 1))) (Sum.inl (y : Int)) = valV kl (Sum.inl (y : Int)) := fun y hy => by
                  rw [valV_put, if_neg fun z => hy (by injection z with z; omega)]
                  exact ly y hy
                obtain ⟨_, a1, a2⟩ := A.oppS ok t0q hxt nDx hxn hI hxq ho ly' lx'
                walk_at "go"
                refine g_sda ?_ (hm := fun R S h H' q => ?_) (hm2 := fun R S h H' q => ?_) (hm3 := fun R S h H' q => ?_) (hm4 := fun x y H' R S h q => ?_)
                · walk_at "go"
                  refine g_rdg (k := Sum.inl (x : Int)) hL3 lx ?_
                  walk_at "go"
                  refine g_rdp (k := Sum.inl (x : Int)) hL3 (lt_line (by have := dL3.len; omega)) ?_
                  have sN4 : SameN [a.ch] H (upd H3 Ld (.dK (putK kl3 (Sum.inl (x : Int)) (V.int ((insN G (insF ins) x : Int) - (cntD G D x : Nat) - 1))))) := sN3.mut zL
                  have hF4 : upd H3 Ld (.dK (putK kl3 (Sum.inl (x : Int)) (V.int ((insN G (insF ins) x : Int) - (cntD G D x : Nat) - 1)))) Fd = some (.dK kf) := by rw [upd_ne nFL]; exact hF3
                  have hL4 : upd H3 Ld (.dK (putK kl3 (Sum.inl (x : Int)) (V.int ((insN G (insF ins) x : Int) - (cntD G D x : Nat) - 1)))) Ld = some (.dK (putK kl3 (Sum.inl (x : Int)) (V.int ((insN G (insF ins) x : Int) - (cntD G D x : Nat) - 1)))) := upd_same
                  have hQ4 : upd H3 Ld (.dK (putK kl3 (Sum.inl (x : Int)) (V.int ((insN G (insF ins) x : Int) - (cntD G D x : Nat) - 1)))) Qd = some (.lst (qs'.map fun (n : Nat) => V.int n)) := by rw [upd_ne nLQ.symm]; exact hQ3
                  have hC4 : upd H3 Ld (.dK (putK kl3 (Sum.inl (x : Int)) (V.int ((insN G (insF ins) x : Int) - (cntD G D x : Nat) - 1)))) a.ch = some (.lst (cs'.map V.int)) := by rw [upd_ne nLc.symm]; exact hC3
                  have hc4 : upd H3 Ld (.dK (putK kl3 (Sum.inl (x : Int)) (V.int ((insN G (insF ins) x : Int) - (cntD G D x : Nat) - 1)))) ca = some (.lst (L.map fun (n : Nat) => V.int n)) := by rw [upd_ne ncL]; exact hc3
                  have dL4 := dL3.put hxn (V.int ((insN G (insF ins) x : Int) - (cntD G D x : Nat) - 1))
                  generalize upd H3 Ld (.dK (putK kl3 (Sum.inl (x : Int)) (V.int ((insN G (insF ins) x : Int) - (cntD G D x : Nat) - 1)))) = H4 at sN4 hF4 hL4 hQ4 hC4 hc4 ⊢
                  generalize putK kl3 (Sum.inl (x : Int)) (V.int ((insN G (insF ins) x : Int) - (cntD G D x : Nat) - 1)) = kl4 at lx' ly' a1 a2 hL4 dL4
                  walk_at "go"
                  refine g_rdg (k := Sum.inl (x : Int)) hL4 lx' ?_
                  walk_at "go"
                  rw [int_dec]
                  by_cases h0 : (insN G (insF ins) x : Int) - (cntD G D x : Nat) - 1 = 0
                  · rw [decide_eq_true h0]
                    refine iteT ?_
                    walk_at "go"
                    refine g_rdp (k := Sum.inl (x : Int)) hF4 (lt_line (by have := dF.len; omega)) ?_
                    walk_at "go"
                    have hQ5 : upd H4 Fd (.dK (putK kf (Sum.inl (x : Int)) (V.bl true))) Qd = some (.lst (qs'.map fun (n : Nat) => V.int n)) := by rw [upd_ne nFQ.symm]; exact hQ4
                    refine g_tyL (SqL.of hQ5) ?_
                    walk_at "go"
                    refine g_app hQ5 (lt_line (by rw [List.length_map]; omega)) ?_
                    walk_at "go"
                    refine ⟨qs' ++ [x], putK kf (Sum.inl (x : Int)) (V.bl true), kl4, _, _, rfl, pre.trans (List.prefix_append _ _), (sN4.mut hFz).mut zQ, ?_, ?_, ?_, ?_, hCl, fF.put x (V.bl true), dF.put hxn (V.bl true), dL4, ?_, cg _ _ (a1 h0)⟩
                    · rw [upd_ne nFQ, upd_same]
                    · rw [upd_ne nLQ, upd_ne nFL.symm]
                      exact hL4
                    · rw [upd_same, List.map_append]
                      rfl
                    · rw [upd_ne nQc.symm, upd_ne nFc.symm]
                      exact hC4
                    · rw [upd_ne ncQ, upd_ne ncF]
                      exact hc4
                  · rw [decide_eq_false h0]
                    refine iteF ?_
                    walk_at "go"
                    exact ⟨qs', kf, kl4, cs', _, rfl, pre, sN4, hF4, hL4, hQ4, hC4, hCl, fF, dF, dL4, hc4, cg _ _ (a2 h0)⟩
                · obtain ⟨v, e, q⟩ := q
                  exact ⟨v, e, h _ _ q⟩
                · obtain ⟨v, e, q⟩ := q
                  exact ⟨v, e, h _ _ q⟩
                · exact h _ _ q
                · obtain ⟨i, j, e1, e2, q⟩ := q
                  exact ⟨i, j, e1, e2, h _ _ q⟩
      · rintro σ' H2 ⟨qs', kf, kl, cs', v9, rfl, pre, sN2, hF, hL, hQ, hC, hCl, fF, dF, dL, hca2, A⟩
        rw [List.length_map, List.take_length] at A
        walk_at "go"
        have hle := pre.length_le
        refine ⟨G.n + 1 - (i + 1), by omega, qs', i + 1, kf, kl, cs', _, rfl, rfl, by omega, sN2, hF, hL, hQ, hC, hCl, fF, dF, dL, A.congr (fun x t ht => ?_) (fun x t h => List.mem_of_mem_take (of_decide_eq_true h))⟩
        have e1 : qs'.take (i + 1) = qs.take i ++ [t0] := by
          rw [take_snoc (pre_get pre ht0)]
          congr 1
          obtain ⟨r, rfl⟩ := pre
          rw [List.take_append_of_le_length (by omega)]
        rw [e1]
        simp only [List.mem_append, List.mem_singleton, Bool.decide_or]
        by_cases et : t = t0
        · subst et
          rw [decide_eq_true ((hcmm x).mpr ht)]
          simp
        · simp [et]
    · have hlt := of_decide_eq_false hlt
      have : i = qs.length := by omega
      subst this
      rw [List.take_length] at A
      walk_at "go"
      exact k Qd qs H' cs' zQ sN hC hCl hQ (A.fin fun x t _ hq => decide_eq_true hq)
end
end K22

set_option Elab.async false
set_option linter.all false
set_option maxRecDepth 100000
set_option maxHeartbeats 1000000
namespace K22
open PySem PySem.Spec PyProof.Rows L2
local macro_rules | `(tactic| walk_at "go1") => `(tactic| with_reducible first
  | refine g_seq ?_ | refine g_asg ?_ | refine g_name ?_ | refine g_c ?_ | refine g_op ?_ | refine g_cons ?_ | refine g_nil ?_ | refine g_cb ?_ | refine g_call ?_ | refine g_meth ?_
  | refine g_I0 ?_ | refine g_ret ?_ | refine g_retN ?_ | refine g_drop ?_ | refine g_if ?_ | refine g_test ?_ | refine g_tB ?_ | refine g_bool ?_
  | refine g_not ?_ | refine g_and ?_ | refine g_or ?_ | refine g_yes ?_ | refine g_tup ?_ | refine g_lst ?_ | refine g_slice ?_ | refine g_part ?_ | refine g_nopart ?_ | refine g_int ?_ | refine g_fld ?_ | refine g_dget ?_
  | refine g_din ?_ | refine g_dnotin ?_ | refine g_bm0 ?_ | refine g_bm ?_ | refine g_ifexp ?_ | refine g_andv ?_ | refine g_orv ?_ | refine g_notv ?_ | refine g_chain ?_ | refine g_U ?_ | refine g_next ?_ | refine g_brk ?_ | refine g_cont ?_
  | refine g_sfld ?_ | refine g_sdput ?_ | refine g_gtup ?_ | refine g_gcons ?_ | refine g_gnil ?_ | refine g_gsub ?_ | refine g_forT ?_ | refine g_forL ?_ | refine g_forR ?_ | refine g_lcT ?_ | refine g_lcL ?_ | refine g_lcR ?_ | refine g_un ?_ | refine g_sfa ?_ | refine g_ip ?_ | refine g_nin ?_ | refine g_nnot ?_ | refine g_nget ?_ | refine g_nput ?_ | refine g_ndisp ?_ | refine g_addI ?_ | refine g_subI ?_
  | (show Ends.nx _ _ _; refine g_nxm ?_) | (show Ends.rt _ _ _; refine g_rtm ?_) | (show Ends.bk _ _ _; refine g_bkm ?_) | (show Ends.ct _ _ _; refine g_ctm ?_))
local macro_rules | `(tactic| walk_at "go2") => `(tactic| first
  | ((with_reducible show tVar _ _ _ _); refine g_var rfl ?_)
  | ((with_reducible show rEq _ _ _ _); refine g_eq rfl ?_)
  | ((with_reducible show rNe _ _ _ _); refine g_ne rfl ?_)
  | ((with_reducible show tAug _ _ _ _ _ _); refine g_aug rfl ?_))
local macro_rules | `(tactic| walk_at "go") => `(tactic| repeat (first | walk_at "go1" | walk_at "go2"))
section
variable {P : Program} {w : World} {K : PySem.W.Frag} {mg : Str → Option Value} {base : Heap}
abbrev nI (n : Nat) : V := V.int (n : Nat)
/-! ### comprehensions that only look -/
section
variable {σ : L2.St} {H : Hp} {Q : VK} {tt : TT} {te : TE} {vs : List Nat} {i : Nat}
theorem g_filt {l : Addr} {ms : List Nat} (hl : H l = some (.lst (ms.map nI))) (hn : ms.length ≤ 51200) (p : Nat → Bool) (hw : ∀ y, wipe ((wipe σ vs).set i (some y)) vs = wipe σ vs) (hi : ∀ y : V, ((wipe σ vs).set i (some y))[i]? = some (some y))
    (ht : ∀ x ∈ ms, ∀ H', Same H H' → ∀ Qb : Bool → Hp → Prop, Qb (p x) H' → tt ((wipe σ vs).set i (some (nI x))) H' Qb) (k : ∀ E H', H E = none → Same H H' → H' E = some (.lst ((ms.filter p).map nI)) → Q (.ref E) H') : rLcL K (gName i) tt (tVar i) vs σ (.ref l) H Q := by
  refine g_rlcL (SqL.of hl) fun E hE => ⟨fun j H' => Same H H' ∧ H' E = some (.lst (((ms.take j).filter p).map nI)), ⟨same_new hE, upd_same⟩, fun j H' _ ⟨s0, _⟩ => SqL.of (s0 _ _ hl), fun j y H' hy ⟨s0, hE0⟩ => ?_, fun H' ⟨s0, hE0⟩ => ?_⟩
  · rw [List.getElem?_map] at hy
    obtain ⟨t, h, rfl⟩ := Option.map_eq_some_iff.mp hy
    refine g_turn (hw _) (ht t (List.mem_of_getElem? h) H' s0 _ ?_)
    cases e : p t with
    | false =>
      refine iteF ⟨s0, ?_⟩
      rw [take_snoc h, List.filter_append, List.filter_cons_of_neg (by rw [e]; exact Bool.false_ne_true), List.filter_nil, List.append_nil]
      exact hE0
    | true =>
      refine iteT (g_var (hi _) ?_)
      refine g_add hE0 (lt_line (by rw [List.length_map]; have := List.length_filter_le p (ms.take j); rw [List.length_take] at this; omega)) ⟨s0.mut hE, ?_⟩
      rw [upd_same, take_snoc h, List.filter_append, List.filter_cons_of_pos e, List.filter_nil, List.map_append]
      rfl
  · rw [List.length_map, List.take_length] at hE0
    exact k E H' hE s0 hE0
theorem g_filtR {n : Nat} (hn : n ≤ 51200) (p : Nat → Bool) (hw : ∀ y, wipe ((wipe σ vs).set i (some y)) vs = wipe σ vs) (hi : ∀ y : V, ((wipe σ vs).set i (some y))[i]? = some (some y))
    (ht : ∀ x, x < n → ∀ H', Same H H' → ∀ Qb : Bool → Hp → Prop, Qb (p x) H' → tt ((wipe σ vs).set i (some (nI x))) H' Qb) (k : ∀ E H', H E = none → Same H H' → H' E = some (.lst (((List.range n).filter p).map nI)) → Q (.ref E) H') : rLcR (gName i) tt (tVar i) vs σ [nI n] H Q := by
  refine g_rlcR (by omega) fun E hE => ⟨fun j H' => Same H H' ∧ H' E = some (.lst (((List.range j).filter p).map nI)), ⟨same_new hE, upd_same⟩, fun j H' hj ⟨s0, hE0⟩ => ?_, fun H' ⟨s0, hE0⟩ => k E H' hE s0 hE0⟩
  refine g_turn (hw _) (ht j hj H' s0 _ ?_)
  cases e : p j with
  | false =>
    refine iteF ⟨s0, ?_⟩
    rw [List.range_succ, List.filter_append, List.filter_cons_of_neg (by rw [e]; exact Bool.false_ne_true), List.filter_nil, List.append_nil]
    exact hE0
  | true =>
    refine iteT (g_var (hi _) ?_)
    refine g_add hE0 (lt_line (by rw [List.length_map]; have := List.length_filter_le p (List.range j); rw [List.length_range] at this; omega)) ⟨s0.mut hE, ?_⟩
    rw [upd_same, List.range_succ, List.filter_append, List.filter_cons_of_pos e, List.filter_nil, List.map_append]
    rfl
theorem g_mapL {l : Addr} {ms : List Nat} (hl : H l = some (.lst (ms.map nI))) (hn : ms.length ≤ 51200) (f : Nat → Int) (hw : ∀ y, wipe ((wipe σ vs).set i (some y)) vs = wipe σ vs)
    (ht : ∀ x ∈ ms, ∀ H', Same H H' → ∀ Q : VK, Q (.int (f x)) H' → te ((wipe σ vs).set i (some (nI x))) H' Q) (k : ∀ E H', H E = none → Same H H' → H' E = some (.lst ((ms.map f).map V.int)) → Q (.ref E) H') : rLcL K (gName i) tYes te vs σ (.ref l) H Q := by
  refine g_rlcL (SqL.of hl) fun E hE => ⟨fun j H' => Same H H' ∧ H' E = some (.lst (((ms.take j).map f).map V.int)), ⟨same_new hE, upd_same⟩, fun j H' _ ⟨s0, _⟩ => SqL.of (s0 _ _ hl), fun j y H' hy ⟨s0, hE0⟩ => ?_, fun H' ⟨s0, hE0⟩ => ?_⟩
  · rw [List.getElem?_map] at hy
    obtain ⟨t, h, rfl⟩ := Option.map_eq_some_iff.mp hy
    refine g_turn (hw _) (g_yes (iteT (ht t (List.mem_of_getElem? h) H' s0 _ ?_)))
    refine g_add hE0 (lt_line (by rw [List.length_map, List.length_map, List.length_take]; omega)) ⟨s0.mut hE, ?_⟩
    rw [upd_same, take_snoc h, List.map_append, List.map_append]
    rfl
  · rw [List.length_map, List.take_length] at hE0
    exact k E H' hE s0 hE0
end
/-! ### give -/
theorem at_ins {ins : List Bool} {x : Nat} (h : x < ins.length) : atI (ins.map V.bl) (x : Nat) = some (V.bl (insF ins x)) := atI_nat (by
  rw [List.getElem?_map, List.getElem?_eq_getElem h]
  show some (V.bl _) = some (V.bl (ins.getD x false))
  rw [List.getD_eq_getElem?_getD, List.getElem?_eq_getElem h]
  rfl)
theorem at_int {ws : List Int} {x : Nat} (h : x < ws.length) : atI (ws.map V.int) (x : Nat) = some (V.int (ws.getD x 0)) := atI_nat (by
  rw [List.getElem?_map, List.getElem?_eq_getElem h, List.getD_eq_getElem?_getD, List.getElem?_eq_getElem h]
  rfl)
theorem at_nat {ms : List Nat} {x : Nat} (h : x < ms.length) : atI (ms.map nI) (x : Nat) = some (nI (ms.getD x 0)) := atI_nat (by
  rw [List.getElem?_map, List.getElem?_eq_getElem h, List.getD_eq_getElem?_getD, List.getElem?_eq_getElem h]
  rfl)
theorem at_own {os : List Bool} {x : Nat} (h : x < os.length) : atI (os.map fun b => V.int (bN b)) (x : Nat) = some (V.int (bN (os.getD x false))) := atI_nat (by
  rw [List.getElem?_map, List.getElem?_eq_getElem h, List.getD_eq_getElem?_getD, List.getElem?_eq_getElem h]
  rfl)
theorem getD_set {α : Type} (l : List α) (i j : Nat) (a d : α) (h : i < l.length) : (l.set i a).getD j d = if j = i then a else l.getD j d := by
  rw [List.getD_eq_getElem?_getD, List.getD_eq_getElem?_getD, List.getElem?_set]
  by_cases e : i = j
  · subst e
    rw [if_pos rfl, if_pos h, if_pos rfl]
    rfl
  · rw [if_neg e, if_neg fun z => e z.symm]
def spGive (K : PySem.W.Frag) : Sp := fun vs H Q _ => ∃ (a : SvA) (G : Gm) (cm : List (List Nat)) (il ql : Addr) (ins : List Bool) (pl : Bool) (Qs : List Nat) (ws : List Int), vs = [.ref a.x, .ref il, .int (bN pl), .ref ql] ∧ SvAt K H a G cm ∧ IL H il ins ∧ ins.length = G.n ∧ il ≠ a.wl ∧ il ∉ a.stat ∧
  H ql = some (.lst (Qs.map nI)) ∧ ql ≠ a.wl ∧ ql ≠ il ∧ (∀ x ∈ Qs, x < G.n) ∧ H a.wl = some (.lst (ws.map V.int)) ∧ ws.length = G.n ∧
  ∀ (H' : Hp) (ws' : List Int) (ins' : List Bool), SameN [a.wl, il] H H' → H' a.wl = some (.lst (ws'.map V.int)) → ws'.length = G.n → IL H' il ins' → ins'.length = G.n →
    (∀ x, ws'.getD x 0 = if x ∈ Qs then bN pl else ws.getD x 0) → (∀ x, insF ins' x = minus (insF ins) Qs x) → Q .non H'
-- slots of Solver.give: 0:self 1:inside 2:player 3:positions 4:position
abbrev n_Solver_give : List Str := ["self", "inside", "player", "positions", "position"]
theorem sc_Solver_give : FnScope n_Solver_give p_Solver_give (defScope s_Solver_give) := ⟨rfl, rfl, rfl, by decide +kernel, rfl, by decide +kernel, by decide +kernel⟩
theorem ok_Solver_give (T : Top w K mg) : Ok P w K mg base 1 a_Solver_give p_Solver_give (spGive K) := by
  refine T.F_Solver_give.ok sc_Solver_give (fun vs H Q E h => ?_) (fun cdv A outer s H vs Q E hr h => ?_)
  · obtain ⟨a, G, cm, il, ql, ins, pl, Qs, ws, rfl, _⟩ := h
    rfl
  · obtain ⟨a, G, cm, il, ql, ins, pl, Qs, ws, rfl, S, hil, hin, niw, nis, hql, nqw, nqi, hQ, hw, hwl, k⟩ := h
    refine ⟨_, PSs.nox (pss_one (ps_for PassesOwn.never rfl (kpi_list K (pv 3)) (pg_name (i := 4) sc_Solver_give.nd rfl (Or.inl rfl)) (pss_cons (ps_asg (pv 2) (pg_sub (kpe_fld K (pv 0)) (pv 4) set_list))
      (pss_one (ps_asg pe_bl (pg_sub (pv 1) (pv 4) set_list)))))), ?_⟩
    have far : ∀ b ∈ a.stat, b ∉ [a.wl, il] := fun b hb h => by
      rcases List.mem_cons.mp h with h | h
      · exact (S.far b hb).1 h
      · exact nis (List.mem_singleton.mp h ▸ hb)
    walk_at "go"
    refine g_rforL (SqL.of hql) (fun j σ' H' => ∃ (ws' : List Int) (ins' : List Bool) (v : Option V), σ' = [some (.ref a.x), some (.ref il), some (.int (bN pl)), some (.ref ql), v] ∧ SameN [a.wl, il] H H' ∧ H' a.wl = some (.lst (ws'.map V.int)) ∧ ws'.length = G.n ∧ IL H' il ins' ∧ ins'.length = G.n ∧
        (∀ x, ws'.getD x 0 = if x ∈ Qs.take j then bN pl else ws.getD x 0) ∧ (∀ x, insF ins' x = minus (insF ins) (Qs.take j) x))
      ⟨ws, ins, none, rfl, fun _ _ _ e => e, hw, hwl, hil, hin, (fun x => by simp), (fun x => by simp [minus])⟩ (fun j σ' H' _ ⟨_, _, _, _, sN, _⟩ => SqL.of (sN _ _ (by simp [nqw, nqi]) hql)) ?_ ?_
    · rintro j y σ' H' hy ⟨ws', ins', v, rfl, sN, h1, h2, h3, h4, h5, h6⟩
      rw [List.getElem?_map] at hy
      obtain ⟨x, hx, rfl⟩ := Option.map_eq_some_iff.mp hy
      have hxn := hQ x (List.mem_of_getElem? hx)
      have S' := S.mono sN far
      walk_at "go"
      refine g_rfld S'.hx T.c_Solver T.n_Solver_winner rfl ?_
      walk_at "go"
      refine g_setL h1 (by rw [List.length_map, h2]; exact ixN_of hxn) ?_
      walk_at "go"
      have h3' : upd H' a.wl (.lst ((ws'.map V.int).set x (.int (bN pl)))) il = some (.lst (ins'.map V.bl)) := by rw [upd_ne niw]; exact h3
      refine g_setL h3' (by rw [List.length_map, h4]; exact ixN_of hxn) ?_
      walk_at "go"
      refine ⟨ws'.set x (bN pl), ins'.set x false, _, rfl, (sN.trans (SameN.put (by simp))).trans (SameN.put (by simp)), by rw [upd_ne niw.symm, upd_same, List.map_set], by rw [List.length_set]; exact h2, (show upd _ il _ il = _ by rw [upd_same, List.map_set]), by rw [List.length_set]; exact h4, fun z => ?_, fun z => ?_⟩
      · rw [getD_set _ _ _ _ _ (by omega), take_snoc hx, h5 z]
        by_cases e : z = x
        · subst e
          simp
        · simp [e]
      · show (ins'.set x false).getD z false = _
        rw [getD_set _ _ _ _ _ (by omega), take_snoc hx]
        have := h6 z
        unfold insF at this
        rw [this]
        by_cases e : z = x
        · subst e
          simp [minus]
        · simp [minus, e]
    · rintro σ' H' ⟨ws', ins', v, rfl, sN, h1, h2, h3, h4, h5, h6⟩
      rw [List.length_map, List.take_length] at h5 h6
      walk_at "go"
      exact k H' ws' ins' sN h1 h2 h3 h4 h5 h6
end
end K22

set_option Elab.async false
set_option linter.all false
set_option maxRecDepth 100000
set_option maxHeartbeats 1000000
namespace K22
open PySem PySem.Spec PyProof.Rows L2
local macro_rules | `(tactic| walk_at "go1") => `(tactic| with_reducible first
  | refine g_seq ?_ | refine g_asg ?_ | refine g_name ?_ | refine g_c ?_ | refine g_op ?_ | refine g_cons ?_ | refine g_nil ?_ | refine g_cb ?_ | refine g_call ?_ | refine g_meth ?_
  | refine g_I0 ?_ | refine g_ret ?_ | refine g_retN ?_ | refine g_drop ?_ | refine g_if ?_ | refine g_test ?_ | refine g_tB ?_ | refine g_bool ?_
  | refine g_not ?_ | refine g_and ?_ | refine g_or ?_ | refine g_yes ?_ | refine g_tup ?_ | refine g_lst ?_ | refine g_slice ?_ | refine g_part ?_ | refine g_nopart ?_ | refine g_int ?_ | refine g_fld ?_ | refine g_dget ?_
  | refine g_din ?_ | refine g_dnotin ?_ | refine g_bm0 ?_ | refine g_bm ?_ | refine g_ifexp ?_ | refine g_andv ?_ | refine g_orv ?_ | refine g_notv ?_ | refine g_chain ?_ | refine g_U ?_ | refine g_next ?_ | refine g_brk ?_ | refine g_cont ?_
  | refine g_sfld ?_ | refine g_sdput ?_ | refine g_gtup ?_ | refine g_gcons ?_ | refine g_gnil ?_ | refine g_gsub ?_ | refine g_forT ?_ | refine g_forL ?_ | refine g_forR ?_ | refine g_lcT ?_ | refine g_lcL ?_ | refine g_lcR ?_ | refine g_un ?_ | refine g_sfa ?_ | refine g_ip ?_ | refine g_nin ?_ | refine g_nnot ?_ | refine g_nget ?_ | refine g_nput ?_ | refine g_ndisp ?_ | refine g_addI ?_ | refine g_subI ?_
  | (show Ends.nx _ _ _; refine g_nxm ?_) | (show Ends.rt _ _ _; refine g_rtm ?_) | (show Ends.bk _ _ _; refine g_bkm ?_) | (show Ends.ct _ _ _; refine g_ctm ?_))
local macro_rules | `(tactic| walk_at "go2") => `(tactic| first
  | ((with_reducible show tVar _ _ _ _); refine g_var rfl ?_)
  | ((with_reducible show rEq _ _ _ _); refine g_eq rfl ?_)
  | ((with_reducible show rNe _ _ _ _); refine g_ne rfl ?_)
  | ((with_reducible show tAug _ _ _ _ _ _); refine g_aug rfl ?_))
local macro_rules | `(tactic| walk_at "go") => `(tactic| repeat (first | walk_at "go1" | walk_at "go2"))
section
variable {P : Program} {w : World} {K : PySem.W.Frag} {mg : Str → Option Value} {base : Heap}
/-- what a call of solve leaves -/
structure Solved (G : Gm) (I : Nat → Bool) (ws ws' : List Int) : Prop where
  ex : ∃ w : Nat → Bool, Sep G I w ∧ ∀ x, I x = true → ws'.getD x 0 = bN (w x)
  out : ∀ x, I x = false → ws'.getD x 0 = ws.getD x 0
def spSolve (K : PySem.W.Frag) : Nat → Sp
  | 0 => fun _ _ _ _ => False
  | n + 1 => fun vs H Q _ => ∃ (a : SvA) (G : Gm) (cm : List (List Nat)) (il : Addr) (ins : List Bool) (ws cs : List Int), vs = [.ref a.x, .ref il] ∧ SvAt K H a G cm ∧ IL H il ins ∧ ins.length = G.n ∧ il ≠ a.wl ∧ il ≠ a.ch ∧ il ∉ a.stat ∧
    H a.wl = some (.lst (ws.map V.int)) ∧ ws.length = G.n ∧ H a.ch = some (.lst (cs.map V.int)) ∧ cs.length = G.n ∧ Live G (insF ins) ∧ (∀ x, insF ins x = true → G.pri x < n) ∧
    ∀ (H' : Hp) (ws' cs' : List Int), SameN [a.wl, a.ch, il] H H' → H' a.wl = some (.lst (ws'.map V.int)) → ws'.length = G.n → H' a.ch = some (.lst (cs'.map V.int)) → cs'.length = G.n → Solved G (insF ins) ws ws' → Q .non H'
/-- where the loop of solve stands: J is what is left of I -/
structure SvLoop (G : Gm) (I J : Nat → Bool) (ws ws' : List Int) : Prop where
  sub : ∀ x, J x = true → I x = true
  live : Live G J
  go : ∀ w', Sep G J w' → ∃ w, Sep G I w ∧ (∀ x, J x = true → w x = w' x) ∧ ∀ x, I x = true → J x = false → ws'.getD x 0 = bN (w x)
  out : ∀ x, I x = false → ws'.getD x 0 = ws.getD x 0
-- slots of Solver.solve: 0:self* 1:inside* 2:rest 3:k 4:top* 5:player* 6:heads 7:near 8:inner* 9:position 10:kept 11:lost 12:choices 13:gone
abbrev n_Solver_solve : List Str := ["self", "inside", "rest", "k", "top", "player", "heads", "near", "inner", "position", "kept", "lost", "choices", "gone"]
theorem sc_Solver_solve : FnScope n_Solver_solve p_Solver_solve (defScope s_Solver_solve) := ⟨rfl, rfl, rfl, by decide +kernel, rfl, by decide +kernel, by decide +kernel⟩
theorem ok_Solver_solve (T : Top w K mg) (n : Nat) : Ok P w K mg base (n + 1) a_Solver_solve p_Solver_solve (spSolve K n) := by
  induction n with
  | zero => exact ok_none fun vs H Q E h => h
  | succ n G_Solver_solve =>
    have G_Solver_attracted := ok_Solver_attracted (P := P) (base := base) T
    have G_Solver_give := ok_Solver_give (P := P) (base := base) T
    refine T.F_Solver_solve.ok sc_Solver_solve (fun vs H Q E h => ?_) (fun cdv A outer s H vs Q E hr h => ?_)
    · obtain ⟨a, G, cm, il, ins, ws, cs, rfl, _⟩ := h
      rfl
    · obtain ⟨a, G, cm, il, ins, ws, cs, rfl, S, hil, hin, niw, nic, nis, hw, hwl, hc, hcl, hlive, hpri, k⟩ := h
      refine ⟨_, PSs.nox (pss_cons (ps_setLc (i := 2) (own := [("k", 3)]) (g := gName 3) rfl sc_Solver_solve.nd rfl rfl (sw_true rfl rfl rfl (by decide +kernel)) (pi_range1 (by rfl) T.z_range (pa_cons (kpe_fld K (pv 0)) pa_nil)) (blkOk_by (N := n_Solver_solve) (sc := (defScope s_Solver_solve)) (by decide +kernel)) (fun _ _ _ _ _ => (pg_name (i := 3) sc_Solver_solve.nd rfl (Or.inl rfl))) (fun _ _ _ _ _ => (pts_one (pt_val (pe_ix (ki_list K) (pv 1) (pv 3) (fun _ _ => rfl))))) (fun _ _ _ _ _ => (pv 3)))
    (pss_one (ps_while PassesOwn.never (pt_cmpR op_gt (pe_callB (kc_len K) (by rfl) T.z_len bt_len (pa_cons (pv 2) pa_nil)) pe_int (nomark _)) (pss_cons (ps_set (i := 4) sc_Solver_solve.nd rfl (Or.inr rfl) (pe_callB (kc_max K) (by rfl) T.z_max bt_max (pa_cons (pe_lc (own := [("k", 3)]) (g := gName 3) (tt := tYes) rfl sc_Solver_solve.nd (kpi_list K (pv 2)) (blkOk_by (N := n_Solver_solve) (sc := (defScope s_Solver_solve)) (by decide +kernel)) (fun _ _ _ _ _ => (pg_name (i := 3) sc_Solver_solve.nd rfl (Or.inl rfl))) (fun _ _ _ _ _ => pts_nil) (fun _ _ _ _ _ => (pe_ix (ki_list K) (kpe_fld K (pv 0)) (pv 3) (fun _ _ => rfl)))) pa_nil)))
      (pss_cons (ps_set (i := 5) sc_Solver_solve.nd rfl (Or.inr rfl) (pe_op op_mod (pv 4) pe_int))
      (pss_cons (ps_setLc (i := 6) (own := [("k", 3)]) (g := gName 3) rfl sc_Solver_solve.nd rfl rfl (sw_true rfl rfl rfl (by decide +kernel)) (kpi_list K (pv 2)) (blkOk_by (N := n_Solver_solve) (sc := (defScope s_Solver_solve)) (by decide +kernel)) (fun _ _ _ _ _ => (pg_name (i := 3) sc_Solver_solve.nd rfl (Or.inl rfl))) (fun _ _ _ _ _ => (pts_one (pt_cmpR op_eq (pe_ix (ki_list K) (kpe_fld K (pv 0)) (pv 3) (fun _ _ => rfl)) (pv 4) (nomark _)))) (fun _ _ _ _ _ => (pv 3)))
      (pss_cons (ps_set (i := 7) sc_Solver_solve.nd rfl (Or.inl rfl) (pe_meth (pv 0) T.c_Solver T.t_Solver_attracted G_Solver_attracted (hr.mono (by omega)) T.b_Solver_attracted .nil pass0 (pa_cons (pv 1) (pa_cons (pv 5) (pa_cons (pv 6) pa_nil)))))
      (pss_cons (ps_set (i := 8) sc_Solver_solve.nd rfl (Or.inr rfl) (pe_callTy (kc_list K) (by rfl) T.z_list bt_list (pa_cons (pv 1) pa_nil)))
      (pss_cons (ps_for PassesOwn.never rfl (kpi_list K (pv 7)) (pg_name (i := 9) sc_Solver_solve.nd rfl (Or.inl rfl)) (pss_one (ps_asg pe_bl (pg_sub (pv 8) (pv 9) set_list))))
      (pss_cons (ps_setLc (i := 10) (own := [("k", 3)]) (g := gName 3) rfl sc_Solver_solve.nd rfl rfl (sw_true rfl rfl rfl (by decide +kernel)) (kpi_list K (pv 2)) (blkOk_by (N := n_Solver_solve) (sc := (defScope s_Solver_solve)) (by decide +kernel)) (fun _ _ _ _ _ => (pg_name (i := 3) sc_Solver_solve.nd rfl (Or.inl rfl))) (fun _ _ _ _ _ => (pts_one (pt_val (pe_ix (ki_list K) (pv 8) (pv 3) (fun _ _ => rfl))))) (fun _ _ _ _ _ => (pv 3)))
      (pss_cons (ps_expr (pe_meth (pv 0) T.c_Solver T.t_Solver_solve G_Solver_solve (hr.mono (by omega)) T.b_Solver_solve .nil pass0 (pa_cons (pv 8) pa_nil)))
      (pss_cons (ps_setLc (i := 11) (own := [("k", 3)]) (g := gName 3) rfl sc_Solver_solve.nd rfl rfl (sw_true rfl rfl rfl (by decide +kernel)) (kpi_list K (pv 10)) (blkOk_by (N := n_Solver_solve) (sc := (defScope s_Solver_solve)) (by decide +kernel)) (fun _ _ _ _ _ => (pg_name (i := 3) sc_Solver_solve.nd rfl (Or.inl rfl))) (fun _ _ _ _ _ => (pts_one (pt_cmpR op_ne (pe_ix (ki_list K) (kpe_fld K (pv 0)) (pv 3) (fun _ _ => rfl)) (pv 5) (nomark _)))) (fun _ _ _ _ _ => (pv 3)))
      (pss_cons (ps_if (pt_cmpR op_eq (pe_callB (kc_len K) (by rfl) T.z_len bt_len (pa_cons (pv 11) pa_nil)) pe_int (nomark _)) (pss_cons (ps_for PassesOwn.never rfl (kpi_list K (pv 6)) (pg_name (i := 9) sc_Solver_solve.nd rfl (Or.inl rfl)) (pss_one (ps_if (pt_cmpR op_eq (pe_ix (ki_list K) (kpe_fld K (pv 0)) (pv 9) (fun _ _ => rfl)) (pv 5) (nomark _)) (pss_one (ps_asg (pe_ix (ki_list K) (pe_lc (own := [("k", 3)]) (g := gName 3) rfl sc_Solver_solve.nd (kpi_list K (pe_ix (ki_list K) (kpe_fld K (pv 0)) (pv 9) (fun _ _ => rfl))) (blkOk_by (N := n_Solver_solve) (sc := (defScope s_Solver_solve)) (by decide +kernel)) (fun _ _ _ _ _ => (pg_name (i := 3) sc_Solver_solve.nd rfl (Or.inl rfl))) (fun _ _ _ _ _ => (pts_one (pt_val (pe_ix (ki_list K) (pv 1) (pv 3) (fun _ _ => rfl))))) (fun _ _ _ _ _ => (pv 3))) pe_int (fun _ _ => rfl)) (pg_sub (kpe_fld K (pv 0)) (pv 9) set_list))) pss_nil)))
        (pss_one (ps_expr (pe_meth (pv 0) T.c_Solver T.t_Solver_give G_Solver_give (hr.mono (by omega)) T.b_Solver_give .nil pass0 (pa_cons (pv 1) (pa_cons (pv 5) (pa_cons (pv 2) pa_nil))))))) (pss_cons (ps_setLc (i := 12) (own := [("k", 3)]) (g := gName 3) (tt := tYes) rfl sc_Solver_solve.nd rfl rfl (sw_true rfl rfl rfl (by decide +kernel)) (kpi_list K (pv 11)) (blkOk_by (N := n_Solver_solve) (sc := (defScope s_Solver_solve)) (by decide +kernel)) (fun _ _ _ _ _ => (pg_name (i := 3) sc_Solver_solve.nd rfl (Or.inl rfl))) (fun _ _ _ _ _ => pts_nil) (fun _ _ _ _ _ => (pe_ix (ki_list K) (kpe_fld K (pv 0)) (pv 3) (fun _ _ => rfl))))
        (pss_cons (ps_set (i := 13) sc_Solver_solve.nd rfl (Or.inl rfl) (pe_meth (pv 0) T.c_Solver T.t_Solver_attracted G_Solver_attracted (hr.mono (by omega)) T.b_Solver_attracted .nil pass0 (pa_cons (pv 1) (pa_cons (pe_op op_sub pe_int (pv 5)) (pa_cons (pv 11) pa_nil)))))
        (pss_cons (ps_for PassesOwn.never rfl (pi_range1 (by rfl) T.z_range (pa_cons (pe_callB (kc_len K) (by rfl) T.z_len bt_len (pa_cons (pv 11) pa_nil)) pa_nil)) (pg_name (i := 3) sc_Solver_solve.nd rfl (Or.inl rfl)) (pss_one (ps_asg (pe_ix (ki_list K) (pv 12) (pv 3) (fun _ _ => rfl)) (pg_sub (kpe_fld K (pv 0)) (pe_ix (ki_list K) (pv 11) (pv 3) (fun _ _ => rfl)) set_list))))
        (pss_one (ps_expr (pe_meth (pv 0) T.c_Solver T.t_Solver_give G_Solver_give (hr.mono (by omega)) T.b_Solver_give .nil pass0 (pa_cons (pv 1) (pa_cons (pe_op op_sub pe_int (pv 5)) (pa_cons (pv 13) pa_nil))))))))))
      (pss_one (ps_setLc (i := 2) (own := [("k", 3)]) (g := gName 3) rfl sc_Solver_solve.nd rfl rfl (sw_true rfl rfl rfl (by decide +kernel)) (pi_range1 (by rfl) T.z_range (pa_cons (kpe_fld K (pv 0)) pa_nil)) (blkOk_by (N := n_Solver_solve) (sc := (defScope s_Solver_solve)) (by decide +kernel)) (fun _ _ _ _ _ => (pg_name (i := 3) sc_Solver_solve.nd rfl (Or.inl rfl))) (fun _ _ _ _ _ => (pts_one (pt_val (pe_ix (ki_list K) (pv 1) (pv 3) (fun _ _ => rfl))))) (fun _ _ _ _ _ => (pv 3))))))))))))))))), ?_⟩
      have ok := S.ok
      have nle := ok.le
      have far : ∀ b ∈ a.stat, b ∉ [a.wl, a.ch, il] := fun b hb h => by
        rcases List.mem_cons.mp h with h | h
        · exact (S.far b hb).1 h
        · rcases List.mem_cons.mp h with h | h
          · exact (S.far b hb).2 h
          · exact nis (List.mem_singleton.mp h ▸ hb)
      have insn : ∀ (l : List Bool) x, l.length = G.n → insF l x = true → x < G.n := fun l x hl h => by
        refine Classical.byContradiction fun ge => ?_
        unfold insF at h
        rw [List.getD_eq_getElem?_getD, List.getElem?_eq_none (by omega)] at h
        cases h
      walk_at "go"
      refine g_rfld S.hx T.c_Solver T.n_Solver_count rfl ?_
      walk_at "go"
      refine g_filtR nle (insF ins) (fun _ => rfl) (fun _ => rfl) (fun x hx H' s0 Qb q => ?_) fun rl H1 hE s1 hrl => ?_
      · walk_at "go"
        refine g_ixL (SqL.of (s0 _ _ hil)) (at_ins (by omega)) ?_
        walk_at "go"
        exact q
      walk_at "go"
      have wn : H a.wl ≠ none := fun e => by rw [hw] at e; cases e
      have cn : H a.ch ≠ none := fun e => by rw [hc] at e; cases e
      have iln : H il ≠ none := fun e => by
        have : H il = _ := hil
        rw [this] at e
        cases e
      have nw : ∀ {b : Addr}, H b = none → b ≠ a.wl := fun h e => wn (e ▸ h)
      have nc : ∀ {b : Addr}, H b = none → b ≠ a.ch := fun h e => cn (e ▸ h)
      have ni : ∀ {b : Addr}, H b = none → b ≠ il := fun h e => iln (e ▸ h)
      have n3 : ∀ {b : Addr}, H b = none → b ∉ [a.wl, a.ch, il] := fun h e => by
        simp only [List.mem_cons, List.not_mem_nil, or_false] at e
        rcases e with e | e | e
        · exact nw h e
        · exact nc h e
        · exact ni h e
      refine g_while (W := fun m σ' H' => ∃ (ins' : List Bool) (ws' cs' : List Int) (rl : Addr) (v3 v4 v5 v6 v7 v8 v9 v10 v11 v12 v13 : Option V), σ' = [some (.ref a.x), some (.ref il), some (.ref rl), v3, v4, v5, v6, v7, v8, v9, v10, v11, v12, v13] ∧ m = ((List.range G.n).filter (insF ins')).length ∧ H rl = none ∧
          H' rl = some (.lst (((List.range G.n).filter (insF ins')).map nI)) ∧ IL H' il ins' ∧ ins'.length = G.n ∧ H' a.wl = some (.lst (ws'.map V.int)) ∧ ws'.length = G.n ∧ H' a.ch = some (.lst (cs'.map V.int)) ∧ cs'.length = G.n ∧ SameN [a.wl, a.ch, il] H H' ∧ SvLoop G (insF ins) (insF ins') ws ws')
        ⟨ins, ws, cs, rl, _, _, _, _, _, _, _, _, _, _, _, rfl, rfl, hE, hrl, s1 _ _ hil, hin, s1 _ _ hw, hwl, s1 _ _ hc, hcl, SameN.of s1, ⟨fun _ h => h, hlive, fun w' hw' => ⟨w', hw', fun _ _ => rfl, fun x h1 h2 => by rw [h1] at h2; cases h2⟩, fun _ _ => rfl⟩⟩ ?_
      clear hE hrl s1 rl H1
      rintro m σ' H1 ⟨ins1, ws1, cs1, rl, v3, v4, v5, v6, v7, v8, v9, v10, v11, v12, v13, rfl, rfl, zrl, hrl, hil1, hin1, hw1, hwl1, hc1, hcl1, sN1, LP⟩
      have S1 := S.mono sN1 far
      have memr : ∀ x, x ∈ (List.range G.n).filter (insF ins1) ↔ insF ins1 x = true := fun x => by
        rw [List.mem_filter, List.mem_range]
        exact ⟨fun h => h.2, fun h => ⟨insn _ x hin1 h, h⟩⟩
      have hrn : ((List.range G.n).filter (insF ins1)).length ≤ G.n := by
        have := List.length_filter_le (insF ins1) (List.range G.n)
        rw [List.length_range] at this
        exact this
      have ndr : ((List.range G.n).filter (insF ins1)).Nodup := List.Pairwise.filter _ List.nodup_range
      generalize hR : (List.range G.n).filter (insF ins1) = R at hrl memr hrn ndr ⊢
      have hil1' : H1 il = some (.lst (ins1.map V.bl)) := hil1
      have fr1 : ∀ b, H1 b = none → b ≠ a.wl ∧ b ≠ a.ch ∧ b ≠ il ∧ H b = none := fun b e => by
        have e1 : b ≠ a.wl := fun z => by rw [z, hw1] at e; cases e
        have e2 : b ≠ a.ch := fun z => by rw [z, hc1] at e; cases e
        have e3 : b ≠ il := fun z => by rw [z, hil1'] at e; cases e
        exact ⟨e1, e2, e3, sN1.free (by simp [e1, e2, e3]) e⟩
      have rw1 : rl ≠ a.wl := nw zrl
      have rc1 : rl ≠ a.ch := nc zrl
      have ri1 : rl ≠ il := ni zrl
      walk_at "go"
      refine g_len (.inl (SqL.of hrl)) ?_
      walk_at "go"
      rw [List.length_map]
      refine iteB (c' := decide (0 < R.length)) (by congr 1; exact propext ⟨fun h => by omega, fun h => by omega⟩) (fun hlt => ?_) (fun hlt => ?_)
      · have hlt := of_decide_eq_true hlt
        refine ⟨_, fun _ _ h => h, ?_⟩
        walk_at "go"
        refine g_mapL hrl (by omega) (fun x => (G.pri x : Nat)) (fun _ => rfl) (fun x hx H' s0 Qb q => ?_) fun ml H2 zml s2 hml => ?_
        · have hxn := insn _ x hin1 ((memr x).mp hx)
          walk_at "go"
          refine g_rfld (s0 _ _ S1.hx) T.c_Solver T.n_Solver_priorities rfl ?_
          walk_at "go"
          refine g_ixL (SqL.of (s0 _ _ S1.hp)) (at_nat (by rw [ok.l2]; exact hxn)) ?_
          exact q
        walk_at "go"
        refine ⟨ml, _, rfl, SqL.of hml, by rw [List.length_map]; exact hlt, fun m hm hmax => ?_⟩
        obtain ⟨x0, hx0, rfl⟩ := List.mem_map.mp hm
        have htop : ∀ x, insF ins1 x = true → G.pri x ≤ G.pri x0 := fun x hx => by
          have := hmax _ (List.mem_map.mpr ⟨x, (memr x).mpr hx, rfl⟩)
          omega
        have hx0i := (memr x0).mp hx0
        have hlt0 := hpri x0 (LP.sub x0 hx0i)
        generalize htp : G.pri x0 = top at htop hlt0
        walk_at "go"
        refine g_I (show (0 : Int) < 2 by decide) ?_
        walk_at "go"
        have epl : ((top : Nat) : Int) % 2 = bN (top % 2 == 1) := by
          have : top % 2 = 0 ∨ top % 2 = 1 := by omega
          rcases this with h | h
          · rw [h]
            show ((top : Nat) : Int) % 2 = 0
            omega
          · rw [h]
            show ((top : Nat) : Int) % 2 = 1
            omega
        rw [epl]
        generalize hpl : (top % 2 == 1) = pl
        -- heads
        refine g_filt (s2 _ _ hrl) (by omega) (fun x => decide (G.pri x = top)) (fun _ => rfl) (fun _ => rfl) (fun x hx H' s0 Qb q => ?_) fun hl H3 zhl s3 hhl => ?_
        · have hxn := insn _ x hin1 ((memr x).mp hx)
          walk_at "go"
          refine g_rfld (s0 _ _ (s2 _ _ S1.hx)) T.c_Solver T.n_Solver_priorities rfl ?_
          walk_at "go"
          refine g_ixL (SqL.of (s0 _ _ (s2 _ _ S1.hp))) (at_nat (by rw [ok.l2]; exact hxn)) ?_
          walk_at "go"
          have : decide (V.int ((G.prs.getD x 0 : Nat) : Int) = V.int ((top : Nat) : Int)) = decide (G.pri x = top) := nat_dec _ _
          rw [this]
          exact q
        have s13 := s2.trans s3
        have hH : ∀ x, x ∈ R.filter (fun x => decide (G.pri x = top)) ↔ insF ins1 x = true ∧ G.pri x = top := fun x => by
          rw [List.mem_filter, memr, decide_eq_true_iff]
        have ndH : (R.filter fun x => decide (G.pri x = top)).Nodup := List.Pairwise.filter _ ndr
        have hHn : (R.filter fun x => decide (G.pri x = top)).length ≤ G.n := Nat.le_trans (List.length_filter_le _ _) hrn
        generalize hHe : R.filter (fun x => decide (G.pri x = top)) = Hd at hhl hH ndH hHn
        obtain ⟨hlw, hlc, hli, zhl0⟩ := fr1 hl (s2.free zhl)
        walk_at "go"
        refine g_rm (s13 _ _ S1.hx) rfl ?_
        walk_at "go"
        refine ⟨a, G, cm, il, hl, ins1, pl, Hd, cs1, rfl, S1.mono (ws := []) (fun b u _ e => s13 _ _ e) (fun _ _ h => nomatch h), s13 _ _ hil1, hin1, nic, hhl, hlc, ndH, fun t ht => ⟨insn _ t hin1 ((hH t).mp ht).1, ((hH t).mp ht).1⟩, s13 _ _ hc1, hcl1, fun nl Ns H4 cs4 znl s4 hc4 hcl4 hnl AT => ?_⟩
        -- near
        have sch : ∀ {b : Addr} {u : HO}, b ≠ a.ch → H1 b = some u → H4 b = some u := fun n e => s4 _ _ (by simp [n]) (s13 _ _ e)
        have hil4 : IL H4 il ins1 := sch nic hil1
        have hw4 := sch S1.wc hw1
        have hrl4 := sch rc1 hrl
        have hhl4 : H4 hl = some (.lst (Hd.map nI)) := s4 _ _ (by simp [hlc]) hhl
        have sN4 : SameN [a.wl, a.ch, il] H H4 := (sN1.trans (SameN.of s13)).trans (s4.mono fun b hb => by simp at hb; simp [hb])
        have S4 := S.mono sN4 far
        obtain ⟨nlw, nlc, nli, znl0⟩ := fr1 nl (s13.free znl)
        have nlh : nl ≠ hl := (ne_of_none hhl znl).symm
        have nlr : nl ≠ rl := (ne_of_none (s13 _ _ hrl) znl).symm
        have zN : Ns.length ≤ G.n := by
          have := nodup_le AT.nd (m := List.range G.n) fun x hx => List.mem_range.mpr (AT.sub x hx).1
          rw [List.length_range] at this
          exact this
        walk_at "go"
        -- inner
        refine ⟨il, _, rfl, .inl (SqL.of hil4), fun kl hkl => ?_⟩
        have s5 := same_new (o := .lst (ins1.map V.bl)) hkl
        have hk5 : upd H4 kl (.lst (ins1.map V.bl)) kl = some (.lst (ins1.map V.bl)) := upd_same
        generalize upd H4 kl (.lst (ins1.map V.bl)) = H5 at s5 hk5 ⊢
        have klw : kl ≠ a.wl := (ne_of_none hw4 hkl).symm
        have klc : kl ≠ a.ch := (ne_of_none hc4 hkl).symm
        have kli : kl ≠ il := (ne_of_none (show H4 il = _ from hil4) hkl).symm
        have klr : kl ≠ rl := (ne_of_none hrl4 hkl).symm
        have klh : kl ≠ hl := (ne_of_none hhl4 hkl).symm
        have kln : kl ≠ nl := (ne_of_none hnl hkl).symm
        have kls : kl ∉ a.stat := S4.fresh hkl
        have zkl : H kl = none := sN4.free (by simp [klw, klc, kli]) hkl
        walk_at "go"
        refine g_rforL (SqL.of (s5 _ _ hnl)) (fun j σ' H' => ∃ (ins' : List Bool) (v9' : Option V), σ' = [some (.ref a.x), some (.ref il), some (.ref rl), v3, some (.int (top : Nat)), some (.int (bN pl)), some (.ref hl), some (.ref nl), some (.ref kl), v9', v10, v11, v12, v13] ∧ SameN [kl] H5 H' ∧ H' kl = some (.lst (ins'.map V.bl)) ∧ ins'.length = G.n ∧
            ∀ x, insF ins' x = minus (insF ins1) (Ns.take j) x)
          ⟨ins1, _, rfl, fun _ _ _ e => e, hk5, hin1, fun x => by simp [minus]⟩ (fun j σ' H' _ ⟨_, _, _, sN, _⟩ => SqL.of (sN _ _ (by simp [kln.symm]) (s5 _ _ hnl))) ?_ ?_
        · rintro j y σ' H' hy ⟨ins', v9', rfl, sN, h3, h4, h6⟩
          rw [List.getElem?_map] at hy
          obtain ⟨x, hx, rfl⟩ := Option.map_eq_some_iff.mp hy
          have hxn := (AT.sub x (List.mem_of_getElem? hx)).1
          walk_at "go"
          refine g_setL h3 (by rw [List.length_map, h4]; exact ixN_of hxn) ?_
          walk_at "go"
          refine ⟨ins'.set x false, _, rfl, sN.trans (SameN.put (by simp)), by rw [upd_same, List.map_set], by rw [List.length_set]; exact h4, fun z => ?_⟩
          show (ins'.set x false).getD z false = _
          rw [getD_set _ _ _ _ _ (by omega), take_snoc hx]
          have := h6 z
          unfold insF at this
          rw [this]
          by_cases e : z = x
          · subst e
            simp [minus]
          · simp [minus, e]
        rintro σ' H6 ⟨ins6, v9', rfl, s6, hk6, hin6, hm6⟩
        rw [List.length_map, List.take_length] at hm6
        have sk : ∀ {b : Addr} {u : HO}, b ≠ kl → H4 b = some u → H6 b = some u := fun n e => s6 _ _ (by simp [n]) (s5 _ _ e)
        have hil6 : H6 il = some (.lst (ins1.map V.bl)) := sk kli.symm hil4
        have hw6 := sk klw.symm hw4
        have hc6 := sk klc.symm hc4
        have hrl6 := sk klr.symm hrl4
        have hhl6 := sk klh.symm hhl4
        have sN6 : SameN [a.wl, a.ch, il] H H6 := fun b u n e => sk (ne_of_none e zkl) (sN4 b u n e)
        have S6 := S.mono sN6 far
        walk_at "go"
        -- kept
        refine g_filt hrl6 (by omega) (insF ins6) (fun _ => rfl) (fun _ => rfl) (fun x hx H' s0 Qb q => ?_) fun pl' H7 zpl s7 hpl7 => ?_
        · have hxn := insn _ x hin1 ((memr x).mp hx)
          walk_at "go"
          refine g_ixL (SqL.of (s0 _ _ hk6)) (at_ins (by omega)) ?_
          walk_at "go"
          exact q
        have hKept : ∀ x, x ∈ R.filter (insF ins6) ↔ minus (insF ins1) Ns x = true := fun x => by
          rw [List.mem_filter, memr, hm6 x]
          exact ⟨fun h => h.2, fun h => ⟨(minus_t.mp h).1, h⟩⟩
        have ndK : (R.filter (insF ins6)).Nodup := List.Pairwise.filter _ ndr
        have hKn : (R.filter (insF ins6)).length ≤ G.n := Nat.le_trans (List.length_filter_le _ _) hrn
        generalize hKe : R.filter (insF ins6) = Kp at hpl7 hKept ndK hKn
        have plw : pl' ≠ a.wl := (ne_of_none hw6 zpl).symm
        have plc : pl' ≠ a.ch := (ne_of_none hc6 zpl).symm
        have plk : pl' ≠ kl := (ne_of_none hk6 zpl).symm
        have s7' := s7
        walk_at "go"
        -- solve(inner)
        have sN7 := sN6.trans (SameN.of s7)
        have S7 := S.mono sN7 far
        refine g_rm S7.hx rfl ?_
        walk_at "go"
        have lt_inner : ∀ x, insF ins6 x = true → insF ins1 x = true ∧ x ∉ Ns := fun x h => by
          rw [hm6 x] at h
          exact minus_t.mp h
        have liveN : Live G (insF ins6) := by
          have e : insF ins6 = minus (insF ins1) Ns := funext hm6
          rw [e]
          exact LP.live.off (fun x h => insn _ x hin1 h) AT
        cases n with
        | zero => exact absurd hlt0 (Nat.not_lt_zero _)
        | succ n' =>
        refine ⟨a, G, cm, kl, ins6, ws1, cs4, rfl, S7, s7 _ _ hk6, hin6, klw, klc, kls, s7 _ _ hw6, hwl1, s7 _ _ hc6, hcl4, liveN, fun x hx => ?_, fun H8 ws8 cs8 s8 hw8 hwl8 hc8 hcl8 SD => ?_⟩
        · obtain ⟨h1, h2⟩ := lt_inner x hx
          have h3 := htop x h1
          have h4 : G.pri x ≠ top := fun e => h2 (AT.tq x ((hH x).mpr ⟨h1, e⟩))
          omega
        have s8k : ∀ {b : Addr} {u : HO}, b ≠ a.wl → b ≠ a.ch → b ≠ kl → H6 b = some u → H8 b = some u := fun n1 n2 n3 e => s8 _ _ (by simp [n1, n2, n3]) (s7 _ _ e)
        have hil8 : IL H8 il ins1 := s8k niw nic kli.symm hil6
        have hrl8 := s8k rw1 rc1 klr.symm hrl6
        have hhl8 := s8k hlw hlc klh.symm hhl6
        have hpl8 : H8 pl' = some (.lst (Kp.map nI)) := s8 _ _ (by simp [plw, plc, plk]) hpl7
        have sN8 : SameN [a.wl, a.ch, il] H H8 := fun b u n e => by
          simp only [List.mem_cons, List.not_mem_nil, or_false, not_or] at n
          exact s8k n.1 n.2.1 (ne_of_none e zkl) (sN6 b u (by simp [n]) e)
        have S8 := S.mono sN8 far
        walk_at "go"
        obtain ⟨w8, hsep8, hws8⟩ := SD.ex
        have hm6f : insF ins6 = minus (insF ins1) Ns := funext hm6
        rw [hm6f] at hsep8
        -- lost
        refine g_filt hpl8 (by omega) (fun x => !decide (ws8.getD x 0 = bN pl)) (fun _ => rfl) (fun _ => rfl) (fun x hx H' s0 Qb q => ?_) fun ll H9 zll s9 hll => ?_
        · have hxn := insn _ x hin1 (minus_t.mp ((hKept x).mp hx)).1
          walk_at "go"
          refine g_rfld (s0 _ _ S8.hx) T.c_Solver T.n_Solver_winner rfl ?_
          walk_at "go"
          refine g_ixL (SqL.of (s0 _ _ hw8)) (at_int (by omega)) ?_
          walk_at "go"
          rw [int_dec]
          exact q
        have hL : ∀ x, x ∈ Kp.filter (fun x => !decide (ws8.getD x 0 = bN pl)) ↔ minus (insF ins1) Ns x = true ∧ w8 x ≠ pl := fun x => by
          rw [List.mem_filter, hKept]
          refine and_congr_right fun h => ?_
          rw [hws8 x (by rw [hm6 x]; exact h)]
          cases w8 x <;> cases pl <;> decide
        have ndL : (Kp.filter fun x => !decide (ws8.getD x 0 = bN pl)).Nodup := List.Pairwise.filter _ ndK
        have hLn : (Kp.filter fun x => !decide (ws8.getD x 0 = bN pl)).length ≤ G.n := Nat.le_trans (List.length_filter_le _ _) hKn
        generalize hLe : Kp.filter (fun x => !decide (ws8.getD x 0 = bN pl)) = L at hll hL ndL hLn
        have sN9 := sN8.trans (SameN.of s9)
        have S9 := S.mono sN9 far
        have hil9 : H9 il = some (.lst (ins1.map V.bl)) := s9 _ _ hil8
        have hrl9 := s9 _ _ hrl8
        have hhl9 := s9 _ _ hhl8
        have hw9 := s9 _ _ hw8
        have hc9 := s9 _ _ hc8
        have llw : ll ≠ a.wl := (ne_of_none hw8 zll).symm
        have llc : ll ≠ a.ch := (ne_of_none hc8 zll).symm
        have lli : ll ≠ il := (ne_of_none (show H8 il = some (.lst (ins1.map V.bl)) from hil8) zll).symm
        walk_at "go"
        refine g_len (.inl (SqL.of hll)) ?_
        walk_at "go"
        rw [List.length_map]
        refine iteB (c' := decide (L.length = 0)) (by rw [int_dec]; congr 1; exact propext ⟨fun h => by omega, fun h => by omega⟩) (fun h0 => ?_) (fun h0 => ?_)
        · have h0 := of_decide_eq_true h0
          have noL : ∀ x, minus (insF ins1) Ns x = true → w8 x = pl := fun x hx => Classical.byContradiction fun z => by
            have := List.length_pos_of_mem ((hL x).mpr ⟨hx, z⟩)
            omega
          walk_at "go"
          refine g_rforL (SqL.of hhl9) (fun j σ' H' => ∃ (cs' : List Int) (v9' : Option V), σ' = [some (.ref a.x), some (.ref il), some (.ref rl), v3, some (.int (top : Nat)), some (.int (bN pl)), some (.ref hl), some (.ref nl), some (.ref kl), v9', some (.ref pl'), some (.ref ll), v12, v13] ∧ SameN [a.ch] H9 H' ∧ H' a.ch = some (.lst (cs'.map V.int)) ∧ cs'.length = G.n)
            ⟨cs8, _, rfl, fun _ _ _ e => e, hc9, hcl8⟩ (fun j σ' H' _ ⟨_, _, _, sN, _⟩ => SqL.of (sN _ _ (by simp [hlc]) hhl9)) ?_ ?_
          · rintro j y σ' H' hy ⟨cs', v9', rfl, sN, hc', hcl'⟩
            rw [List.getElem?_map] at hy
            obtain ⟨x, hx, rfl⟩ := Option.map_eq_some_iff.mp hy
            have hxi := ((hH x).mp (List.mem_of_getElem? hx)).1
            have hxn := insn _ x hin1 hxi
            have S' : SvAt K H' a G cm := S9.mono sN fun b hb h => (S.far b hb).2 (List.mem_singleton.mp h)
            have hil' : H' il = some (.lst (ins1.map V.bl)) := sN _ _ (by simp [nic]) hil9
            walk_at "go"
            refine g_rfld S'.hx T.c_Solver T.n_Solver_owners rfl ?_
            walk_at "go"
            refine g_ixL (SqL.of S'.ho) (at_own (by rw [ok.l1]; exact hxn)) ?_
            walk_at "go"
            rw [show decide (V.int (bN (G.os.getD x false)) = V.int (bN pl)) = decide (G.own x = pl) from by show decide (V.int (bN (G.own x)) = V.int (bN pl)) = _; cases G.own x <;> cases pl <;> rfl]
            by_cases ho : G.own x = pl
            · rw [decide_eq_true ho]
              refine iteT ?_
              walk_at "go"
              obtain ⟨ma, hma, hml⟩ := nl_get S'.hm (x := x) hxn
              have hml' : H' ma = some (.lst ((G.mvs x).map nI)) := hml
              have mlen : (G.mvs x).length ≤ G.n := by
                have := nodup_le (ok.nd x) (m := List.range G.n) fun y hy => List.mem_range.mpr (ok.lt x y hy)
                rw [List.length_range] at this
                exact this
              refine g_rfld S'.hx T.c_Solver T.n_Solver_moves rfl ?_
              walk_at "go"
              refine g_ixL (SqL.of S'.hv) (atI_nat (by rw [List.getElem?_map, hma]; rfl)) ?_
              walk_at "go"
              refine g_filt hml' (by omega) (insF ins1) (fun _ => rfl) (fun _ => rfl) (fun y hy H2 s0 Qb q => ?_) fun el H10 zel s10 hel => ?_
              · have hyn := ok.lt x y hy
                walk_at "go"
                refine g_ixL (SqL.of (s0 _ _ hil')) (at_ins (by omega)) ?_
                walk_at "go"
                exact q
              walk_at "go"
              obtain ⟨y, hy, hIy⟩ := LP.live x hxi
              obtain ⟨z, r, hzr⟩ : ∃ z r, (G.mvs x).filter (insF ins1) = z :: r := by
                cases e : (G.mvs x).filter (insF ins1) with
                | nil =>
                  have : y ∈ (G.mvs x).filter (insF ins1) := List.mem_filter.mpr ⟨hy, hIy⟩
                  rw [e] at this
                  cases this
                | cons z r => exact ⟨z, r, rfl⟩
              rw [hzr] at hel
              refine g_ixL (SqL.of hel) at0 ?_
              walk_at "go"
              refine g_rfld (s10 _ _ S'.hx) T.c_Solver T.n_Solver_choice rfl ?_
              walk_at "go"
              refine g_setL (s10 _ _ hc') (by rw [List.length_map, hcl']; exact ixN_of hxn) ?_
              walk_at "go"
              exact ⟨cs'.set x (z : Nat), _, rfl, (sN.trans (SameN.of s10)).trans (SameN.put (by simp)), by rw [upd_same, List.map_set], by rw [List.length_set]; exact hcl'⟩
            · rw [decide_eq_false ho]
              refine iteF ?_
              walk_at "go"
              exact ⟨cs', _, rfl, sN, hc', hcl'⟩
          rintro σ' H10 ⟨cs10, v9', rfl, s10, hc10, hcl10⟩
          have sN10 : SameN [a.wl, a.ch, il] H H10 := sN9.trans (s10.mono fun b hb => by simp at hb; simp [hb])
          have S10 := S.mono sN10 far
          have hil10 : IL H10 il ins1 := s10 _ _ (by simp [nic]) hil9
          have hrl10 := s10 _ _ (by simp [rc1]) hrl9
          have hw10 := s10 _ _ (by simp [S.wc]) hw9
          walk_at "go"
          refine g_rm S10.hx rfl ?_
          walk_at "go"
          refine ⟨a, G, cm, il, rl, ins1, pl, R, ws8, rfl, S10, hil10, hin1, niw, nis, hrl10, rw1, ri1, fun x hx => insn _ x hin1 ((memr x).mp hx), hw10, hwl8, fun H12 ws12 ins12 s12 hw12 hwl12 hil12 hin12 hws12 hi12 => ?_⟩
          have sN12 : SameN [a.wl, a.ch, il] H H12 := sN10.trans (s12.mono fun b hb => by simp at hb; rcases hb with hb | hb <;> simp [hb])
          have hc12 := s12 _ _ (by simp [S.wc.symm, nic.symm]) hc10
          have hcl12 := hcl10
          obtain ⟨x9, hx9i, hx9q⟩ : ∃ x9, insF ins1 x9 = true ∧ x9 ∈ R := ⟨x0, hx0i, hx0⟩
          -- the rest anew
          have S12 := S.mono sN12 far
          walk_at "go"
          refine g_rfld S12.hx T.c_Solver T.n_Solver_count rfl ?_
          walk_at "go"
          refine g_filtR nle (insF ins12) (fun _ => rfl) (fun _ => rfl) (fun x hx H' s0 Qb q => ?_) fun rl2 H13 zrl2 s13' hrl2 => ?_
          · walk_at "go"
            refine g_ixL (SqL.of (s0 _ _ (show H12 il = some (.lst (ins12.map V.bl)) from hil12))) (at_ins (by omega)) ?_
            walk_at "go"
            exact q
          walk_at "go"
          have zrl20 : H rl2 = none := by
            have e1 : rl2 ≠ a.wl := (ne_of_none hw12 zrl2).symm
            have e2 : rl2 ≠ a.ch := (ne_of_none hc12 zrl2).symm
            have e3 : rl2 ≠ il := (ne_of_none (show H12 il = some (.lst (ins12.map V.bl)) from hil12) zrl2).symm
            exact sN12.free (by simp [e1, e2, e3]) zrl2
          refine ⟨_, ?_, ins12, ws12, _, rl2, _, _, _, _, _, _, _, _, _, _, _, rfl, rfl, zrl20, hrl2, s13' _ _ hil12, hin12, s13' _ _ hw12, hwl12, s13' _ _ hc12, hcl12, sN12.trans (SameN.of s13'), ?_⟩
          · rw [← hR]
            refine Nat.lt_of_not_le fun ge => ?_
            have hx9 := filt_eq (l := List.range G.n) (p := insF ins12) (q := insF ins1) (fun x _ h => by rw [hi12 x] at h; exact (minus_t.mp h).1) ge x9 (List.mem_range.mpr (insn _ x9 hin1 hx9i)) hx9i
            rw [hi12 x9] at hx9
            exact (minus_t.mp hx9).2 hx9q
          · have eJ : ∀ x, insF ins12 x = true ↔ insF ins1 x = true ∧ x ∉ R := fun x => by rw [hi12 x]; exact minus_t
            refine ⟨fun x h => LP.sub x ((eJ x).mp h).1, ?_, fun w' hw' => ?_, fun x h => ?_⟩
            · have e : insF ins12 = minus (insF ins1) R := funext hi12
              rw [e]
              exact fun x h => absurd ((memr x).mpr (minus_t.mp h).1) (minus_t.mp h).2
            · obtain ⟨w9, g1, g2, g3⟩ := LP.go (fun x => if x ∈ R then pl else w' x) (by
                have e := sep_all (fun x h => insn _ x hin1 h) LP.live htop hH (hpl ▸ AT) hsep8 (fun x h => by rw [noL x h, hpl])
                refine e.congr (fun _ => rfl) fun x hx => ?_
                show _ = if x ∈ R then pl else w' x
                rw [if_pos ((memr x).mpr hx), hpl])
              refine ⟨w9, g1, fun x h => ?_, fun x h1 h2 => ?_⟩
              · rw [g2 x ((eJ x).mp h).1]
                show (if x ∈ R then pl else w' x) = w' x
                rw [if_neg ((eJ x).mp h).2]
              · rw [hws12 x]
                cases hJ : insF ins1 x with
                | true =>
                  have hq : x ∈ R := Classical.byContradiction fun z => by
                    rw [(eJ x).mpr ⟨hJ, z⟩] at h2
                    cases h2
                  rw [if_pos hq, g2 x hJ]
                  show bN pl = bN (if x ∈ R then pl else w' x)
                  rw [if_pos hq]
                | false =>
                  have hq : x ∉ R := fun z => by
                    rw [(memr x).mp z] at hJ
                    cases hJ
                  rw [if_neg hq, SD.out x (by cases e : insF ins6 x with | false => rfl | true => rw [(lt_inner x e).1] at hJ; cases hJ), g3 x h1 hJ]
            · have hJ : insF ins1 x = false := by
                cases e : insF ins1 x with
                | false => rfl
                | true =>
                  rw [LP.sub x e] at h
                  cases h
              have hq : x ∉ R := fun z => by
                rw [(memr x).mp z] at hJ
                cases hJ
              rw [hws12 x, if_neg hq, SD.out x (by cases e : insF ins6 x with | false => rfl | true => rw [(lt_inner x e).1] at hJ; cases hJ), LP.out x h]
        · have h0 := of_decide_eq_false h0
          walk_at "go"
          refine g_mapL hll (by omega) (fun x => cs8.getD x 0) (fun _ => rfl) (fun x hx H' s0 Qb q => ?_) fun el H10 zel s10 hel => ?_
          · have hxn := insn _ x hin1 (minus_t.mp ((hL x).mp hx).1).1
            walk_at "go"
            refine g_rfld (s0 _ _ S9.hx) T.c_Solver T.n_Solver_choice rfl ?_
            walk_at "go"
            refine g_ixL (SqL.of (s0 _ _ hc9)) (at_int (by omega)) ?_
            exact q
          walk_at "go"
          have S10 : SvAt K H10 a G cm := S.mono (sN9.trans (SameN.of s10)) far
          refine g_rm S10.hx rfl ?_
          walk_at "go"
          have enp : (1 : Int) - bN pl = bN (!pl) := by cases pl <;> rfl
          rw [enp]
          refine ⟨a, G, cm, il, ll, ins1, !pl, L, cs8, rfl, S10, s10 _ _ hil9, hin1, nic, s10 _ _ hll, llc, ndL, fun t ht => ⟨insn _ t hin1 (minus_t.mp ((hL t).mp ht).1).1, (minus_t.mp ((hL t).mp ht).1).1⟩, s10 _ _ hc9, hcl8, fun gl Gs H11 cs11 zgl s11 hc11 hcl11 hgl BT => ?_⟩
          have sN11 : SameN [a.wl, a.ch, il] H H11 := (sN9.trans (SameN.of s10)).trans (s11.mono fun b hb => by simp at hb; simp [hb])
          have elc : el ≠ a.ch := (ne_of_none hc9 zel).symm
          have hel11 := s11 _ _ (by simp [elc]) hel
          have hll11 := s11 _ _ (by simp [llc]) (s10 _ _ hll)
          have glc : gl ≠ a.ch := (ne_of_none (s10 _ _ hc9) zgl).symm
          have glw : gl ≠ a.wl := (ne_of_none (s10 _ _ hw9) zgl).symm
          have gli : gl ≠ il := (ne_of_none (s10 _ _ hil9) zgl).symm
          walk_at "go"
          refine g_len (.inl (SqL.of hll11)) ?_
          walk_at "go"
          rw [List.length_map]
          refine g_rforR (by omega) (fun j σ' H' => ∃ (cs' : List Int) (v3' : Option V), σ' = [some (.ref a.x), some (.ref il), some (.ref rl), v3', some (.int (top : Nat)), some (.int (bN pl)), some (.ref hl), some (.ref nl), some (.ref kl), v9', some (.ref pl'), some (.ref ll), some (.ref el), some (.ref gl)] ∧ SameN [a.ch] H11 H' ∧ H' a.ch = some (.lst (cs'.map V.int)) ∧ cs'.length = G.n)
            ⟨cs11, _, rfl, fun _ _ _ e => e, hc11, hcl11⟩ ?_ ?_
          · rintro j σ' H' hj ⟨cs', v3', rfl, sN, hc', hcl'⟩
            have hxL : L.getD j 0 ∈ L := getD_mem hj
            have hxn := insn _ _ hin1 (minus_t.mp ((hL _).mp hxL).1).1
            have S' : SvAt K H' a G cm := (S.mono sN11 far).mono sN fun b hb h => (S.far b hb).2 (List.mem_singleton.mp h)
            walk_at "go"
            refine g_ixL (SqL.of (sN _ _ (by simp [elc]) hel11)) (at_int (by rw [List.length_map]; exact hj)) ?_
            walk_at "go"
            refine g_rfld S'.hx T.c_Solver T.n_Solver_choice rfl ?_
            walk_at "go"
            refine g_ixL (SqL.of (sN _ _ (by simp [llc]) hll11)) (at_nat hj) ?_
            walk_at "go"
            refine g_setL hc' (by rw [List.length_map, hcl']; exact ixN_of hxn) ?_
            walk_at "go"
            exact ⟨cs'.set (L.getD j 0) _, _, rfl, sN.trans (SameN.put (by simp)), by rw [upd_same, List.map_set], by rw [List.length_set]; exact hcl'⟩
          rintro σ' H13 ⟨cs13, v3', rfl, s13a, hc13, hcl13⟩
          have sN13 : SameN [a.wl, a.ch, il] H H13 := sN11.trans (s13a.mono fun b hb => by simp at hb; simp [hb])
          have S13 := S.mono sN13 far
          have hil13 : IL H13 il ins1 := s13a _ _ (by simp [nic]) (s11 _ _ (by simp [nic]) (s10 _ _ hil9))
          have hgl13 := s13a _ _ (by simp [glc]) hgl
          have hw13 := s13a _ _ (by simp [S.wc]) (s11 _ _ (by simp [S.wc]) (s10 _ _ hw9))
          walk_at "go"
          refine g_rm S13.hx rfl ?_
          walk_at "go"
          rw [enp]
          refine ⟨a, G, cm, il, gl, ins1, !pl, Gs, ws8, rfl, S13, hil13, hin1, niw, nis, hgl13, glw, gli, fun x hx => (BT.sub x hx).1, hw13, hwl8, fun H12 ws12 ins12 s12 hw12 hwl12 hil12 hin12 hws12 hi12 => ?_⟩
          have sN12 : SameN [a.wl, a.ch, il] H H12 := sN13.trans (s12.mono fun b hb => by simp at hb; rcases hb with hb | hb <;> simp [hb])
          have hc12 := s12 _ _ (by simp [S.wc.symm, nic.symm]) hc13
          have hcl12 := hcl13
          obtain ⟨x9, hx9i, hx9q⟩ : ∃ x9, insF ins1 x9 = true ∧ x9 ∈ Gs := by
            have hpos : 0 < L.length := by omega
            have hm9 : L.getD 0 0 ∈ L := getD_mem hpos
            exact ⟨_, (minus_t.mp ((hL _).mp hm9).1).1, BT.tq _ hm9⟩
          -- the rest anew
          have S12 := S.mono sN12 far
          walk_at "go"
          refine g_rfld S12.hx T.c_Solver T.n_Solver_count rfl ?_
          walk_at "go"
          refine g_filtR nle (insF ins12) (fun _ => rfl) (fun _ => rfl) (fun x hx H' s0 Qb q => ?_) fun rl2 H13 zrl2 s13' hrl2 => ?_
          · walk_at "go"
            refine g_ixL (SqL.of (s0 _ _ (show H12 il = some (.lst (ins12.map V.bl)) from hil12))) (at_ins (by omega)) ?_
            walk_at "go"
            exact q
          walk_at "go"
          have zrl20 : H rl2 = none := by
            have e1 : rl2 ≠ a.wl := (ne_of_none hw12 zrl2).symm
            have e2 : rl2 ≠ a.ch := (ne_of_none hc12 zrl2).symm
            have e3 : rl2 ≠ il := (ne_of_none (show H12 il = some (.lst (ins12.map V.bl)) from hil12) zrl2).symm
            exact sN12.free (by simp [e1, e2, e3]) zrl2
          refine ⟨_, ?_, ins12, ws12, _, rl2, _, _, _, _, _, _, _, _, _, _, _, rfl, rfl, zrl20, hrl2, s13' _ _ hil12, hin12, s13' _ _ hw12, hwl12, s13' _ _ hc12, hcl12, sN12.trans (SameN.of s13'), ?_⟩
          · rw [← hR]
            refine Nat.lt_of_not_le fun ge => ?_
            have hx9 := filt_eq (l := List.range G.n) (p := insF ins12) (q := insF ins1) (fun x _ h => by rw [hi12 x] at h; exact (minus_t.mp h).1) ge x9 (List.mem_range.mpr (insn _ x9 hin1 hx9i)) hx9i
            rw [hi12 x9] at hx9
            exact (minus_t.mp hx9).2 hx9q
          · have eJ : ∀ x, insF ins12 x = true ↔ insF ins1 x = true ∧ x ∉ Gs := fun x => by rw [hi12 x]; exact minus_t
            refine ⟨fun x h => LP.sub x ((eJ x).mp h).1, ?_, fun w' hw' => ?_, fun x h => ?_⟩
            · have e : insF ins12 = minus (insF ins1) Gs := funext hi12
              rw [e]
              exact LP.live.off (fun x h => insn _ x hin1 h) BT
            · obtain ⟨w9, g1, g2, g3⟩ := LP.go (fun x => if x ∈ Gs then (!pl) else w' x) (by
                refine sep_step (fun x h => insn _ x hin1 h) AT hsep8 hL BT ?_
                have e : insF ins12 = minus (insF ins1) Gs := funext hi12
                rw [← e]
                exact hw')
              refine ⟨w9, g1, fun x h => ?_, fun x h1 h2 => ?_⟩
              · rw [g2 x ((eJ x).mp h).1]
                show (if x ∈ Gs then (!pl) else w' x) = w' x
                rw [if_neg ((eJ x).mp h).2]
              · rw [hws12 x]
                cases hJ : insF ins1 x with
                | true =>
                  have hq : x ∈ Gs := Classical.byContradiction fun z => by
                    rw [(eJ x).mpr ⟨hJ, z⟩] at h2
                    cases h2
                  rw [if_pos hq, g2 x hJ]
                  show bN (!pl) = bN (if x ∈ Gs then (!pl) else w' x)
                  rw [if_pos hq]
                | false =>
                  have hq : x ∉ Gs := fun z => by
                    rw [(BT.sub x z).2] at hJ
                    cases hJ
                  rw [if_neg hq, SD.out x (by cases e : insF ins6 x with | false => rfl | true => rw [(lt_inner x e).1] at hJ; cases hJ), g3 x h1 hJ]
            · have hJ : insF ins1 x = false := by
                cases e : insF ins1 x with
                | false => rfl
                | true =>
                  rw [LP.sub x e] at h
                  cases h
              have hq : x ∉ Gs := fun z => by
                rw [(BT.sub x z).2] at hJ
                cases hJ
              rw [hws12 x, if_neg hq, SD.out x (by cases e : insF ins6 x with | false => rfl | true => rw [(lt_inner x e).1] at hJ; cases hJ), LP.out x h]
      · have hlt := of_decide_eq_false hlt
        walk_at "go"
        refine k H1 ws1 cs1 sN1 hw1 hwl1 hc1 hcl1 ?_
        have nil : ∀ x, insF ins1 x = false := fun x => by
          cases e : insF ins1 x with
          | false => rfl
          | true =>
            have := List.length_pos_of_mem ((memr x).mpr e)
            omega
        obtain ⟨w, h1, _, h3⟩ := LP.go (fun _ => false) (Sep.nil nil)
        exact ⟨⟨w, h1, fun x hx => h3 x hx (nil x)⟩, LP.out⟩
end
end K22

set_option Elab.async false
set_option linter.all false
set_option maxRecDepth 100000
set_option maxHeartbeats 1000000
namespace K22
open PySem PySem.Spec PyProof.Rows L2
local macro_rules | `(tactic| walk_at "go1") => `(tactic| with_reducible first
  | refine g_seq ?_ | refine g_asg ?_ | refine g_name ?_ | refine g_c ?_ | refine g_op ?_ | refine g_cons ?_ | refine g_nil ?_ | refine g_cb ?_ | refine g_call ?_ | refine g_meth ?_
  | refine g_I0 ?_ | refine g_ret ?_ | refine g_retN ?_ | refine g_drop ?_ | refine g_if ?_ | refine g_test ?_ | refine g_tB ?_ | refine g_bool ?_
  | refine g_not ?_ | refine g_and ?_ | refine g_or ?_ | refine g_yes ?_ | refine g_tup ?_ | refine g_lst ?_ | refine g_slice ?_ | refine g_part ?_ | refine g_nopart ?_ | refine g_int ?_ | refine g_fld ?_ | refine g_dget ?_
  | refine g_din ?_ | refine g_dnotin ?_ | refine g_bm0 ?_ | refine g_bm ?_ | refine g_ifexp ?_ | refine g_andv ?_ | refine g_orv ?_ | refine g_notv ?_ | refine g_chain ?_ | refine g_U ?_ | refine g_next ?_ | refine g_brk ?_ | refine g_cont ?_
  | refine g_sfld ?_ | refine g_sdput ?_ | refine g_gtup ?_ | refine g_gcons ?_ | refine g_gnil ?_ | refine g_gsub ?_ | refine g_forT ?_ | refine g_forL ?_ | refine g_forR ?_ | refine g_lcT ?_ | refine g_lcL ?_ | refine g_lcR ?_ | refine g_un ?_ | refine g_sfa ?_ | refine g_ip ?_ | refine g_nin ?_ | refine g_nnot ?_ | refine g_nget ?_ | refine g_nput ?_ | refine g_ndisp ?_ | refine g_addI ?_ | refine g_subI ?_
  | (show Ends.nx _ _ _; refine g_nxm ?_) | (show Ends.rt _ _ _; refine g_rtm ?_) | (show Ends.bk _ _ _; refine g_bkm ?_) | (show Ends.ct _ _ _; refine g_ctm ?_))
local macro_rules | `(tactic| walk_at "go2") => `(tactic| first
  | ((with_reducible show tVar _ _ _ _); refine g_var rfl ?_)
  | ((with_reducible show rEq _ _ _ _); refine g_eq rfl ?_)
  | ((with_reducible show rNe _ _ _ _); refine g_ne rfl ?_)
  | ((with_reducible show tAug _ _ _ _ _ _); refine g_aug rfl ?_))
local macro_rules | `(tactic| walk_at "go") => `(tactic| repeat (first | walk_at "go1" | walk_at "go2"))
section
variable {P : Program} {w : World} {K : PySem.W.Frag} {mg : Str → Option Value} {base : Heap}
/-- the winners that stand in the end -/
def Won (G : Gm) (ws : List Int) : Prop := ∃ w : Nat → Bool, (∀ pl C, Cert G pl (fun x => decide (x < G.n)) C → ∀ x a, x < G.n → C x a → w x = pl) ∧ ∀ x, x < G.n → ws.getD x 0 = bN (w x)
def spSolver (K : PySem.W.Frag) : Sp := fun vs H Q _ => ∃ (x dx o p v : Addr) (mas : List Addr) (G : Gm), vs = [.ref x, .ref o, .ref p, .ref v] ∧ H x = some (.ins (He.ga K "Solver") dx []) ∧ H o = some (.lst (G.os.map fun b => V.int (bN b))) ∧ H p = some (.lst (G.prs.map nI)) ∧
  H v = some (.lst (mas.map V.ref)) ∧ Paired (NL H) G.mv mas ∧ G.Ok ∧ (∀ x, x < G.n → G.pri x < 16) ∧
  ∀ (H' : Hp) (a : SvA) (ws : List Int), a.x = x → SameX x H H' → H' x = some (.ins (He.ga K "Solver") a.dx (sF a G.n)) → H' a.wl = some (.lst (ws.map V.int)) → ws.length = G.n → Won G ws → Q .non H'
theorem rep_one {α : Type} (n : Nat) (a : α) : (List.replicate n [a]).flatten = List.replicate n a := by
  induction n with
  | zero => rfl
  | succ n ih => rw [List.replicate_succ, List.flatten_cons, ih, List.replicate_succ]; rfl
theorem getD_rep {α : Type} (n x : Nat) (a d : α) : (List.replicate n a).getD x d = if x < n then a else d := by
  rw [List.getD_eq_getElem?_getD, List.getElem?_replicate]
  by_cases h : x < n
  · rw [if_pos h, if_pos h]
    rfl
  · rw [if_neg h, if_neg h]
    rfl
theorem build_list {α β : Type} : ∀ {bs : List β} {R : Nat → α → β → Prop}, (∀ (t : Nat) (b : β), bs[t]? = some b → ∃ a, R t a b) → ∃ l : List α, l.length = bs.length ∧ ∀ (t : Nat) (a : α) (b : β), l[t]? = some a → bs[t]? = some b → R t a b
  | [], R, _ => ⟨[], rfl, fun t a b h => by simp at h⟩
  | b :: bs, R, h => by
    obtain ⟨a, ha⟩ := h 0 b rfl
    obtain ⟨l, hl, hr⟩ := build_list (bs := bs) (R := fun t => R (t + 1)) fun t b e => h (t + 1) b e
    refine ⟨a :: l, congrArg Nat.succ hl, fun t a' b' h1 h2 => ?_⟩
    cases t with
    | zero =>
      cases h1
      cases h2
      exact ha
    | succ t => exact hr t a' b' h1 h2
theorem Pd.ofGet {α β : Type} {R : α → β → Prop} : ∀ {l : List α} {m : List β}, l.length = m.length → (∀ (t : Nat) (a : α) (b : β), l[t]? = some a → m[t]? = some b → R a b) → Paired R l m
  | [], [], _, _ => .nil
  | a :: l, b :: m, h, r => .cons (r 0 a b rfl rfl) (Pd.ofGet (Nat.succ.inj h) fun t a' b' h1 h2 => r (t + 1) a' b' h1 h2)
  | [], _ :: _, h, _ => nomatch h
  | _ :: _, [], h, _ => nomatch h
-- slots of Solver.__init__: 0:self 1:owners* 2:priorities 3:moves* 4:_ 5:position 6:target 7:inside 8:player* 9:ends 10:k
abbrev n_Solver_init : List Str := ["self", "owners", "priorities", "moves", "_", "position", "target", "inside", "player", "ends", "k"]
theorem sc_Solver_init : FnScope n_Solver_init p_Solver_init (defScope s_Solver_init) := ⟨rfl, rfl, rfl, by decide +kernel, rfl, by decide +kernel, by decide +kernel⟩
theorem ok_Solver_init (T : Top w K mg) : Ok P w K mg base 20 a_Solver_init p_Solver_init (spSolver K) := by
  have G_Solver_attracted := ok_Solver_attracted (P := P) (base := base) T
  have G_Solver_give := ok_Solver_give (P := P) (base := base) T
  have G_Solver_solve := ok_Solver_solve (P := P) (base := base) T 17
  refine T.F_Solver_init.ok sc_Solver_init (fun vs H Q E h => ?_) (fun cdv A outer s H vs Q E hr h => ?_)
  · obtain ⟨x, dx, o, p, v, mas, G, rfl, _⟩ := h
    rfl
  · obtain ⟨x, dx, o, p, v, mas, G, rfl, hx, ho, hp, hv, hm, ok, h16, k⟩ := h
    refine ⟨_, PSs.nox (pss_cons (ps_fld (pv 0) (pv 1) rfl)
    (pss_cons (ps_fld (pv 0) (pv 2) rfl)
    (pss_cons (ps_fld (pv 0) (pv 3) rfl)
    (pss_cons (ps_fld (pv 0) (pe_callB (kc_len K) (by rfl) T.z_len bt_len (pa_cons (pv 1) pa_nil)) rfl)
    (pss_cons (ps_fld (pv 0) (pe_lc (own := [("_", 4)]) (g := gName 4) (tt := tYes) rfl sc_Solver_init.nd (kpi_list K (pv 1)) (blkOk_by (N := n_Solver_init) (sc := (defScope s_Solver_init)) (by decide +kernel)) (fun _ _ _ _ _ => (pg_name (i := 4) sc_Solver_init.nd rfl (Or.inl rfl))) (fun _ _ _ _ _ => pts_nil) (fun _ _ _ _ _ => (pe_lst pa_nil))) rfl)
    (pss_cons (ps_for PassesOwn.never rfl (pi_range1 (by rfl) T.z_range (pa_cons (kpe_fld K (pv 0)) pa_nil)) (pg_name (i := 5) sc_Solver_init.nd rfl (Or.inl rfl)) (pss_one (ps_for PassesOwn.never rfl (kpi_list K (pe_ix (ki_list K) (pv 3) (pv 5) (fun _ _ => rfl))) (pg_name (i := 6) sc_Solver_init.nd rfl (Or.inl rfl)) (pss_one (ps_expr (kpe_app K (pe_ix (ki_list K) (kpe_fld K (pv 0)) (pv 6) (fun _ _ => rfl)) (pv 5)))))))
    (pss_cons (ps_fld (pv 0) (pe_op op_rep (pe_lst (pa_cons (pe_un un_neg pe_int) pa_nil)) (kpe_fld K (pv 0))) rfl)
    (pss_cons (ps_fld (pv 0) (pe_op op_rep (pe_lst (pa_cons (pe_un un_neg pe_int) pa_nil)) (kpe_fld K (pv 0))) rfl)
    (pss_cons (ps_set (i := 7) sc_Solver_init.nd rfl (Or.inl rfl) (pe_op op_rep (pe_lst (pa_cons pe_bl pa_nil)) (kpe_fld K (pv 0))))
    (pss_cons (ps_for PassesOwn.never rfl (kpi_tup K (pe_tup (pa_cons pe_int (pa_cons pe_int pa_nil)))) (pg_name (i := 8) sc_Solver_init.nd rfl (Or.inr rfl)) (pss_cons (ps_setLc (i := 9) (own := [("k", 10)]) (g := gName 10) rfl sc_Solver_init.nd rfl rfl (sw_true rfl rfl rfl (by decide +kernel)) (pi_range1 (by rfl) T.z_range (pa_cons (kpe_fld K (pv 0)) pa_nil)) (blkOk_by (N := n_Solver_init) (sc := (defScope s_Solver_init)) (by decide +kernel)) (fun _ _ _ _ _ => (pg_name (i := 10) sc_Solver_init.nd rfl (Or.inl rfl))) (fun _ _ _ _ _ => (pts_one (PW.pt (pw_and (pt_cmpR op_eq (pe_callB (kc_len K) (by rfl) T.z_len bt_len (pa_cons (pe_ix (ki_list K) (pv 3) (pv 10) (fun _ _ => rfl)) pa_nil)) pe_int (nomark _)) (pw_and1 (pt_cmpR op_ne (pe_ix (ki_list K) (pv 1) (pv 10) (fun _ _ => rfl)) (pv 8) (nomark _))))))) (fun _ _ _ _ _ => (pv 10)))
      (pss_one (ps_expr (pe_meth (pv 0) T.c_Solver T.t_Solver_give G_Solver_give (hr.mono (by omega)) T.b_Solver_give .nil pass0 (pa_cons (pv 7) (pa_cons (pv 8) (pa_cons (pe_meth (pv 0) T.c_Solver T.t_Solver_attracted G_Solver_attracted (hr.mono (by omega)) T.b_Solver_attracted .nil pass0 (pa_cons (pe_op op_rep (pe_lst (pa_cons pe_bl pa_nil)) (kpe_fld K (pv 0))) (pa_cons (pv 8) (pa_cons (pv 9) pa_nil)))) pa_nil))))))))
    (pss_one (ps_expr (pe_meth (pv 0) T.c_Solver T.t_Solver_solve G_Solver_solve (hr.mono (by omega)) T.b_Solver_solve .nil pass0 (pa_cons (pv 7) pa_nil)))))))))))))), ?_⟩
    have nle := ok.le
    walk_at "go"
    refine g_rput hx T.c_Solver T.n_Solver_owners (by decide) ?_
    walk_at "go"
    refine g_rput upd_same T.c_Solver T.n_Solver_priorities (by show 1 < 1000; decide) ?_
    rw [upd_upd]
    walk_at "go"
    refine g_rput upd_same T.c_Solver T.n_Solver_moves (by show 2 < 1000; decide) ?_
    rw [upd_upd]
    have sx1 : SameX x H (upd H x (.ins (He.ga K "Solver") dx (putF "moves" (.ref v) (putF "priorities" (.ref p) (putF "owners" (.ref o) []))))) := SameX.upd
    have hx1 : upd H x (.ins (He.ga K "Solver") dx (putF "moves" (.ref v) (putF "priorities" (.ref p) (putF "owners" (.ref o) [])))) x = some (.ins (He.ga K "Solver") dx (putF "moves" (.ref v) (putF "priorities" (.ref p) (putF "owners" (.ref o) [])))) := upd_same
    generalize upd H x (.ins (He.ga K "Solver") dx (putF "moves" (.ref v) (putF "priorities" (.ref p) (putF "owners" (.ref o) [])))) = H1 at sx1 hx1 ⊢
    have nox : o ≠ x := ne_of ho hx fun z => nomatch z
    have npx : p ≠ x := ne_of hp hx fun z => nomatch z
    have nvx : v ≠ x := ne_of hv hx fun z => nomatch z
    walk_at "go"
    refine g_len (.inl (SqL.of (sx1 _ _ nox ho))) ?_
    walk_at "go"
    rw [List.length_map, ok.l1]
    refine g_rput hx1 T.c_Solver T.n_Solver_count (by show 3 < 1000; decide) ?_
    have sx2 : SameX x H (upd H1 x (.ins (He.ga K "Solver") dx (putF "count" (.int (G.n : Nat)) (putF "moves" (.ref v) (putF "priorities" (.ref p) (putF "owners" (.ref o) [])))))) := sx1.trans SameX.upd
    have hx2 : upd H1 x (.ins (He.ga K "Solver") dx (putF "count" (.int (G.n : Nat)) (putF "moves" (.ref v) (putF "priorities" (.ref p) (putF "owners" (.ref o) []))))) x = some (.ins (He.ga K "Solver") dx (putF "count" (.int (G.n : Nat)) (putF "moves" (.ref v) (putF "priorities" (.ref p) (putF "owners" (.ref o) []))))) := upd_same
    generalize upd H1 x (.ins (He.ga K "Solver") dx (putF "count" (.int (G.n : Nat)) (putF "moves" (.ref v) (putF "priorities" (.ref p) (putF "owners" (.ref o) []))))) = H2 at sx2 hx2 ⊢
    walk_at "go"
    have ho2 := sx2 _ _ nox ho
    -- coming
    refine g_rlcL (SqL.of ho2) fun cl hcl0 => ⟨fun i H' => ∃ cas : List Addr, Same H2 H' ∧ H' cl = some (.lst (cas.map V.ref)) ∧ cas.length = min i G.n ∧ cas.Nodup ∧ (∀ b ∈ cas, H' b = some (.lst []) ∧ H2 b = none ∧ b ≠ cl), ⟨[], same_new hcl0, upd_same, by simp, List.nodup_nil, fun _ h => nomatch h⟩, fun i H' hi ⟨_, s0, _⟩ => SqL.of (s0 _ _ ho2), fun i y H' hy ⟨cas, s0, h1, h2, h3, h4⟩ => ?_, fun H3 ⟨cas, s3, h1, h2, h3, h4⟩ => ?_⟩
    · rw [List.getElem?_map] at hy
      obtain ⟨b0, hb0, rfl⟩ := Option.map_eq_some_iff.mp hy
      have hi : i < G.n := by rw [← ok.l1]; exact (List.getElem?_eq_some_iff.mp hb0).1
      refine g_turn rfl ?_
      walk_at "go"
      refine iteT ?_
      walk_at "go"
      refine g_newL 0 rfl (by decide) fun e he => ?_
      have s1 := same_new (o := .lst []) he
      have nel : e ≠ cl := (ne_of_none h1 he).symm
      walk_at "go"
      refine g_add (s1 _ _ h1) (lt_line (by rw [List.length_map]; omega)) ⟨cas ++ [e], (s0.trans s1).mut hcl0, by rw [upd_same, List.map_append]; rfl, by rw [List.length_append, h2]; show min i G.n + 1 = _; omega, nodup_snoc h3 (fun z => ?_), fun b hb => ?_⟩
      · rw [(h4 e z).1] at he
        cases he
      · rcases List.mem_append.mp hb with hb | hb
        · obtain ⟨q1, q2, q3⟩ := h4 b hb
          exact ⟨by rw [upd_ne q3]; exact s1 _ _ q1, q2, q3⟩
        · rw [List.mem_singleton.mp hb]
          exact ⟨by rw [upd_ne nel]; exact upd_same, s0.free he, nel⟩
    rw [List.length_map, ok.l1, Nat.min_self] at h2
    walk_at "go"
    refine g_rput (s3 _ _ hx2) T.c_Solver T.n_Solver_coming (by show 4 < 1000; decide) ?_
    have nclx : cl ≠ x := (ne_of_none hx2 hcl0).symm
    have zcl : H cl = none := by
      cases q : H cl with
      | none => rfl
      | some u =>
        rw [sx2 _ _ nclx q] at hcl0
        cases hcl0
    have ncx : ∀ b ∈ cas, b ≠ x ∧ H b = none := fun b hb => by
      have q := (h4 b hb).2.1
      have n : b ≠ x := (ne_of_none hx2 q).symm
      refine ⟨n, ?_⟩
      cases e : H b with
      | none => rfl
      | some u =>
        rw [sx2 _ _ n e] at q
        cases q
    have sx4 : SameX x H (upd H3 x (.ins (He.ga K "Solver") dx (putF "coming" (.ref cl) (putF "count" (.int (G.n : Nat)) (putF "moves" (.ref v) (putF "priorities" (.ref p) (putF "owners" (.ref o) []))))))) := (sx2.trans (s3.x x)).trans SameX.upd
    have hx4 : upd H3 x (.ins (He.ga K "Solver") dx (putF "coming" (.ref cl) (putF "count" (.int (G.n : Nat)) (putF "moves" (.ref v) (putF "priorities" (.ref p) (putF "owners" (.ref o) [])))))) x = some (.ins (He.ga K "Solver") dx (putF "coming" (.ref cl) (putF "count" (.int (G.n : Nat)) (putF "moves" (.ref v) (putF "priorities" (.ref p) (putF "owners" (.ref o) [])))))) := upd_same
    have hcl4 : upd H3 x (.ins (He.ga K "Solver") dx (putF "coming" (.ref cl) (putF "count" (.int (G.n : Nat)) (putF "moves" (.ref v) (putF "priorities" (.ref p) (putF "owners" (.ref o) [])))))) cl = some (.lst (cas.map V.ref)) := by rw [upd_ne nclx]; exact h1
    have hcs4 : ∀ b ∈ cas, upd H3 x (.ins (He.ga K "Solver") dx (putF "coming" (.ref cl) (putF "count" (.int (G.n : Nat)) (putF "moves" (.ref v) (putF "priorities" (.ref p) (putF "owners" (.ref o) [])))))) b = some (.lst []) := fun b hb => by rw [upd_ne (ncx b hb).1]; exact (h4 b hb).1
    generalize upd H3 x (.ins (He.ga K "Solver") dx (putF "coming" (.ref cl) (putF "count" (.int (G.n : Nat)) (putF "moves" (.ref v) (putF "priorities" (.ref p) (putF "owners" (.ref o) [])))))) = H4 at sx4 hx4 hcl4 hcs4 ⊢
    have ncl_c : ∀ b ∈ cas, b ≠ cl := fun b hb => (h4 b hb).2.2
    -- what the lists hold so far
    have hv4 := sx4 _ _ nvx hv
    have hm4 : Paired (NL H4) G.mv mas := Pd.map_mem hm fun m b hb e => sx4 _ _ (ne_of e hx fun z => nomatch z) e
    have cmI : ∀ (i j : Nat) (H' : Hp), SameN cas H4 H' → (∀ t, t < G.n → ∃ (b : Addr) (m : List Nat), cas[t]? = some b ∧ H' b = some (.lst (m.map nI)) ∧ m.Nodup ∧ ∀ y, y ∈ m ↔ (y < i ∧ t ∈ G.mvs y) ∨ (y = i ∧ t ∈ (G.mvs i).take j)) → True := fun _ _ _ _ _ => trivial
    clear cmI
    walk_at "go"
    refine g_rfld hx4 T.c_Solver T.n_Solver_count rfl ?_
    walk_at "go"
    refine g_rforR (by omega) (fun i σ' H' => ∃ (v4 v5 v6 : Option V), σ' = [some (.ref x), some (.ref o), some (.ref p), some (.ref v), v4, v5, v6, none, none, none, none] ∧ SameN cas H4 H' ∧ ∀ t, t < G.n → ∃ (b : Addr) (m : List Nat), cas[t]? = some b ∧ H' b = some (.lst (m.map nI)) ∧ m.Nodup ∧ ∀ y, y ∈ m ↔ (y < i ∧ t ∈ G.mvs y))
      ⟨_, _, _, rfl, fun _ _ _ e => e, fun t ht => ⟨cas[t]'(by omega), [], List.getElem?_eq_getElem (by omega), hcs4 _ (List.getElem_mem (by omega)), List.nodup_nil, fun y => ⟨(fun h => nomatch h), fun h => absurd h.1 (Nat.not_lt_zero _)⟩⟩⟩ ?_ ?_
    · rintro i σ' H' hi ⟨v4, v5, v6, rfl, sN, cm⟩
      obtain ⟨ma, hma, hml⟩ := nl_get hm4 (x := i) hi
      have hml4 : H4 ma = some (.lst ((G.mvs i).map nI)) := hml
      have mlen : (G.mvs i).length ≤ G.n := by
        have := nodup_le (ok.nd i) (m := List.range G.n) fun y hy => List.mem_range.mpr (ok.lt i y hy)
        rw [List.length_range] at this
        exact this
      have nvc : v ∉ cas := fun z => by
        have := (ncx v z).2
        rw [hv] at this
        cases this
      have nmc : ma ∉ cas := fun z => by
        obtain ⟨m0, e⟩ := Pd.right hm (List.mem_of_getElem? hma)
        have e : H ma = _ := e
        rw [(ncx ma z).2] at e
        cases e
      have nclc : cl ∉ cas := fun z => ncl_c cl z rfl
      have nxc : x ∉ cas := fun z => (ncx x z).1 rfl
      walk_at "go"
      refine g_ixL (SqL.of (sN _ _ nvc hv4)) (atI_nat (by rw [List.getElem?_map, hma]; rfl)) ?_
      walk_at "go"
      refine g_rforL (SqL.of (sN _ _ nmc hml4)) (fun j σ' H' => ∃ (v4 v6 : Option V), σ' = [some (.ref x), some (.ref o), some (.ref p), some (.ref v), v4, some (.int (i : Nat)), v6, none, none, none, none] ∧ SameN cas H4 H' ∧ ∀ t, t < G.n → ∃ (b : Addr) (m : List Nat), cas[t]? = some b ∧ H' b = some (.lst (m.map nI)) ∧ m.Nodup ∧ ∀ y, y ∈ m ↔ (y < i ∧ t ∈ G.mvs y) ∨ (y = i ∧ t ∈ (G.mvs i).take j))
        ⟨_, _, rfl, sN, fun t ht => let ⟨b, m, q1, q2, q3, q4⟩ := cm t ht; ⟨b, m, q1, q2, q3, fun y => by rw [q4 y]; simp⟩⟩ (fun j σ' H' _ ⟨_, _, _, sN, _⟩ => SqL.of (sN _ _ nmc hml4)) ?_ ?_
      · rintro j y σ' H' hy ⟨v4, v6, rfl, sN, cm⟩
        rw [List.getElem?_map] at hy
        obtain ⟨t, ht, rfl⟩ := Option.map_eq_some_iff.mp hy
        have htn := ok.lt i t (List.mem_of_getElem? ht)
        obtain ⟨b, m, q1, q2, q3, q4⟩ := cm t htn
        have hbm := List.mem_of_getElem? q1
        have ntj : t ∉ (G.mvs i).take j := fun h => by
          obtain ⟨j', hj, e⟩ := List.mem_iff_getElem.mp h
          have hjl := (List.getElem?_eq_some_iff.mp ht).1
          rw [List.length_take] at hj
          rw [List.getElem_take] at e
          exact List.pairwise_iff_getElem.mp (ok.nd i) j' j (by omega) hjl (by omega) (e.trans (List.getElem?_eq_some_iff.mp ht).2.symm)
        have him : i ∉ m := fun h => by
          rcases (q4 i).mp h with h | h
          · exact Nat.lt_irrefl _ h.1
          · exact ntj h.2
        have mle : m.length ≤ G.n := by
          have := nodup_le q3 (m := List.range G.n) fun y hy => List.mem_range.mpr (by rcases (q4 y).mp hy with h | h <;> omega)
          rw [List.length_range] at this
          exact this
        walk_at "go"
        refine g_rfld (sN _ _ nxc hx4) T.c_Solver T.n_Solver_coming rfl ?_
        walk_at "go"
        refine g_ixL (SqL.of (sN _ _ nclc hcl4)) (atI_nat (by rw [List.getElem?_map, q1]; rfl)) ?_
        walk_at "go"
        refine g_tyL (SqL.of q2) ?_
        walk_at "go"
        refine g_app q2 (lt_line (by rw [List.length_map]; omega)) ?_
        walk_at "go"
        refine ⟨_, _, rfl, sN.trans (SameN.put hbm), fun t' ht' => ?_⟩
        by_cases e : t' = t
        · subst e
          refine ⟨b, m ++ [i], q1, by rw [upd_same, List.map_append]; rfl, nodup_snoc q3 him, fun y => ?_⟩
          rw [List.mem_append, q4 y, List.mem_singleton, take_snoc ht, List.mem_append, List.mem_singleton]
          constructor
          · rintro ((h | h) | h)
            · exact .inl h
            · exact .inr ⟨h.1, .inl h.2⟩
            · exact .inr ⟨h, .inr rfl⟩
          · rintro (h | ⟨h, h' | h'⟩)
            · exact .inl (.inl h)
            · exact .inl (.inr ⟨h, h'⟩)
            · exact .inr h
        · obtain ⟨b', m', r1, r2, r3, r4⟩ := cm t' ht'
          have nb : b' ≠ b := fun z => by
            subst z
            obtain ⟨l1, e1⟩ := List.getElem?_eq_some_iff.mp r1
            obtain ⟨l2, e2⟩ := List.getElem?_eq_some_iff.mp q1
            exact e ((List.getElem_inj h3).mp (e1.trans e2.symm))
          refine ⟨b', m', r1, by rw [upd_ne nb]; exact r2, r3, fun y => ?_⟩
          rw [r4 y, take_snoc ht, List.mem_append, List.mem_singleton]
          constructor
          · rintro (h | h)
            · exact .inl h
            · exact .inr ⟨h.1, .inl h.2⟩
          · rintro (h | ⟨h, h' | h'⟩)
            · exact .inl h
            · exact .inr ⟨h, h'⟩
            · exact absurd h' e
      · rintro σ' H' ⟨v4, v6, rfl, sN, cm⟩
        rw [List.length_map, List.take_length] at cm
        walk_at "go"
        refine ⟨_, _, _, rfl, sN, fun t ht => ?_⟩
        obtain ⟨b, m, q1, q2, q3, q4⟩ := cm t ht
        refine ⟨b, m, q1, q2, q3, fun y => ?_⟩
        rw [q4 y]
        constructor
        · rintro (h | ⟨rfl, h⟩)
          · exact ⟨by omega, h.2⟩
          · exact ⟨by omega, h⟩
        · rintro ⟨h1, h2⟩
          by_cases e : y = i
          · subst e
            exact .inr ⟨rfl, h2⟩
          · exact .inl ⟨by omega, h2⟩
    rintro σ' H5 ⟨v4, v5, v6, rfl, s5, cm5⟩
    obtain ⟨cm, lcm, rcm⟩ := build_list (bs := cas) (R := fun t (m : List Nat) b => H5 b = some (.lst (m.map nI)) ∧ m.Nodup ∧ ∀ y, y ∈ m ↔ (y < G.n ∧ t ∈ G.mvs y)) fun t b e => by
      obtain ⟨b', m, q1, q2⟩ := cm5 t (by have := (List.getElem?_eq_some_iff.mp e).1; omega)
      rw [e] at q1
      cases q1
      exact ⟨m, q2⟩
    have base5 : ∀ b u, b ≠ x → H b = some u → H5 b = some u := fun b u n e => s5 _ _ (fun z => by rw [(ncx b z).2] at e; cases e) (sx4 _ _ n e)
    have nclc : cl ∉ cas := fun z => ncl_c cl z rfl
    have nxc : x ∉ cas := fun z => (ncx x z).1 rfl
    have hx5 := s5 _ _ nxc hx4
    have hcl5 := s5 _ _ nclc hcl4
    have hcm5 : Paired (NL H5) cm cas := Pd.ofGet lcm fun t m b h1 h2 => (rcm t m b h1 h2).1
    have cmg : ∀ t, t < G.n → (cm.getD t []).Nodup ∧ ∀ y, y ∈ cm.getD t [] ↔ (y < G.n ∧ t ∈ G.mvs y) := fun t ht => by
      have l1 : t < cm.length := by omega
      have l2 : t < cas.length := by omega
      have := (rcm t _ _ (List.getElem?_eq_getElem l1) (List.getElem?_eq_getElem l2)).2
      rw [List.getD_eq_getElem?_getD, List.getElem?_eq_getElem l1]
      exact this
    clear rcm cm5
    -- winner
    walk_at "go"
    refine g_newL 1 rfl (by decide) fun q1 hq1 => ?_
    have sa := same_new (o := .lst [.int (-1)]) hq1
    have hq1' : upd H5 q1 (.lst [.int (-1)]) q1 = some (.lst [.int (-1)]) := upd_same
    generalize upd H5 q1 (.lst [.int (-1)]) = Ha at sa hq1' ⊢
    walk_at "go"
    refine g_rfld (sa _ _ hx5) T.c_Solver T.n_Solver_count rfl ?_
    walk_at "go"
    refine ⟨q1, _, _, rfl, rfl, hq1', by omega, by omega, by show 1 * _ ≤ _; rw [Nat.one_mul]; exact le_line (by omega), fun wl hwl0 => ?_⟩
    rw [show ((G.n : Nat) : Int).toNat = G.n by omega, rep_one]
    have sb := sa.new (o := .lst (List.replicate G.n (V.int (-1)))) hwl0
    have hwlb : upd Ha wl (.lst (List.replicate G.n (V.int (-1)))) wl = some (.lst (List.replicate G.n (V.int (-1)))) := upd_same
    have zwl5 : H5 wl = none := sa.free hwl0
    generalize upd Ha wl (.lst (List.replicate G.n (V.int (-1)))) = Hb at sb hwlb ⊢
    walk_at "go"
    refine g_rput (sb _ _ hx5) T.c_Solver T.n_Solver_winner (by show 5 < 1000; decide) ?_
    have wlx : wl ≠ x := (ne_of_none hx5 zwl5).symm
    have sxc : SameX x H5 (upd Hb x (.ins (He.ga K "Solver") dx (putF "winner" (.ref wl) (putF "coming" (.ref cl) (putF "count" (.int (G.n : Nat)) (putF "moves" (.ref v) (putF "priorities" (.ref p) (putF "owners" (.ref o) [])))))))) := (sb.x x).trans SameX.upd
    have hxc : upd Hb x (.ins (He.ga K "Solver") dx (putF "winner" (.ref wl) (putF "coming" (.ref cl) (putF "count" (.int (G.n : Nat)) (putF "moves" (.ref v) (putF "priorities" (.ref p) (putF "owners" (.ref o) []))))))) x = some (.ins (He.ga K "Solver") dx (putF "winner" (.ref wl) (putF "coming" (.ref cl) (putF "count" (.int (G.n : Nat)) (putF "moves" (.ref v) (putF "priorities" (.ref p) (putF "owners" (.ref o) []))))))) := upd_same
    have hwlc : upd Hb x (.ins (He.ga K "Solver") dx (putF "winner" (.ref wl) (putF "coming" (.ref cl) (putF "count" (.int (G.n : Nat)) (putF "moves" (.ref v) (putF "priorities" (.ref p) (putF "owners" (.ref o) []))))))) wl = some (.lst (List.replicate G.n (V.int (-1)))) := by rw [upd_ne wlx]; exact hwlb
    generalize upd Hb x (.ins (He.ga K "Solver") dx (putF "winner" (.ref wl) (putF "coming" (.ref cl) (putF "count" (.int (G.n : Nat)) (putF "moves" (.ref v) (putF "priorities" (.ref p) (putF "owners" (.ref o) []))))))) = Hc at sxc hxc hwlc ⊢
    -- choice
    walk_at "go"
    refine g_newL 1 rfl (by decide) fun q2 hq2 => ?_
    have sd := same_new (o := .lst [.int (-1)]) hq2
    have hq2' : upd Hc q2 (.lst [.int (-1)]) q2 = some (.lst [.int (-1)]) := upd_same
    generalize upd Hc q2 (.lst [.int (-1)]) = Hd at sd hq2' ⊢
    walk_at "go"
    refine g_rfld (sd _ _ hxc) T.c_Solver T.n_Solver_count rfl ?_
    walk_at "go"
    refine ⟨q2, _, _, rfl, rfl, hq2', by omega, by omega, by show 1 * _ ≤ _; rw [Nat.one_mul]; exact le_line (by omega), fun ch hch0 => ?_⟩
    rw [show ((G.n : Nat) : Int).toNat = G.n by omega, rep_one]
    have se := sd.new (o := .lst (List.replicate G.n (V.int (-1)))) hch0
    have hche : upd Hd ch (.lst (List.replicate G.n (V.int (-1)))) ch = some (.lst (List.replicate G.n (V.int (-1)))) := upd_same
    have zchc : Hc ch = none := sd.free hch0
    generalize upd Hd ch (.lst (List.replicate G.n (V.int (-1)))) = He' at se hche ⊢
    walk_at "go"
    refine g_rput (se _ _ hxc) T.c_Solver T.n_Solver_choice (by show 6 < 1000; decide) ?_
    have chx : ch ≠ x := (ne_of_none hxc zchc).symm
    have wlch : wl ≠ ch := ne_of_none hwlc zchc
    have zch5 : H5 ch = none := by
      cases q : H5 ch with
      | none => rfl
      | some u =>
        rw [sxc _ _ chx q] at zchc
        cases zchc
    obtain ⟨a, ea⟩ : ∃ a : SvA, a = ⟨x, dx, o, p, v, cl, wl, ch, mas, cas⟩ := ⟨_, rfl⟩
    have eF : upd He' x (.ins (He.ga K "Solver") dx (putF "choice" (.ref ch) (putF "winner" (.ref wl) (putF "coming" (.ref cl) (putF "count" (.int (G.n : Nat)) (putF "moves" (.ref v) (putF "priorities" (.ref p) (putF "owners" (.ref o) [])))))))) = upd He' x (.ins (He.ga K "Solver") dx (sF a G.n)) := by
      rw [ea]
      rfl
    rw [eF]
    have sxf : SameX x H5 (upd He' x (.ins (He.ga K "Solver") dx (sF a G.n))) := (sxc.trans (se.x x)).trans SameX.upd
    have hxf : upd He' x (.ins (He.ga K "Solver") dx (sF a G.n)) x = some (.ins (He.ga K "Solver") dx (sF a G.n)) := upd_same
    have hwlf : upd He' x (.ins (He.ga K "Solver") dx (sF a G.n)) wl = some (.lst ((List.replicate G.n (-1)).map V.int)) := by rw [upd_ne wlx, List.map_replicate]; exact se _ _ hwlc
    have hchf : upd He' x (.ins (He.ga K "Solver") dx (sF a G.n)) ch = some (.lst ((List.replicate G.n (-1)).map V.int)) := by rw [upd_ne chx, List.map_replicate]; exact hche
    generalize upd He' x (.ins (He.ga K "Solver") dx (sF a G.n)) = Hf at sxf hxf hwlf hchf ⊢
    have basef : ∀ b u, b ≠ x → H b = some u → Hf b = some u := fun b u n e => sxf _ _ n (base5 b u n e)
    have wc0 : ∀ {b u}, H5 b = some u → b ≠ wl ∧ b ≠ ch := fun e => ⟨ne_of_none e zwl5, ne_of_none e zch5⟩
    have Sf : SvAt K Hf a G cm := by
      subst ea
      refine ⟨hxf, basef _ _ nox ho, basef _ _ npx hp, basef _ _ nvx hv, Pd.map_mem hm fun m b hb e => basef _ _ (ne_of e hx fun z => nomatch z) e, sxf _ _ nclx hcl5, Pd.map_mem hcm5 fun m b hb e => sxf _ _ (ncx b hb).1 e, ok, by omega, fun t y ht => ?_, fun t => ?_, fun b hb => ?_, wlch⟩
      · rw [(cmg t ht).2 y]
        refine ⟨fun h => h.2, fun h => ⟨?_, h⟩⟩
        refine Classical.byContradiction fun ge => ?_
        unfold Gm.mvs at h
        rw [List.getD_eq_getElem?_getD, List.getElem?_eq_none (by show G.n ≤ y; omega)] at h
        cases h
      · by_cases ht : t < G.n
        · exact (cmg t ht).1
        · rw [List.getD_eq_getElem?_getD, List.getElem?_eq_none (by omega)]
          exact List.nodup_nil
      · simp only [SvA.stat, List.mem_cons, List.mem_append] at hb
        rcases hb with rfl | rfl | rfl | rfl | rfl | hb | hb
        · exact ⟨wlx.symm, chx.symm⟩
        · exact wc0 (base5 _ _ nox ho)
        · exact wc0 (base5 _ _ npx hp)
        · exact wc0 (base5 _ _ nvx hv)
        · exact wc0 hcl5
        · obtain ⟨m, e⟩ := Pd.right hm hb
          exact wc0 (base5 _ _ (ne_of e hx fun z => nomatch z) e)
        · obtain ⟨m, e⟩ := Pd.right hcm5 hb
          exact wc0 e
    -- inside
    walk_at "go"
    refine g_newL 1 rfl (by decide) fun q3 hq3 => ?_
    have sg := same_new (o := .lst [.bl true]) hq3
    have hq3' : upd Hf q3 (.lst [.bl true]) q3 = some (.lst [.bl true]) := upd_same
    generalize upd Hf q3 (.lst [.bl true]) = Hg at sg hq3' ⊢
    walk_at "go"
    refine g_rfld (sg _ _ hxf) T.c_Solver T.n_Solver_count rfl ?_
    walk_at "go"
    refine ⟨q3, _, _, rfl, rfl, hq3', by omega, by omega, by show 1 * _ ≤ _; rw [Nat.one_mul]; exact le_line (by omega), fun il hil0 => ?_⟩
    rw [show ((G.n : Nat) : Int).toNat = G.n by omega, rep_one]
    have sh := sg.new (o := .lst (List.replicate G.n (V.bl true))) hil0
    have hilh : IL (upd Hg il (.lst (List.replicate G.n (V.bl true)))) il (List.replicate G.n true) := by
      show upd _ il _ il = _
      rw [upd_same, List.map_replicate]
    have zilf : Hf il = none := sg.free hil0
    generalize upd Hg il (.lst (List.replicate G.n (V.bl true))) = Hh at sh hilh ⊢
    have hxh := sh _ _ hxf
    have hwlh := sh _ _ hwlf
    have hchh := sh _ _ hchf
    have Sh : SvAt K Hh a G cm := Sf.mono (ws := []) (fun b u _ e => sh _ _ e) fun _ _ h => nomatch h
    have nilw : il ≠ wl := (ne_of_none hwlf zilf).symm
    have nilc : il ≠ ch := (ne_of_none hchf zilf).symm
    have nils : il ∉ a.stat := Sf.fresh zilf
    have ewl : a.wl = wl := by rw [ea]
    have ech : a.ch = ch := by rw [ea]
    have eax : a.x = x := by rw [ea]
    have far : ∀ b ∈ a.stat, b ∉ [a.wl, a.ch, il] := fun b hb h => by
      simp only [List.mem_cons, List.not_mem_nil, or_false] at h
      rcases h with h | h | h
      · exact (Sf.far b hb).1 h
      · exact (Sf.far b hb).2 h
      · exact nils (h ▸ hb)
    rw [← ewl] at hwlh nilw
    rw [← ech] at hchh nilc
    have hall : ∀ y, insF (List.replicate G.n true) y = true ↔ y < G.n := fun y => by
      show (List.replicate G.n true).getD y false = true ↔ _
      rw [getD_rep]
      by_cases h : y < G.n <;> simp [h]
    let Es : Bool → List Nat := fun pl => (List.range G.n).filter fun k => decide ((G.mvs k).length = 0) && !decide (G.own k = pl)
    have hEs : ∀ pl y, y ∈ Es pl ↔ y < G.n ∧ G.mvs y = [] ∧ G.own y = !pl := fun pl y => by
      show y ∈ (List.range G.n).filter _ ↔ _
      rw [List.mem_filter, List.mem_range, Bool.and_eq_true, decide_eq_true_iff, List.length_eq_zero_iff]
      refine and_congr_right fun _ => and_congr_right fun _ => ?_
      cases G.own y <;> cases pl <;> decide
    have ho_h : Hh a.o = some (.lst (G.os.map fun b => V.int (bN b))) := Sh.ho
    have hv_h : Hh a.v = some (.lst (mas.map V.ref)) := by have := Sh.hv; rw [ea] at this ⊢; exact this
    have eo : a.o = o := by rw [ea]
    have ev : a.v = v := by rw [ea]
    walk_at "go"
    refine g_newT 2 rfl (by decide) fun tp htp => ?_
    have si := same_new (o := .tup [.int 0, .int 1]) htp
    have htp' : upd Hh tp (.tup [.int 0, .int 1]) tp = some (.tup [.int 0, .int 1]) := upd_same
    generalize upd Hh tp (.tup [.int 0, .int 1]) = Hi at si htp' ⊢
    have ntw : tp ≠ a.wl := (ne_of_none hwlh htp).symm
    have ntc : tp ≠ a.ch := (ne_of_none hchh htp).symm
    have nti : tp ≠ il := (ne_of_none (show Hh il = _ from hilh) htp).symm
    have Si : SvAt K Hi a G cm := Sh.mono (ws := []) (fun b u _ e => si _ _ e) fun _ _ h => nomatch h
    refine g_rforT (SqT.of htp') (fun j σ' H' => ∃ (A0 A1 : List Nat) (ins : List Bool) (ws cs : List Int) (v4 v5 v6 v8 v9 : Option V), σ' = [some (.ref x), some (.ref o), some (.ref p), some (.ref v), v4, v5, v6, some (.ref il), v8, v9, none] ∧ SameN [a.wl, a.ch, il] Hi H' ∧ IL H' il ins ∧ ins.length = G.n ∧
        H' a.wl = some (.lst (ws.map V.int)) ∧ ws.length = G.n ∧ H' a.ch = some (.lst (cs.map V.int)) ∧ cs.length = G.n ∧ (1 ≤ j → AttOk G (insF (List.replicate G.n true)) false (Es false) A0) ∧ (j = 0 → A0 = []) ∧ (2 ≤ j → AttOk G (insF (List.replicate G.n true)) true (Es true) A1) ∧ (j ≤ 1 → A1 = []) ∧
        (∀ y, ws.getD y 0 = if y ∈ A1 then 1 else if y ∈ A0 then 0 else (List.replicate G.n (-1)).getD y 0) ∧ ∀ y, insF ins y = true ↔ y < G.n ∧ y ∉ A0 ∧ y ∉ A1)
      ⟨[], [], _, _, _, _, _, _, _, _, rfl, fun _ _ _ e => e, si _ _ hilh, by simp, si _ _ hwlh, by simp, si _ _ hchh, by simp, (fun h => absurd h (by decide)), (fun _ => rfl), (fun h => absurd h (by decide)), (fun _ => rfl), (fun y => by simp), fun y => by rw [hall y]; simp⟩
      (fun j σ' H' _ ⟨_, _, _, _, _, _, _, _, _, _, _, sN, _⟩ => SqT.of (sN _ _ (by simp [ntw, ntc, nti]) htp')) ?_ ?_
    · rintro j y σ' H' hy ⟨A0, A1, ins, ws, cs, v4, v5, v6, v8, v9, rfl, sN, hil', hin', hw', hwl', hc', hcl', b0, b1, b2, b3, hws, hins⟩
      obtain ⟨pl, rfl, ej⟩ : ∃ pl : Bool, y = V.int (bN pl) ∧ j = if pl = true then 1 else 0 := by
        match j, hy with
        | 0, hy => exact ⟨false, by simp at hy; rw [← hy]; rfl, rfl⟩
        | 1, hy => exact ⟨true, by simp at hy; rw [← hy]; rfl, rfl⟩
        | n + 2, hy => simp at hy
      have S' := Si.mono sN far
      have ho' : H' o = some (.lst (G.os.map fun b => V.int (bN b))) := by have := S'.ho; rw [eo] at this; exact this
      have hv' : H' v = some (.lst (a.mas.map V.ref)) := by have := S'.hv; rw [ev] at this; exact this
      have hx' : H' x = some (.ins (He.ga K "Solver") a.dx (sF a G.n)) := by have := S'.hx; rw [eax] at this; exact this
      walk_at "go"
      refine g_rfld hx' T.c_Solver T.n_Solver_count rfl ?_
      walk_at "go"
      refine g_filtR nle (fun k => decide ((G.mvs k).length = 0) && !decide (G.own k = pl)) (fun _ => rfl) (fun _ => rfl) (fun y hy H2 s0 Qb q => ?_) fun el H2 zel s2 hel => ?_
      · obtain ⟨ma, hma, hml⟩ := nl_get S'.hm (x := y) hy
        have hml' : H' ma = some (.lst ((G.mvs y).map nI)) := hml
        walk_at "go"
        refine g_ixL (SqL.of (s0 _ _ hv')) (atI_nat (by rw [List.getElem?_map, hma]; rfl)) ?_
        walk_at "go"
        refine g_len (.inl (SqL.of (s0 _ _ hml'))) ?_
        walk_at "go"
        rw [List.length_map, show decide (V.int (((G.mvs y).length : Nat) : Int) = V.int 0) = decide ((G.mvs y).length = 0) from nat_dec _ 0]
        by_cases hz : (G.mvs y).length = 0
        · rw [decide_eq_true hz] at q ⊢
          refine iteT ?_
          walk_at "go"
          refine g_ixL (SqL.of (s0 _ _ ho')) (at_own (by rw [ok.l1]; exact hy)) ?_
          walk_at "go"
          rw [show decide (V.int (bN (G.os.getD y false)) = V.int (bN pl)) = decide (G.own y = pl) from by show decide (V.int (bN (G.own y)) = V.int (bN pl)) = _; cases G.own y <;> cases pl <;> rfl]
          exact q
        · rw [decide_eq_false hz] at q ⊢
          refine iteF ?_
          exact q
      have ndE : (Es pl).Nodup := List.Pairwise.filter _ List.nodup_range
      have helE : H2 el = some (.lst ((Es pl).map nI)) := hel
      have elw : el ≠ a.wl := (ne_of_none hw' zel).symm
      have elc : el ≠ a.ch := (ne_of_none hc' zel).symm
      walk_at "go"
      refine g_rm (s2 _ _ hx') rfl ?_
      walk_at "go"
      refine g_rm (s2 _ _ hx') rfl ?_
      walk_at "go"
      refine g_newL 1 rfl (by decide) fun q4 hq4 => ?_
      have s3 := s2.trans (same_new (o := .lst [.bl true]) hq4)
      have hel3 := (same_new (o := .lst [.bl true]) hq4) _ _ helE
      have hq4' : upd H2 q4 (.lst [.bl true]) q4 = some (.lst [.bl true]) := upd_same
      generalize upd H2 q4 (.lst [.bl true]) = H3 at s3 hq4' hel3 ⊢
      walk_at "go"
      refine g_rfld (s3 _ _ hx') T.c_Solver T.n_Solver_count rfl ?_
      walk_at "go"
      refine ⟨q4, _, _, rfl, rfl, hq4', by omega, by omega, by show 1 * _ ≤ _; rw [Nat.one_mul]; exact le_line (by omega), fun tl htl => ?_⟩
      rw [show ((G.n : Nat) : Int).toNat = G.n by omega, rep_one]
      have s4 := s3.trans (same_new (o := .lst (List.replicate G.n (V.bl true))) htl)
      have hel4 := (same_new (o := .lst (List.replicate G.n (V.bl true))) htl) _ _ hel3
      have htl4 : IL (upd H3 tl (.lst (List.replicate G.n (V.bl true)))) tl (List.replicate G.n true) := by
        show upd _ tl _ tl = _
        rw [upd_same, List.map_replicate]
      have tlc : tl ≠ a.ch := (ne_of_none (s3 _ _ hc') htl).symm
      generalize upd H3 tl (.lst (List.replicate G.n (V.bl true))) = H4 at s4 hel4 htl4 ⊢
      have S4 : SvAt K H4 a G cm := S'.mono (ws := []) (fun b u _ e => s4 _ _ e) fun _ _ h => nomatch h
      walk_at "go"
      refine ⟨a, G, cm, tl, el, List.replicate G.n true, pl, Es pl, cs, by rw [eax], S4, htl4, by simp, tlc, hel4, elc, ndE, fun t ht => ⟨((hEs pl t).mp ht).1, (hall t).mpr ((hEs pl t).mp ht).1⟩, s4 _ _ hc', hcl', fun gl Qs H5 cs5 zgl s5 hc5 hcl5 hgl AT => ?_⟩
      have glw : gl ≠ a.wl := (ne_of_none (s4 _ _ hw') zgl).symm
      have gli : gl ≠ il := (ne_of_none (s4 _ _ (show H' il = _ from hil')) zgl).symm
      have S5 := S4.mono s5 fun b hb h => (Sf.far b hb).2 (List.mem_singleton.mp h)
      have wcn : a.wl ≠ a.ch := Sf.wc
      walk_at "go"
      refine ⟨a, G, cm, il, gl, ins, pl, Qs, ws, by rw [eax], S5, s5 _ _ (by simp [nilc]) (s4 _ _ hil'), hin', nilw, nils, hgl, glw, gli, fun z hz => (AT.sub z hz).1, s5 _ _ (by simp [wcn]) (s4 _ _ hw'), hwl', fun H6 ws6 ins6 s6 hw6 hwl6 hil6 hin6 hws6 hi6 => ?_⟩
      have hc6 := s6 _ _ (by simp [wcn.symm, nilc.symm]) hc5
      have sN6 : SameN [a.wl, a.ch, il] Hi H6 := ((sN.trans (SameN.of s4)).trans (s5.mono fun b hb => by simp at hb; simp [hb])).trans (s6.mono fun b hb => by simp at hb; rcases hb with hb | hb <;> simp [hb])
      walk_at "go"
      cases pl with
      | false =>
        have ej : j = 0 := ej
        subst ej
        have z0 := b1 rfl
        have z1 := b3 (Nat.zero_le _)
        subst z0 z1
        refine ⟨Qs, [], ins6, ws6, cs5, _, _, _, _, _, rfl, sN6, hil6, hin6, hw6, hwl6, hc6, hcl5, fun _ => AT, (fun h => absurd h (by decide)), (fun h => absurd h (by decide)), (fun _ => rfl), fun y => ?_, fun y => ?_⟩
        · rw [hws6 y, hws y]
          simp [bN]
        · rw [hi6 y, minus_t, hins y]
          simp
      | true =>
        have ej : j = 1 := ej
        subst ej
        have z1 := b3 (Nat.le_refl _)
        subst z1
        refine ⟨A0, Qs, ins6, ws6, cs5, _, _, _, _, _, rfl, sN6, hil6, hin6, hw6, hwl6, hc6, hcl5, fun _ => b0 (Nat.le_refl _), (fun h => absurd h (by decide)), (fun _ => AT), (fun h => absurd h (by decide)), fun y => ?_, fun y => ?_⟩
        · rw [hws6 y, hws y]
          simp [bN]
        · rw [hi6 y, minus_t, hins y]
          simp [and_assoc]
    · rintro σ' H' ⟨A0, A1, ins, ws, cs, v4, v5, v6, v8, v9, rfl, sN, hil', hin', hw', hwl', hc', hcl', b0, b1, b2, b3, hws, hins⟩
      have S' := Si.mono sN far
      have hx' : H' x = some (.ins (He.ga K "Solver") a.dx (sF a G.n)) := by have := S'.hx; rw [eax] at this; exact this
      have B0 := b0 (by decide)
      have B1 := b2 (Nat.le_refl _)
      obtain ⟨live, sep⟩ := sep_ends ok hall (fun y => hEs false y) (fun y => hEs true y) B0 B1 hins
      walk_at "go"
      refine g_rm hx' rfl ?_
      walk_at "go"
      refine ⟨a, G, cm, il, ins, ws, cs, by rw [eax], S', hil', hin', nilw, nilc, nils, hw', hwl', hc', hcl', live, fun y hy => h16 y ((hins y).mp hy).1, fun H7 ws7 cs7 s7 hw7 hwl7 hc7 hcl7 SD => ?_⟩
      obtain ⟨w7, hs7, hv7⟩ := SD.ex
      have hx7 : H7 x = some (.ins (He.ga K "Solver") a.dx (sF a G.n)) := by
        have := (S'.mono s7 far).hx
        rw [eax] at this
        exact this
      have zil : ∀ b u, H b = some u → b ≠ a.wl ∧ b ≠ a.ch ∧ b ≠ il := fun b u e => by
        have n1 : b ≠ wl ∧ b ≠ ch := by
          by_cases ex : b = x
          · rw [ex]
            exact ⟨wlx.symm, chx.symm⟩
          · exact wc0 (base5 b u ex e)
        refine ⟨by rw [ewl]; exact n1.1, by rw [ech]; exact n1.2, fun z => ?_⟩
        by_cases ex : b = x
        · rw [z] at ex
          rw [ex, hxf] at zilf
          cases zilf
        · rw [z] at ex e
          rw [basef il u ex e] at zilf
          cases zilf
      refine k H7 a ws7 eax (fun b u n e => ?_) hx7 hw7 hwl7 ⟨fun y => if y ∈ A1 then true else if y ∈ A0 then false else w7 y, fun pl C c y b hy h => ?_, fun y hy => ?_⟩
      · obtain ⟨n1, n2, n3⟩ := zil b u e
        exact s7 _ _ (by simp [n1, n2, n3]) (sN _ _ (by simp [n1, n2, n3]) (si _ _ (sh _ _ (basef b u n e))))
      · refine sep w7 hs7 pl C ?_ y b hy h
        have e : (fun x => decide (x < G.n)) = insF (List.replicate G.n true) := funext fun z => Bool.eq_iff_iff.mpr (by rw [decide_eq_true_iff, hall z])
        rw [← e]
        exact c
      · show ws7.getD y 0 = bN (if y ∈ A1 then true else if y ∈ A0 then false else w7 y)
        cases hJ : insF ins y with
        | true =>
          obtain ⟨_, n0, n1⟩ := (hins y).mp hJ
          rw [if_neg n1, if_neg n0]
          exact hv7 y hJ
        | false =>
          rw [SD.out y hJ, hws y]
          by_cases h1 : y ∈ A1
          · rw [if_pos h1, if_pos h1]
            rfl
          · rw [if_neg h1, if_neg h1]
            by_cases h0 : y ∈ A0
            · rw [if_pos h0, if_pos h0]
              rfl
            · have := (hins y).mpr ⟨hy, h0, h1⟩
              rw [hJ] at this
              cases this
end
end K22

set_option Elab.async false
set_option linter.all false
set_option maxRecDepth 100000
set_option maxHeartbeats 1000000
namespace K22
open PySem PySem.Spec PyProof.Rows L2
local macro_rules | `(tactic| walk_at "go1") => `(tactic| with_reducible first
  | refine g_seq ?_ | refine g_asg ?_ | refine g_name ?_ | refine g_c ?_ | refine g_op ?_ | refine g_cons ?_ | refine g_nil ?_ | refine g_cb ?_ | refine g_call ?_ | refine g_meth ?_
  | refine g_I0 ?_ | refine g_ret ?_ | refine g_retN ?_ | refine g_drop ?_ | refine g_if ?_ | refine g_test ?_ | refine g_tB ?_ | refine g_bool ?_
  | refine g_not ?_ | refine g_and ?_ | refine g_or ?_ | refine g_yes ?_ | refine g_tup ?_ | refine g_lst ?_ | refine g_slice ?_ | refine g_part ?_ | refine g_nopart ?_ | refine g_int ?_ | refine g_fld ?_ | refine g_dget ?_
  | refine g_din ?_ | refine g_dnotin ?_ | refine g_bm0 ?_ | refine g_bm ?_ | refine g_ifexp ?_ | refine g_andv ?_ | refine g_orv ?_ | refine g_notv ?_ | refine g_chain ?_ | refine g_U ?_ | refine g_next ?_ | refine g_brk ?_ | refine g_cont ?_
  | refine g_sfld ?_ | refine g_sdput ?_ | refine g_gtup ?_ | refine g_gcons ?_ | refine g_gnil ?_ | refine g_gsub ?_ | refine g_forT ?_ | refine g_forL ?_ | refine g_forR ?_ | refine g_lcT ?_ | refine g_lcL ?_ | refine g_lcR ?_ | refine g_un ?_ | refine g_sfa ?_ | refine g_ip ?_ | refine g_nin ?_ | refine g_nnot ?_ | refine g_nget ?_ | refine g_nput ?_ | refine g_ndisp ?_ | refine g_addI ?_ | refine g_subI ?_
  | (show Ends.nx _ _ _; refine g_nxm ?_) | (show Ends.rt _ _ _; refine g_rtm ?_) | (show Ends.bk _ _ _; refine g_bkm ?_) | (show Ends.ct _ _ _; refine g_ctm ?_))
local macro_rules | `(tactic| walk_at "go2") => `(tactic| first
  | ((with_reducible show tVar _ _ _ _); refine g_var rfl ?_)
  | ((with_reducible show rEq _ _ _ _); refine g_eq rfl ?_)
  | ((with_reducible show rNe _ _ _ _); refine g_ne rfl ?_)
  | ((with_reducible show tAug _ _ _ _ _ _); refine g_aug rfl ?_))
local macro_rules | `(tactic| walk_at "go") => `(tactic| repeat (first | walk_at "go1" | walk_at "go2"))
section
variable {P : Program} {w : World} {K : PySem.W.Frag} {mg : Str → Option Value} {base : Heap}
/-! ### accepted -/
/-- a certificate over positions -/
structure PCert (W : Wd) (M : Mc) (pl : Bool) (C : Po → (Nat → Nat) → Prop) : Prop where
  own : ∀ q a, C q a → W.own q = pl → ∃ t ∈ succ W M q, ∃ b, C t b ∧ Dec pl (M.pri q.2) a b
  opp : ∀ q a, C q a → W.own q ≠ pl → ∀ t ∈ succ W M q, ∃ b, C t b ∧ Dec pl (M.pri q.2) a b
def gmOf (os : List Bool) (prs : List Nat) (mvs : List (List Nat)) : Gm := ⟨os, prs, mvs⟩
theorem GOk.gm {W : Wd} {M : Mc} {ps : List Po} {os : List Bool} {prs : List Nat} {mvs : List (List Nat)} (h : GOk W M ps os prs mvs ps.length) (hl : ps.length ≤ 51200) : (gmOf os prs mvs).Ok ∧ (gmOf os prs mvs).n = ps.length := by
  have en : (gmOf os prs mvs).n = ps.length := h.l3
  have key : ∀ x, (gmOf os prs mvs).mvs x = [] ∨ ∃ q, ps[x]? = some q ∧ mvs[x]? = some ((gmOf os prs mvs).mvs x) := fun x => by
    by_cases e : x < ps.length
    · refine .inr ⟨ps[x], List.getElem?_eq_getElem e, ?_⟩
      show mvs[x]? = some (mvs.getD x [])
      rw [List.getD_eq_getElem?_getD, List.getElem?_eq_getElem (by rw [h.l3]; exact e)]
      rfl
    · left
      show mvs.getD x [] = []
      rw [List.getD_eq_getElem?_getD, List.getElem?_eq_none (by rw [h.l3]; omega)]
      rfl
  refine ⟨⟨by rw [en]; exact h.l1, by rw [en]; exact h.l2, fun x => ?_, fun x y hy => ?_, by rw [en]; exact hl⟩, en⟩
  · rcases key x with e | ⟨q, e1, e2⟩
    · rw [e]
      exact List.Pairwise.nil
    · exact (h.mv x q _ e1 e2).2
  · rcases key x with e | ⟨q, e1, e2⟩
    · rw [e] at hy
      cases hy
    · obtain ⟨t, _, ht⟩ := (h.mv x q _ e1 e2).1.a y hy
      rw [en]
      exact (List.getElem?_eq_some_iff.mp ht).1
theorem PCert.cert {W : Wd} {M : Mc} {pl : Bool} {C : Po → (Nat → Nat) → Prop} (c : PCert W M pl C) {ps : List Po} {os : List Bool} {prs : List Nat} {mvs : List (List Nat)} (h : GOk W M ps os prs mvs ps.length) :
    Cert (gmOf os prs mvs) pl (fun x => decide (x < (gmOf os prs mvs).n)) fun x a => ∃ q, ps[x]? = some q ∧ C q a := by
  have en : (gmOf os prs mvs).n = ps.length := h.l3
  have at_ : ∀ x q, ps[x]? = some q → (gmOf os prs mvs).own x = W.own q ∧ (gmOf os prs mvs).pri x = M.pri q.2 ∧ MvS W M ps q ((gmOf os prs mvs).mvs x) := fun x q e => by
    have hx : x < ps.length := (List.getElem?_eq_some_iff.mp e).1
    refine ⟨?_, ?_, ?_⟩
    · show os.getD x false = _
      rw [List.getD_eq_getElem?_getD, h.ow x q hx e]
      rfl
    · show prs.getD x 0 = _
      rw [List.getD_eq_getElem?_getD, h.pr x q hx e]
      rfl
    · refine (h.mv x q _ e ?_).1
      show mvs[x]? = some (mvs.getD x [])
      rw [List.getD_eq_getElem?_getD, List.getElem?_eq_getElem (by rw [h.l3]; exact hx)]
      rfl
  refine ⟨fun x a _ ⟨q, e, hC⟩ ho => ?_, fun x a _ ⟨q, e, hC⟩ ho y hy _ => ?_⟩
  · obtain ⟨e1, e2, mv⟩ := at_ x q e
    obtain ⟨t, ht, b, hb, d⟩ := c.own q a hC (by rw [← e1]; exact ho)
    obtain ⟨j, hj, ej⟩ := mv.b t ht
    exact ⟨j, hj, decide_eq_true (by rw [en]; exact (List.getElem?_eq_some_iff.mp ej).1), b, ⟨t, ej, hb⟩, by rw [e2]; exact d⟩
  · obtain ⟨e1, e2, mv⟩ := at_ x q e
    obtain ⟨t, ht, et⟩ := mv.a y hy
    obtain ⟨b, hb, d⟩ := c.opp q a hC (by rw [← e1]; exact ho) t ht
    exact ⟨b, ⟨t, et, hb⟩, by rw [e2]; exact d⟩
/-- the states that a machine accepts: right for everyone with a certificate -/
def AccOk (W : Wd) (M : Mc) (acc : List Nat) : Prop := ∃ v : Nat → Bool, acc = (List.range W.n).filter (fun s => !v s) ∧ ∀ pl C, PCert W M pl C → ∀ s a, s < W.n → C (s, .var (M.start : Nat)) a → v s = pl
def spAccepted (K : PySem.W.Frag) : Sp := fun vs H Q _ => ∃ (ma wa : Addr) (W : Wd) (M : Mc), vs = [.ref ma, .ref wa] ∧ MAt K H ma M ∧ WAt K H wa W ∧ (∀ p ∈ M.pr, p < 16) ∧
  ∀ q H' acc, H q = none → Same H H' → H' q = some (.lst (acc.map nI)) → AccOk W M acc → Q (.ref q) H'
-- slots of accepted: 0:machine 1:world 2:run 3:winner* 4:state
abbrev n_accepted : List Str := ["machine", "world", "run", "winner", "state"]
theorem sc_accepted : FnScope n_accepted p_accepted (defScope s_accepted) := ⟨rfl, rfl, rfl, by decide +kernel, rfl, by decide +kernel, by decide +kernel⟩
theorem ok_accepted (T : Top w K mg) : Ok P w K mg base 22 a_accepted p_accepted (spAccepted K) := by
  have G_Run_init := ok_Run_init (P := P) (base := base) T
  have G_Solver_init := ok_Solver_init (P := P) (base := base) T
  refine T.F_accepted.ok sc_accepted (fun vs H Q E h => ?_) (fun cdv A outer s H vs Q E hr h => ?_)
  · obtain ⟨ma, wa, W, M, rfl, _⟩ := h
    rfl
  · obtain ⟨ma, wa, W, M, rfl, hm, hw, h16, k⟩ := h
    refine ⟨_, PSs.nox (pss_cons (ps_set (i := 2) sc_accepted.nd rfl (Or.inl rfl) (pe_make T.m_Run (G_Run_init) (hr.mono (by omega)) (by rfl) T.g_Run T.b_Run_init .nil pass0 (pa_cons (pv 0) (pa_cons (pv 1) pa_nil))))
    (pss_cons (ps_set (i := 3) sc_accepted.nd rfl (Or.inr rfl) (kpe_fld K (pe_make T.m_Solver (G_Solver_init) (hr.mono (by omega)) (by rfl) T.g_Solver T.b_Solver_init .nil pass0 (pa_cons (kpe_fld K (pv 2)) (pa_cons (kpe_fld K (pv 2)) (pa_cons (kpe_fld K (pv 2)) pa_nil))))))
    (pss_one (ps_ret (pe_lc (own := [("state", 4)]) (g := gName 4) rfl sc_accepted.nd (pi_range1 (by rfl) T.z_range (pa_cons (pe_callB (kc_len K) (by rfl) T.z_len bt_len (pa_cons (kpe_fld K (pv 1)) pa_nil)) pa_nil)) (blkOk_by (N := n_accepted) (sc := (defScope s_accepted)) (by decide +kernel)) (fun _ _ _ _ _ => (pg_name (i := 4) sc_accepted.nd rfl (Or.inl rfl))) (fun _ _ _ _ _ => (pts_one (pt_cmpR op_eq (pe_ix (ki_list K) (pv 3) (pv 4) (fun _ _ => rfl)) pe_int (nomark _)))) (fun _ _ _ _ _ => (pv 4))))))), ?_⟩
    obtain ⟨wok, dw, wps, wpt, was, wbs, w1, w2, w3, w4, w5⟩ := id hw
    have fl := wok.fl
    have n4 := wok.n4
    have hwl := Paired.length w3
    walk_at "go"
    refine g_make ?_
    walk_at "go"
    intro x dx nx ndx nex
    have sm := same_make (C := He.ga K "Run") nx ndx
    refine ⟨x, dx, ma, wa, W, M, rfl, upd_same, hm.mono sm, hw.mono sm, fun H1 ps os prs mvs sx RD => ⟨rfl, ?_⟩⟩
    have s1 : Same H H1 := sx.new_of nx sm
    obtain ⟨⟨dx', ma', wa', l, d, o, p, v, as, e0, G⟩, g, nd, un, st, len⟩ := RD
    obtain ⟨ok, en⟩ := g.gm len
    have hst : W.n ≤ ps.length := by
      have n1 := wok.n1
      have := (List.getElem?_eq_some_iff.mp (st (W.n - 1) (by omega))).1
      omega
    walk_at "go"
    refine g_make ?_
    walk_at "go"
    refine g_rfld e0 T.c_Run T.n_Run_owners rfl ?_
    walk_at "go"
    refine g_rfld e0 T.c_Run T.n_Run_priorities rfl ?_
    walk_at "go"
    refine g_rfld e0 T.c_Run T.n_Run_moves rfl ?_
    walk_at "go"
    intro y dy ny ndy ney
    have sm2 := same_make (C := He.ga K "Solver") ny ndy
    refine ⟨y, dy, o, p, v, as, gmOf os prs mvs, rfl, upd_same, sm2 _ _ G.ho, sm2 _ _ G.hp, sm2 _ _ G.hv, Paired.mapP G.hm fun _ _ z => sm2 _ _ z, ok, fun z hz => ?_, fun H2 a ws eax s2 hx2 hwl2 hl2 won => ⟨rfl, ?_⟩⟩
    · show prs.getD z 0 < 16
      rw [en] at hz
      obtain ⟨q, hq⟩ : ∃ q, ps[z]? = some q := ⟨_, List.getElem?_eq_getElem hz⟩
      rw [List.getD_eq_getElem?_getD, g.pr z q hz hq]
      show M.pri q.2 < 16
      unfold Mc.pri
      split
      · rename_i z' _
        by_cases hl : z'.toNat < M.pr.length
        · exact h16 _ (getD_mem hl)
        · rw [List.getD_eq_getElem?_getD, List.getElem?_eq_none (by omega)]
          decide
      · decide
    have s12 : Same H1 H2 := s2.new_of ny sm2
    have s02 := s1.trans s12
    walk_at "go"
    refine g_rfld hx2 T.c_Solver T.n_Solver_winner rfl ?_
    walk_at "go"
    refine g_rfld (s02 _ _ w1) T.c_World T.n_World_states rfl ?_
    walk_at "go"
    refine g_len (.inr (SqT.of (s02 _ _ w2))) ?_
    walk_at "go"
    rw [List.length_map, ← hwl, fl]
    refine g_filtR (by omega) (fun s => decide (ws.getD s 0 = 0)) (fun _ => rfl) (fun _ => rfl) (fun z hz H' s0 Qb q => ?_) fun q H3 zq s3 hq => ?_
    · walk_at "go"
      refine g_ixL (SqL.of (s0 _ _ hwl2)) (at_int (by omega)) ?_
      walk_at "go"
      rw [int_dec]
      exact q
    walk_at "go"
    obtain ⟨wn, hwin, hval⟩ := won
    refine k q H3 _ (s02.free zq) (s02.trans s3) hq ⟨wn, ?_, fun pl C c s a hs hC => ?_⟩
    · refine List.filter_congr fun s hs => ?_
      rw [hval s (by rw [en]; have := List.mem_range.mp hs; omega)]
      cases wn s <;> rfl
    · exact hwin pl _ (c.cert g) s a (by rw [en]; omega) ⟨_, st s hs, hC⟩
end
end K22

set_option Elab.async false
set_option linter.all false
set_option maxRecDepth 100000
set_option maxHeartbeats 1000000
namespace K22
open PySem PySem.Spec PyProof.Rows L2
local macro_rules | `(tactic| walk_at "go1") => `(tactic| with_reducible first
  | refine g_seq ?_ | refine g_asg ?_ | refine g_name ?_ | refine g_c ?_ | refine g_op ?_ | refine g_cons ?_ | refine g_nil ?_ | refine g_cb ?_ | refine g_call ?_ | refine g_meth ?_
  | refine g_I0 ?_ | refine g_ret ?_ | refine g_retN ?_ | refine g_drop ?_ | refine g_if ?_ | refine g_test ?_ | refine g_tB ?_ | refine g_bool ?_
  | refine g_not ?_ | refine g_and ?_ | refine g_or ?_ | refine g_yes ?_ | refine g_tup ?_ | refine g_lst ?_ | refine g_slice ?_ | refine g_part ?_ | refine g_nopart ?_ | refine g_int ?_ | refine g_fld ?_ | refine g_dget ?_
  | refine g_din ?_ | refine g_dnotin ?_ | refine g_bm0 ?_ | refine g_bm ?_ | refine g_ifexp ?_ | refine g_andv ?_ | refine g_orv ?_ | refine g_notv ?_ | refine g_chain ?_ | refine g_U ?_ | refine g_next ?_ | refine g_brk ?_ | refine g_cont ?_
  | refine g_sfld ?_ | refine g_sdput ?_ | refine g_gtup ?_ | refine g_gcons ?_ | refine g_gnil ?_ | refine g_gsub ?_ | refine g_forT ?_ | refine g_forL ?_ | refine g_forR ?_ | refine g_lcT ?_ | refine g_lcL ?_ | refine g_lcR ?_ | refine g_un ?_ | refine g_sfa ?_ | refine g_ip ?_ | refine g_nin ?_ | refine g_nnot ?_ | refine g_nget ?_ | refine g_nput ?_ | refine g_ndisp ?_ | refine g_addI ?_ | refine g_subI ?_
  | (show Ends.nx _ _ _; refine g_nxm ?_) | (show Ends.rt _ _ _; refine g_rtm ?_) | (show Ends.bk _ _ _; refine g_bkm ?_) | (show Ends.ct _ _ _; refine g_ctm ?_))
local macro_rules | `(tactic| walk_at "go2") => `(tactic| first
  | ((with_reducible show tVar _ _ _ _); refine g_var rfl ?_)
  | ((with_reducible show rEq _ _ _ _); refine g_eq rfl ?_)
  | ((with_reducible show rNe _ _ _ _); refine g_ne rfl ?_)
  | ((with_reducible show tAug _ _ _ _ _ _); refine g_aug rfl ?_))
local macro_rules | `(tactic| walk_at "go") => `(tactic| repeat (first | walk_at "go1" | walk_at "go2"))
section
variable {P : Program} {w : World} {K : PySem.W.Frag} {mg : Str → Option Value} {base : Heap}
/-! ### the law's draws -/
structure DrA (H : Hp) (d : Addr) (ds : List Int) : Prop where
  at_ : H d = some (.lst (ds.map V.int))
  bd : ∀ x ∈ ds, 0 ≤ x ∧ x < 1000
  len : ds.length ≤ 1000
theorem g_tail2 {a i U : TS} {D : Ends} {σ : L2.St} {H : Hp} (Pt : L2.St → Hp → Prop) (h1 : ∀ U' : TS, (∀ σ' H', Pt σ' H' → U' D σ' H') → tSeq a (tSeq i U') D σ H) (h2 : ∀ σ' H', Pt σ' H' → U D σ' H') : tSeq a (tSeq i U) D σ H := h1 U h2
def spDraws (K : PySem.W.Frag) : Sp := fun vs H Q _ => ∃ (a : Addr) (xs : List Int), vs = [.ref a, .int 500] ∧ SqL K H a (xs.map V.int) ∧ xs.length ≤ 63 ∧ ∀ d H' ds, H d = none → Same H H' → DrA H' d ds → Q (.ref d) H'
-- slots of _law_draws: 0:_law_script 1:_law_count 2:_law_cells 3:_law_found 4:_law_mixed 5:_law_k 6:_law_j 7:_law_cell 8:_law_again
abbrev n_law_draws : List Str := ["_law_script", "_law_count", "_law_cells", "_law_found", "_law_mixed", "_law_k", "_law_j", "_law_cell", "_law_again"]
theorem sc_law_draws : FnScope n_law_draws p_law_draws (defScope s_law_draws) := ⟨rfl, rfl, rfl, by decide +kernel, rfl, by decide +kernel, by decide +kernel⟩
theorem ok_law_draws (T : Top w K mg) : Ok P w K mg base 1 a_law_draws p_law_draws (spDraws K) := by
  refine T.F_law_draws.ok sc_law_draws (fun vs H Q E h => ?_) (fun cdv A outer s H vs Q E hr h => ?_)
  · obtain ⟨a, xs, rfl, _⟩ := h
    rfl
  · obtain ⟨a, xs, rfl, ha, hl, k⟩ := h
    refine ⟨_, PSs.nox (pss_cons (ps_set (i := 2) sc_law_draws.nd rfl (Or.inl rfl) (pe_callTy (kc_list K) (by rfl) T.z_list bt_list (pa_cons (pv 0) pa_nil)))
    (pss_cons (ps_if (pt_cmpR op_eq (pe_callB (kc_len K) (by rfl) T.z_len bt_len (pa_cons (pv 2) pa_nil)) pe_int (nomark _)) (pss_one (ps_set (i := 2) sc_law_draws.nd rfl (Or.inl rfl) (pe_lst (pa_cons pe_int pa_nil)))) pss_nil)
    (pss_cons (ps_set (i := 3) sc_law_draws.nd rfl (Or.inl rfl) (pe_lst pa_nil))
    (pss_cons (ps_set (i := 4) sc_law_draws.nd rfl (Or.inl rfl) pe_int)
    (pss_cons (ps_for PassesOwn.never rfl (pi_range1 (by rfl) T.z_range (pa_cons (pv 1) pa_nil)) (pg_name (i := 5) sc_law_draws.nd rfl (Or.inl rfl)) (pss_cons (ps_set (i := 6) sc_law_draws.nd rfl (Or.inl rfl) (pe_op op_mod (pv 5) (pe_callB (kc_len K) (by rfl) T.z_len bt_len (pa_cons (pv 2) pa_nil))))
      (pss_cons (ps_set (i := 7) sc_law_draws.nd rfl (Or.inl rfl) (pe_ix (ki_list K) (pv 2) (pv 6) (fun _ _ => rfl)))
      (pss_cons (ps_set (i := 4) sc_law_draws.nd rfl (Or.inl rfl) (pe_op op_mod (pe_callTy (call_int1) (by rfl) T.z_int bt_int (pa_cons (pe_op op_add (pe_op op_add (pe_op op_add (pe_op op_mul (pv 4) pe_int) (pe_op op_mul (pe_op op_mod (pe_callTy (call_int1) (by rfl) T.z_int bt_int (pa_cons (pv 7) pa_nil)) pe_int) pe_int)) (pe_op op_mul (pv 5) pe_int)) pe_int) pa_nil)) pe_int))
      (pss_cons (ps_set (i := 8) sc_law_draws.nd rfl (Or.inl rfl) (pe_op op_mod (pe_callTy (call_int1) (by rfl) T.z_int bt_int (pa_cons (pe_op op_add (pe_op op_add (pe_op op_mul (pv 4) (pv 4)) (pe_op op_mul pe_int (pv 4))) (pv 5)) pa_nil)) pe_int))
      (pss_one (ps_if (pt_cmpR op_ge (pv 7) (pe_op op_pow pe_int pe_int) (nomark _)) (pss_cons (ps_expr (kpe_app K (pv 3) (pe_op op_mod (pe_callTy (call_int1) (by rfl) T.z_int bt_int (pa_cons (pv 7) pa_nil)) pe_int)))
        (pss_one (ps_asg (pe_op op_fdiv (pv 7) pe_int) (pg_sub (pv 2) (pv 6) set_list)))) (pss_one (ps_expr (kpe_app K (pv 3) (pe_op op_mod (pe_callTy (call_int1) (by rfl) T.z_int bt_int (pa_cons (pv 8) pa_nil)) pe_int)))))))))))
    (pss_cons (ps_expr (pe_bm0 PySem.F.plainAttrs_list PySem.F.slot_list_reverse PySem.F.type_list_reverse mt_reverse (pv 3)))
    (pss_one (ps_ret (pv 3))))))))), ?_⟩
    refine g_tail2 (fun σ' H' => ∃ (c : Addr) (ys : List Int), σ' = [some (.ref a), some (.int 500), some (.ref c), none, none, none, none, none, none] ∧ Same H H' ∧ H c = none ∧ H' c = some (.lst (ys.map V.int)) ∧ 1 ≤ ys.length ∧ ys.length ≤ 63) (fun U hU => ?_) (fun σ' H1 hP => ?_)
    · walk_at "go"
      refine ⟨a, _, rfl, .inl ha, fun c hc => ?_⟩
      have s1 := same_new (o := .lst (xs.map V.int)) hc
      have hc1 : upd H c (.lst (xs.map V.int)) c = some (.lst (xs.map V.int)) := upd_same
      generalize upd H c (.lst (xs.map V.int)) = H1 at s1 hc1 ⊢
      walk_at "go"
      refine g_len (.inl (SqL.of hc1)) ?_
      walk_at "go"
      rw [List.length_map, show decide (V.int ((xs.length : Nat) : Int) = V.int 0) = decide (xs.length = 0) from nat_dec _ 0]
      by_cases hz : xs.length = 0
      · rw [decide_eq_true hz]
        refine iteT ?_
        walk_at "go"
        refine g_newL 1 rfl (by decide) fun e he => ?_
        have s2 := s1.new (o := .lst [.int 7]) he
        walk_at "go"
        exact hU _ _ ⟨e, [7], rfl, s2, s1.free he, upd_same, by decide, by decide⟩
      · rw [decide_eq_false hz]
        refine iteF ?_
        walk_at "go"
        exact hU _ _ ⟨c, xs, rfl, s1, hc, hc1, by omega, hl⟩
    · obtain ⟨c, ys, rfl, s1, zc, hc, hy1, hy2⟩ := hP
      walk_at "go"
      refine g_newL 0 rfl (by decide) fun f hf => ?_
      have s2 := s1.new (o := .lst []) hf
      have zf : H f = none := s1.free hf
      have ncf : c ≠ f := ne_of_none hc hf
      have hc2 := (same_new (o := .lst []) hf) _ _ hc
      walk_at "go"
      refine g_rforR (n := 500) (by decide) (fun i σ' H' => ∃ (ys : List Int) (fs : List Int) (mixed : Int) (v5 v6 v7 v8 : Option V), σ' = [some (.ref a), some (.int 500), some (.ref c), some (.ref f), some (.int mixed), v5, v6, v7, v8] ∧ Same H H' ∧ H' c = some (.lst (ys.map V.int)) ∧ 1 ≤ ys.length ∧ ys.length ≤ 63 ∧
          H' f = some (.lst (fs.map V.int)) ∧ (∀ x ∈ fs, 0 ≤ x ∧ x < 1000) ∧ fs.length ≤ i ∧ 0 ≤ mixed ∧ mixed < 2147483647)
        ⟨ys, [], 12345, _, _, _, _, rfl, s2, hc2, hy1, hy2, upd_same, (fun _ h => nomatch h), Nat.le_refl _, by decide, by decide⟩ ?_ ?_
      · rintro i σ' H' hi ⟨ys, fs, mixed, v5, v6, v7, v8, rfl, s3, hc3, y1, y2, hf3, hb, hfl, m1, m2⟩
        walk_at "go"
        refine g_len (.inl (SqL.of hc3)) ?_
        walk_at "go"
        rw [List.length_map]
        refine g_I (show (0 : Int) < (ys.length : Nat) by omega) ?_
        walk_at "go"
        have hj : (((i : Nat) : Int) % (ys.length : Nat)) = ((i % ys.length : Nat) : Int) := by omega
        rw [hj]
        have hjl : i % ys.length < ys.length := Nat.mod_lt _ (by omega)
        generalize i % ys.length = jj at hjl
        refine g_ixL (SqL.of hc3) (at_int hjl) ?_
        walk_at "go"
        generalize hcell : ys.getD jj 0 = cell
        refine g_I (show CMul mixed 48271 from .inr (by decide)) ?_
        walk_at "go"
        refine .inl ⟨_, rfl, ?_⟩
        walk_at "go"
        refine g_I (show (0 : Int) < 1000003 by decide) ?_
        walk_at "go"
        refine g_I (show CMul (cell % 1000003) 69621 from .inr (by decide)) ?_
        walk_at "go"
        refine g_I (show CMul (i : Nat) 7919 from .inr (by decide)) ?_
        walk_at "go"
        refine .inl ⟨_, rfl, ?_⟩
        walk_at "go"
        refine g_I (show (0 : Int) < 2147483647 by decide) ?_
        walk_at "go"
        have n1 := Int.emod_nonneg (mixed * 48271 + cell % 1000003 * 69621 + (i : Nat) * 7919 + 11) (show (2147483647 : Int) ≠ 0 by decide)
        have n2 := Int.emod_lt_of_pos (mixed * 48271 + cell % 1000003 * 69621 + (i : Nat) * 7919 + 11) (show (0 : Int) < 2147483647 by decide)
        generalize (mixed * 48271 + cell % 1000003 * 69621 + (i : Nat) * 7919 + 11) % 2147483647 = mx at n1 n2 ⊢
        refine g_I (show CMul mx mx from .inl (by omega)) ?_
        walk_at "go"
        refine g_I (show CMul 31 mx from .inl (by decide)) ?_
        walk_at "go"
        refine .inl ⟨_, rfl, ?_⟩
        walk_at "go"
        refine g_I (show (0 : Int) < 1000003 by decide) ?_
        walk_at "go"
        generalize (mx * mx + 31 * mx + (i : Nat)) % 1000003 = ag
        refine g_I (show CPow 10 18 from ⟨by decide, by decide, by decide⟩) ?_
        walk_at "go"
        have b1 := fun z : Int => Int.emod_nonneg z (show (1000 : Int) ≠ 0 by decide)
        have b2 := fun z : Int => Int.emod_lt_of_pos z (show (0 : Int) < 1000 by decide)
        refine iteB rfl (fun _ => ?_) (fun _ => ?_)
        · walk_at "go"
          refine g_tyL (SqL.of hf3) ?_
          walk_at "go"
          refine .inl ⟨_, rfl, ?_⟩
          walk_at "go"
          refine g_I (show (0 : Int) < 1000 by decide) ?_
          walk_at "go"
          refine g_app hf3 (lt_line (by rw [List.length_map]; omega)) ?_
          walk_at "go"
          refine g_I (show CDiv cell 1000 from ⟨by decide, by decide⟩) ?_
          walk_at "go"
          refine g_setL (by rw [upd_ne ncf]; exact hc3) (by rw [List.length_map]; exact ixN_of hjl) ?_
          walk_at "go"
          refine ⟨ys.set jj (cell / 1000), fs ++ [cell % 1000], mx, _, _, _, _, rfl, (s3.mut zf).mut zc, by rw [upd_same, List.map_set], by rw [List.length_set]; exact y1, by rw [List.length_set]; exact y2, by rw [upd_ne ncf.symm, upd_same, List.map_append]; rfl, fun z hz => ?_, by rw [List.length_append]; exact Nat.succ_le_succ hfl, n1, n2⟩
          rcases List.mem_append.mp hz with h | h
          · exact hb z h
          · rw [List.mem_singleton.mp h]
            exact ⟨b1 _, b2 _⟩
        · walk_at "go"
          refine g_tyL (SqL.of hf3) ?_
          walk_at "go"
          refine .inl ⟨_, rfl, ?_⟩
          walk_at "go"
          refine g_I (show (0 : Int) < 1000 by decide) ?_
          walk_at "go"
          refine g_app hf3 (lt_line (by rw [List.length_map]; omega)) ?_
          walk_at "go"
          refine ⟨ys, fs ++ [ag % 1000], mx, _, _, _, _, rfl, s3.mut zf, by rw [upd_ne ncf]; exact hc3, y1, y2, by rw [upd_same, List.map_append]; rfl, fun z hz => ?_, by rw [List.length_append]; exact Nat.succ_le_succ hfl, n1, n2⟩
          rcases List.mem_append.mp hz with h | h
          · exact hb z h
          · rw [List.mem_singleton.mp h]
            exact ⟨b1 _, b2 _⟩
      · rintro σ' H' ⟨ys, fs, mixed, v5, v6, v7, v8, rfl, s3, hc3, y1, y2, hf3, hb, hfl, m1, m2⟩
        walk_at "go"
        refine g_tyL (SqL.of hf3) ?_
        walk_at "go"
        refine ⟨f, _, rfl, rfl, hf3, ?_⟩
        walk_at "go"
        exact k f _ fs.reverse zf (s3.mut zf) ⟨by rw [upd_same, List.map_reverse], fun x hx => hb x (List.mem_reverse.mp hx), by rw [List.length_reverse]; omega⟩
def spTake : Sp := fun vs H Q _ => ∃ (d : Addr) (ds : List Int) (n : Int), vs = [.ref d, .int n] ∧ DrA H d ds ∧ 0 < n ∧ ∀ r H' ds', SameX d H H' → DrA H' d ds' → 0 ≤ r → r < n → Q (.int r) H'
-- slots of _law_take: 0:_law_draws_here 1:_law_limit
abbrev n_law_take : List Str := ["_law_draws_here", "_law_limit"]
theorem sc_law_take : FnScope n_law_take p_law_take (defScope s_law_take) := ⟨rfl, rfl, rfl, by decide +kernel, rfl, by decide +kernel, by decide +kernel⟩
theorem ok_law_take (T : Top w K mg) : Ok P w K mg base 1 a_law_take p_law_take spTake := by
  refine T.F_law_take.ok sc_law_take (fun vs H Q E h => ?_) (fun cdv A outer s H vs Q E hr h => ?_)
  · obtain ⟨d, ds, n, rfl, _⟩ := h
    rfl
  · obtain ⟨d, ds, n, rfl, hd, hn, k⟩ := h
    refine ⟨_, PSs.nox (pss_cons (ps_if (pt_cmpR op_eq (pe_callB (kc_len K) (by rfl) T.z_len bt_len (pa_cons (pv 0) pa_nil)) pe_int (nomark _)) (pss_one (ps_ret pe_int)) pss_nil)
    (pss_one (ps_ret (pe_op op_mod (pe_callTy (call_int1) (by rfl) T.z_int bt_int (pa_cons (pe_bm0 PySem.F.plainAttrs_list PySem.F.slot_list_pop PySem.F.type_list_pop mt_pop (pv 0)) pa_nil)) (pv 1))))), ?_⟩
    walk_at "go"
    refine g_len (.inl (SqL.of hd.at_)) ?_
    walk_at "go"
    rw [List.length_map, show decide (V.int ((ds.length : Nat) : Int) = V.int 0) = decide (ds.length = 0) from nat_dec _ 0]
    by_cases hz : ds.length = 0
    · rw [decide_eq_true hz]
      refine iteT ?_
      walk_at "go"
      exact k 0 H ds (Same.x (Same.refl H) d) hd (Int.le_refl _) hn
    · rw [decide_eq_false hz]
      refine iteF ?_
      walk_at "go"
      refine g_tyL (SqL.of hd.at_) ?_
      walk_at "go"
      have hlt : ds.length - 1 < ds.length := by omega
      refine ⟨d, _, _, rfl, rfl, hd.at_, by rw [List.length_map, List.getElem?_map, List.getElem?_eq_getElem hlt]; rfl, ?_⟩
      walk_at "go"
      refine .inl ⟨_, rfl, ?_⟩
      walk_at "go"
      refine g_I (show (0 : Int) < n from hn) ?_
      exact k _ _ ds.dropLast SameX.upd ⟨by rw [upd_same, List.map_dropLast], fun x hx => hd.bd x (List.dropLast_subset _ hx), by rw [List.length_dropLast]; have := hd.len; omega⟩ (Int.emod_nonneg _ (by omega)) (Int.emod_lt_of_pos _ hn)
end
end K22

set_option Elab.async false
set_option linter.all false
set_option maxRecDepth 100000
set_option maxHeartbeats 1000000
namespace K22
open PySem PySem.Spec PyProof.Rows L2
local macro_rules | `(tactic| walk_at "go1") => `(tactic| with_reducible first
  | refine g_seq ?_ | refine g_asg ?_ | refine g_name ?_ | refine g_c ?_ | refine g_op ?_ | refine g_cons ?_ | refine g_nil ?_ | refine g_cb ?_ | refine g_call ?_ | refine g_meth ?_
  | refine g_I0 ?_ | refine g_ret ?_ | refine g_retN ?_ | refine g_drop ?_ | refine g_if ?_ | refine g_test ?_ | refine g_tB ?_ | refine g_bool ?_
  | refine g_not ?_ | refine g_and ?_ | refine g_or ?_ | refine g_yes ?_ | refine g_tup ?_ | refine g_lst ?_ | refine g_slice ?_ | refine g_part ?_ | refine g_nopart ?_ | refine g_int ?_ | refine g_fld ?_ | refine g_dget ?_
  | refine g_din ?_ | refine g_dnotin ?_ | refine g_bm0 ?_ | refine g_bm ?_ | refine g_ifexp ?_ | refine g_andv ?_ | refine g_orv ?_ | refine g_notv ?_ | refine g_chain ?_ | refine g_U ?_ | refine g_next ?_ | refine g_brk ?_ | refine g_cont ?_
  | refine g_sfld ?_ | refine g_sdput ?_ | refine g_gtup ?_ | refine g_gcons ?_ | refine g_gnil ?_ | refine g_gsub ?_ | refine g_forT ?_ | refine g_forL ?_ | refine g_forR ?_ | refine g_lcT ?_ | refine g_lcL ?_ | refine g_lcR ?_ | refine g_un ?_ | refine g_sfa ?_ | refine g_ip ?_ | refine g_nin ?_ | refine g_nnot ?_ | refine g_nget ?_ | refine g_nput ?_ | refine g_ndisp ?_ | refine g_addI ?_ | refine g_subI ?_
  | (show Ends.nx _ _ _; refine g_nxm ?_) | (show Ends.rt _ _ _; refine g_rtm ?_) | (show Ends.bk _ _ _; refine g_bkm ?_) | (show Ends.ct _ _ _; refine g_ctm ?_))
local macro_rules | `(tactic| walk_at "go2") => `(tactic| first
  | ((with_reducible show tVar _ _ _ _); refine g_var rfl ?_)
  | ((with_reducible show rEq _ _ _ _); refine g_eq rfl ?_)
  | ((with_reducible show rNe _ _ _ _); refine g_ne rfl ?_)
  | ((with_reducible show tAug _ _ _ _ _ _); refine g_aug rfl ?_))
local macro_rules | `(tactic| walk_at "go") => `(tactic| repeat (first | walk_at "go1" | walk_at "go2"))
section
variable {P : Program} {w : World} {K : PySem.W.Frag} {mg : Str → Option Value} {base : Heap}
-- slots of _law_inner: 0:_law_statement_here 1:_law_part
abbrev n_law_inner : List Str := ["_law_statement_here", "_law_part"]
theorem sc_law_inner : FnScope n_law_inner p_law_inner (defScope s_law_inner) := ⟨rfl, rfl, rfl, by decide +kernel, rfl, by decide +kernel, by decide +kernel⟩
theorem ok_law_inner (T : Top w K mg) : Ok P w K mg base 1 a_law_inner p_law_inner spPartsIn := by
  refine T.F_law_inner.ok sc_law_inner (fun vs H Q E h => ?_) (fun cdv A outer s H vs Q E hr h => ?_)
  · obtain ⟨a, f, rfl, _⟩ := h
    rfl
  · obtain ⟨a, f, rfl, hf, k⟩ := h
    refine ⟨_, PSs.nox (pss_one (ps_ret (pe_lc (own := [("_law_part", 1)]) (g := gName 1) rfl sc_law_inner.nd (kpi_tup K (pe_slice (ks_tup K) (pv 0) (po_some pe_int) po_none)) (blkOk_by (N := n_law_inner) (sc := (defScope s_law_inner)) (by decide +kernel)) (fun _ _ _ _ _ => (pg_name (i := 1) sc_law_inner.nd rfl (Or.inl rfl))) (fun _ _ _ _ _ => (pts_one (pt_val (pe_callB (kc_isi K) (by rfl) T.z_isinstance bt_isinstance (pa_cons (pv 1) (pa_cons (pe_tyn (by rfl) T.z_tuple bt_tuple) pa_nil)))))) (fun _ _ _ _ _ => (pv 1))))), ?_⟩
    obtain ⟨ys, e, hi⟩ := hf.tup
    walk_at "go"
    refine slice1 e fun p hp => ?_
    have s1 := same_new (o := .tup ys) hp
    refine g_rlcT (SqT.of upd_same) fun D hD => ?_
    have nD : p ≠ D := ne_of_none upd_same hD
    have s2 := s1.new (o := .lst []) hD
    refine ⟨fun i H2 => ∃ as, Same H H2 ∧ H2 p = some (.tup ys) ∧ H2 D = some (.lst (as.map V.ref)) ∧ FAs H2 (itKids (f.its.take i)) as, ⟨[], s2, by rw [upd_ne nD]; exact upd_same, upd_same, .nil⟩, fun i H2 _ ⟨_, _, z, _⟩ => SqT.of z, ?_, ?_⟩
    · rintro i y H2 hy ⟨as, s3, hp3, hD3, hk⟩
      obtain ⟨it, hit, hv⟩ := Pd.get (Its.mono s3 hi) hy
      refine g_turn rfl ?_
      walk_at "go"
      refine isi_item hv ?_
      walk_at "go"
      cases it with
      | n z =>
        refine iteF ⟨as, s3, hp3, hD3, ?_⟩
        rw [take_snoc hit, itKids_snoc_n]
        exact hk
      | f g =>
        obtain ⟨u, rfl, hu⟩ := hv
        refine iteT ?_
        walk_at "go"
        have z := Paired.length hk
        have z1 := itKids_len (f.its.take i)
        have z2 := its_len f
        have z3 := List.length_take_le' i f.its
        refine g_add hD3 (lt_line (by rw [List.length_map]; omega)) ⟨as ++ [u], s3.mut (s1.free hD), by rw [upd_ne nD]; exact hp3, by rw [upd_same]; simp, ?_⟩
        rw [take_snoc hit, itKids_snoc]
        exact FAs.monoT (SameT.lst hD3) (Pd.snoc hu hk)
    · rintro H2 ⟨as, s3, hp3, hD3, hk⟩
      rw [List.take_of_length_le (by rw [Paired.length hi]; exact Nat.le_refl _), itKids_its] at hk
      exact k D as H2 (s1.free hD) s3 hD3 hk
theorem size_kids : ∀ f : F, f.size = 1 + (f.kids.map F.size).sum
  | .bin _ f g => by
    show f.size + g.size + 1 = 1 + (f.size + (g.size + 0))
    omega
  | .mod _ _ f => by
    show f.size + 1 = 1 + (f.size + 0)
    omega
  | .fix _ _ f => by
    show f.size + 1 = 1 + (f.size + 0)
    omega
  | .const _ => rfl
  | .fact _ _ => rfl
  | .var _ => rfl
def spSize (n : Nat) : Sp := fun vs H Q _ => ∃ (a : Addr) (f : F), vs = [.ref a] ∧ FA H f a ∧ f.ht < n ∧ ∀ H', Same H H' → Q (.int (f.size : Nat)) H'
-- slots of _law_size: 0:_law_statement_here 1:_law_part
abbrev n_law_size : List Str := ["_law_statement_here", "_law_part"]
theorem sc_law_size : FnScope n_law_size p_law_size (defScope s_law_size) := ⟨rfl, rfl, rfl, by decide +kernel, rfl, by decide +kernel, by decide +kernel⟩
theorem ok_law_size (T : Top w K mg) (n : Nat) : Ok P w K mg base (n + 1) a_law_size p_law_size (spSize n) := by
  induction n with
  | zero => exact ok_none fun vs H Q E ⟨_, _, _, _, h, _⟩ => absurd h (Nat.not_lt_zero _)
  | succ n G_law_size =>
    have G_law_inner := ok_law_inner (P := P) (base := base) T
    refine T.F_law_size.ok sc_law_size (fun vs H Q E h => ?_) (fun cdv A outer s H vs Q E hr h => ?_)
    · obtain ⟨a, f, rfl, _⟩ := h
      rfl
    · obtain ⟨a, f, rfl, hf, hn, k⟩ := h
      refine ⟨_, PSs.nox (pss_one (ps_ret (pe_op op_add pe_int (pe_callB (kc_sum K) (by rfl) T.z_sum bt_sum (pa_cons (pe_lc (own := [("_law_part", 1)]) (g := gName 1) (tt := tYes) rfl sc_law_size.nd (kpi_list K (pe_call G_law_inner (hr.mono (by omega)) rfl T.g_law_inner T.F_law_inner.kp T.b_law_inner .nil pass0 (pa_cons (pv 0) pa_nil))) (blkOk_by (N := n_law_size) (sc := (defScope s_law_size)) (by decide +kernel)) (fun _ _ _ _ _ => (pg_name (i := 1) sc_law_size.nd rfl (Or.inl rfl))) (fun _ _ _ _ _ => pts_nil) (fun _ _ _ _ _ => (pe_call G_law_size (hr.mono (by omega)) rfl T.g_law_size T.F_law_size.kp T.b_law_size .nil pass0 (pa_cons (pv 1) pa_nil)))) pa_nil))))), ?_⟩
      walk_at "go"
      refine ⟨a, f, rfl, hf, fun p as H1 hp s1 hp1 hk1 => ?_⟩
      refine g_rlcL (SqL.of hp1) fun E hE => ⟨fun i H' => Same H1 H' ∧ H' E = some (.lst (((f.kids.take i).map fun g => ((g.size : Nat) : Int)).map V.int)), ⟨same_new hE, upd_same⟩, fun i H' hi ⟨s0, _⟩ => SqL.of (s0 _ _ hp1), fun i y H' hy ⟨s0, hE0⟩ => ?_, fun H2 ⟨s2, hE2⟩ => ?_⟩
      · rw [List.getElem?_map] at hy
        obtain ⟨u, hu, rfl⟩ := Option.map_eq_some_iff.mp hy
        obtain ⟨g, hg, hgu⟩ := Pd.get hk1 hu
        have := kids_ht (List.mem_of_getElem? hg)
        have kl := kids_len f
        refine g_turn rfl ?_
        walk_at "go"
        refine iteT ?_
        walk_at "go"
        refine ⟨u, g, rfl, hgu.mono s0, by omega, fun H3 s3 => ?_⟩
        walk_at "go"
        refine g_add (s3 _ _ hE0) (lt_line (by rw [List.length_map, List.length_map, List.length_take]; omega)) ⟨(s0.trans s3).mut hE, ?_⟩
        rw [upd_same, take_snoc hg, List.map_append, List.map_append]
        rfl
      · rw [List.take_of_length_le (by rw [List.length_map, Paired.length hk1]; exact Nat.le_refl _)] at hE2
        walk_at "go"
        refine ⟨E, _, rfl, SqL.of hE2, ?_⟩
        walk_at "go"
        have es : (1 : Int) + (f.kids.map fun g => ((g.size : Nat) : Int)).sum = (f.size : Nat) := by
          rw [size_kids f]
          have : ∀ l : List F, (l.map fun g => ((g.size : Nat) : Int)).sum = (((l.map F.size).sum : Nat) : Int) := fun l => by
            induction l with
            | nil => rfl
            | cons g l ih => simp only [List.map_cons, List.sum_cons, ih]; omega
          rw [this]
          omega
        rw [es]
        exact k H2 (s1.trans s2)
/-! ### guarded, as the law has it -/
/-- [part for part in inner(f) if p(part)] as far as it is made -/
def spOpenIn (n : Nat) : Sp := fun vs H Q _ => ∃ (a : Addr) (f : F) (x : Int), vs = [.ref a, .int x] ∧ FA H f a ∧ f.ht < n ∧ ∀ H', Same H H' → Q (.bl (f.opn x)) H'
-- slots of _law_open_inside: 0:_law_statement_here 1:_law_variable* 2:_law_part
abbrev n_law_open_inside : List Str := ["_law_statement_here", "_law_variable", "_law_part"]
theorem sc_law_open_inside : FnScope n_law_open_inside p_law_open_inside (defScope s_law_open_inside) := ⟨rfl, rfl, rfl, by decide +kernel, rfl, by decide +kernel, by decide +kernel⟩
theorem ok_law_open_inside (T : Top w K mg) (n : Nat) : Ok P w K mg base (n + 1) a_law_open_inside p_law_open_inside (spOpenIn n) := by
  induction n with
  | zero => exact ok_none fun vs H Q E ⟨_, _, _, _, _, h, _⟩ => absurd h (Nat.not_lt_zero _)
  | succ n G_law_open_inside =>
    have G_law_inner := ok_law_inner (P := P) (base := base) T
    refine T.F_law_open_inside.ok sc_law_open_inside (fun vs H Q E h => ?_) (fun cdv A outer s H vs Q E hr h => ?_)
    · obtain ⟨a, f, x, rfl, _⟩ := h
      rfl
    · obtain ⟨a, f, x, rfl, hf, hn, k⟩ := h
      refine ⟨_, PSs.nox (pss_cons (ps_if (pt_cmpR op_eq (pe_ix (ki_tup K) (pv 0) pe_int (fun _ _ => rfl)) pe_str (nomark _)) (pss_one (ps_ret (pe_cmpR op_eq (pe_ix (ki_tup K) (pv 0) pe_int (fun _ _ => rfl)) (pv 1) (nomark _)))) pss_nil)
    (pss_cons (ps_if (PW.pt (pw_or (pt_cmpR (ko_in K) (pe_ix (ki_tup K) (pv 0) pe_int (fun _ _ => rfl)) (pe_tup (pa_cons pe_str (pa_cons pe_str pa_nil))) (by rfl)) (pw_or1 (PW.pt (pw_and (pt_cmpR (ko_in K) (pe_ix (ki_tup K) (pv 0) pe_int (fun _ _ => rfl)) (pe_tup (pa_cons pe_str (pa_cons pe_str pa_nil))) (by rfl)) (pw_and1 (pt_cmpR op_eq (pe_ix (ki_tup K) (pv 0) pe_int (fun _ _ => rfl)) (pv 1) (nomark _)))))))) (pss_one (ps_ret pe_bl)) pss_nil)
    (pss_one (ps_ret (pe_cmpR op_gt (pe_callB (kc_len K) (by rfl) T.z_len bt_len (pa_cons (pe_lc (own := [("_law_part", 2)]) (g := gName 2) rfl sc_law_open_inside.nd (kpi_list K (pe_call G_law_inner (hr.mono (by omega)) rfl T.g_law_inner T.F_law_inner.kp T.b_law_inner .nil pass0 (pa_cons (pv 0) pa_nil))) (blkOk_by (N := n_law_open_inside) (sc := (defScope s_law_open_inside)) (by decide +kernel)) (fun _ _ _ _ _ => (pg_name (i := 2) sc_law_open_inside.nd rfl (Or.inl rfl))) (fun _ _ _ _ _ => (pts_one (pt_val (pe_call G_law_open_inside (hr.mono (by omega)) rfl T.g_law_open_inside T.F_law_open_inside.kp T.b_law_open_inside .nil pass0 (pa_cons (pv 2) (pa_cons (pv 1) pa_nil)))))) (fun _ _ _ _ _ => (pv 2))) pa_nil)) pe_int (nomark _)))))), ?_⟩
      obtain ⟨ys, e, hi⟩ := hf.tup
      walk_at "go"
      refine g_ixT (SqT.of e) at0 ?_
      walk_at "go"
      refine iteB (k_var f) (fun hv => ?_) (fun hv => ?_)
      · obtain ⟨y, rfl⟩ := var_ex hv
        have e : H a = some (.tup [.str "var", .int y]) := hf
        walk_at "go"
        refine g_ixT (SqT.of e) at1 ?_
        walk_at "go"
        rw [int_dec]
        exact k H (Same.refl H)
      · have main : ∀ H0, Same H H0 → f.stp x = false → tRet (tOp (rI0 fun i j => V.bl (decide (i > j))) (tCB (rLenS K) (tCons (tLc (iList K (tCall spPartsIn [] E0 (tCons (tVar 0) tNil))) (gName 2) (tTest (tCall (spOpenIn n) [] E0 (tCons (tVar 2) (tCons (tVar 1) tNil)))) (tVar 2) [2]) tNil)) (tC (V.int 0)))
            { nx := fun x H' => Q V.non H', rt := Q } [some (.ref a), some (.int x), none] H0 := by
          intro H0 s0 hs
          have hk := opn_kids hs hv
          walk_at "go"
          refine ⟨a, f, rfl, hf.mono s0, fun p as H1 hp s1 hp1 hk1 => ?_⟩
          have kl := kids_len f
          refine g_rlcL (SqL.of hp1) fun E hE => ⟨fun i H' => ∃ bs : List Addr, Same H1 H' ∧ H' E = some (.lst (bs.map V.ref)) ∧ bs.length ≤ i ∧ (bs.length = 0 ↔ (f.kids.take i).any (fun g => g.opn x) = false), ⟨[], same_new hE, upd_same, Nat.le_refl _, by simp⟩, fun i H' hi ⟨_, s0, _⟩ => SqL.of (s0 _ _ hp1), fun i y H' hy ⟨bs, s2, hE0, hb, hz⟩ => ?_, fun H2 ⟨bs, s2, hE2, hb, hz⟩ => ?_⟩
          · rw [List.getElem?_map] at hy
            obtain ⟨u, hu, rfl⟩ := Option.map_eq_some_iff.mp hy
            obtain ⟨g, hg, hgu⟩ := Pd.get hk1 hu
            have := kids_ht (List.mem_of_getElem? hg)
            have hil := (List.getElem?_eq_some_iff.mp hg).1
            refine g_turn rfl ?_
            walk_at "go"
            refine ⟨u, g, x, rfl, hgu.mono s2, by omega, fun H3 s3 => ?_⟩
            walk_at "go"
            refine iteB rfl (fun ho => ?_) (fun ho => ?_)
            · walk_at "go"
              refine g_add (s3 _ _ hE0) (lt_line (by rw [List.length_map]; omega)) ⟨bs ++ [u], (s2.trans s3).mut hE, by rw [upd_same, List.map_append]; rfl, by rw [List.length_append]; exact Nat.succ_le_succ hb, ?_⟩
              rw [any_take hg, ho, List.length_append]
              simp
            · refine ⟨bs, s2.trans s3, s3 _ _ hE0, by omega, ?_⟩
              rw [any_take hg, ho, Bool.or_false]
              exact hz
          · rw [List.take_of_length_le (by rw [List.length_map, Paired.length hk1]; exact Nat.le_refl _)] at hz
            walk_at "go"
            refine g_len (.inl (SqL.of hE2)) ?_
            walk_at "go"
            rw [List.length_map]
            have q := k H2 (s0.trans (s1.trans s2))
            have e2 : decide (((bs.length : Nat) : Int) > 0) = f.opn x := by
              rw [hk]
              cases h : f.kids.any fun g => g.opn x with
              | false =>
                have := hz.mpr h
                exact decide_eq_false (by omega)
              | true =>
                refine decide_eq_true ?_
                have : bs.length ≠ 0 := fun z => by
                  rw [hz.mp z] at h
                  cases h
                omega
            rw [e2]
            exact q
        walk_at "go"
        refine g_ixT (SqT.of e) at0 ?_
        walk_at "go"
        refine g_newT 2 rfl (by decide) fun q1 hq1 => ?_
        have s1 := same_new (o := .tup [.str "some", .str "all"]) hq1
        refine g_inT (SqT.of upd_same) rfl rfl ?_
        generalize upd H q1 (.tup [.str "some", .str "all"]) = H1 at s1 ⊢
        walk_at "go"
        rw [k_mod f]
        cases hm : f.isMod with
        | true =>
          refine iteT ?_
          refine iteT ?_
          walk_at "go"
          have q := k H1 s1
          rw [opn_stp (x := x) (by unfold F.stp; rw [hm]; rfl)] at q
          exact q
        | false =>
          refine iteF ?_
          walk_at "go"
          refine g_ixT (SqT.of (s1 _ _ e)) at0 ?_
          walk_at "go"
          refine g_newT 2 rfl (by decide) fun q2 hq2 => ?_
          have s2 := s1.trans (same_new (o := .tup [.str "least", .str "most"]) hq2)
          refine g_inT (SqT.of upd_same) rfl rfl ?_
          generalize upd H1 q2 (.tup [.str "least", .str "most"]) = H2 at s2 ⊢
          walk_at "go"
          rw [k_fix f]
          cases hx : f.isFix with
          | true =>
            obtain ⟨b, y, g, rfl⟩ := fix_ex hx
            obtain ⟨u, e', hg⟩ := id hf
            refine iteT ?_
            walk_at "go"
            refine g_ixT (SqT.of (s2 _ _ e')) at1 ?_
            walk_at "go"
            rw [int_dec]
            by_cases hy : y = x
            · rw [decide_eq_true hy]
              refine iteT ?_
              walk_at "go"
              have q := k H2 s2
              rw [opn_stp (by simp [F.stp, hy])] at q
              exact q
            · rw [decide_eq_false hy]
              refine iteF ?_
              exact main H2 s2 (by simp [F.stp, F.isMod, hy])
          | false =>
            refine iteF ?_
            refine iteF ?_
            exact main H2 s2 (by
              unfold F.stp
              rw [hm]
              cases f <;> first | (cases hx; done) | rfl)
def spLGuard (n : Nat) : Sp := fun vs H Q _ => ∃ (a : Addr) (f : F), vs = [.ref a] ∧ FA H f a ∧ f.ht < n ∧ f.ht < 12 ∧ ∀ H', Same H H' → Q (.bl f.gd) H'
-- slots of _law_is_guarded: 0:_law_statement_here 1:_law_part
abbrev n_law_is_guarded : List Str := ["_law_statement_here", "_law_part"]
theorem sc_law_is_guarded : FnScope n_law_is_guarded p_law_is_guarded (defScope s_law_is_guarded) := ⟨rfl, rfl, rfl, by decide +kernel, rfl, by decide +kernel, by decide +kernel⟩
theorem ok_law_is_guarded (T : Top w K mg) (n : Nat) : Ok P w K mg base (n + 14) a_law_is_guarded p_law_is_guarded (spLGuard n) := by
  induction n with
  | zero => exact ok_none fun vs H Q E ⟨_, _, _, _, h, _⟩ => absurd h (Nat.not_lt_zero _)
  | succ n G_law_is_guarded =>
    have G_law_inner := ok_law_inner (P := P) (base := base) T
    have G_law_open_inside := ok_law_open_inside (P := P) (base := base) T 12
    refine T.F_law_is_guarded.ok sc_law_is_guarded (fun vs H Q E h => ?_) (fun cdv A outer s H vs Q E hr h => ?_)
    · obtain ⟨a, f, rfl, _⟩ := h
      rfl
    · obtain ⟨a, f, rfl, hf, hn, hn2, k⟩ := h
      refine ⟨_, PSs.nox (pss_cons (ps_if (PW.pt (pw_and (pt_cmpR (ko_in K) (pe_ix (ki_tup K) (pv 0) pe_int (fun _ _ => rfl)) (pe_tup (pa_cons pe_str (pa_cons pe_str pa_nil))) (by rfl)) (pw_and1 (pt_val (pe_call G_law_open_inside (hr.mono (by omega)) rfl T.g_law_open_inside T.F_law_open_inside.kp T.b_law_open_inside .nil pass0 (pa_cons (pe_ix (ki_tup K) (pv 0) pe_int (fun _ _ => rfl)) (pa_cons (pe_ix (ki_tup K) (pv 0) pe_int (fun _ _ => rfl)) pa_nil))))))) (pss_one (ps_ret pe_bl)) pss_nil)
    (pss_one (ps_ret (pe_cmpR op_eq (pe_callB (kc_len K) (by rfl) T.z_len bt_len (pa_cons (pe_lc (own := [("_law_part", 1)]) (g := gName 1) rfl sc_law_is_guarded.nd (kpi_list K (pe_call G_law_inner (hr.mono (by omega)) rfl T.g_law_inner T.F_law_inner.kp T.b_law_inner .nil pass0 (pa_cons (pv 0) pa_nil))) (blkOk_by (N := n_law_is_guarded) (sc := (defScope s_law_is_guarded)) (by decide +kernel)) (fun _ _ _ _ _ => (pg_name (i := 1) sc_law_is_guarded.nd rfl (Or.inl rfl))) (fun _ _ _ _ _ => (pts_one (pt_not (pt_val (pe_call G_law_is_guarded (hr.mono (by omega)) rfl T.g_law_is_guarded T.F_law_is_guarded.kp T.b_law_is_guarded .nil pass0 (pa_cons (pv 1) pa_nil)))))) (fun _ _ _ _ _ => (pv 1))) pa_nil)) pe_int (nomark _))))), ?_⟩
      obtain ⟨ys, e, hi⟩ := hf.tup
      have kl := kids_len f
      have comp : ∀ H0 (Q' : VK), Same H H0 → (∀ (E : Addr) (bs : List Addr) H', Same H H' → H' E = some (.lst (bs.map V.ref)) → (bs.length = 0 ↔ f.kids.all F.gd = true) → Q' (.ref E) H') →
          tLc (iList K (tCall spPartsIn [] E0 (tCons (tVar 0) tNil))) (gName 1) (tNot (tB (tCall (spLGuard n) [] E0 (tCons (tVar 1) tNil)))) (tVar 1) [1] [some (.ref a), none] H0 Q' := by
        intro H0 Q' s0 k'
        walk_at "go"
        refine ⟨a, f, rfl, hf.mono s0, fun p as H1 hp s1 hp1 hk1 => ?_⟩
        refine g_rlcL (SqL.of hp1) fun E hE => ⟨fun i H' => ∃ bs : List Addr, Same H1 H' ∧ H' E = some (.lst (bs.map V.ref)) ∧ bs.length ≤ i ∧ (bs.length = 0 ↔ (f.kids.take i).all F.gd = true), ⟨[], same_new hE, upd_same, Nat.le_refl _, by simp⟩, fun i H' hi ⟨_, s0, _⟩ => SqL.of (s0 _ _ hp1), fun i y H' hy ⟨bs, s2, hE0, hb, hz⟩ => ?_, fun H2 ⟨bs, s2, hE2, hb, hz⟩ => ?_⟩
        · rw [List.getElem?_map] at hy
          obtain ⟨u, hu, rfl⟩ := Option.map_eq_some_iff.mp hy
          obtain ⟨g, hg, hgu⟩ := Pd.get hk1 hu
          have := kids_ht (List.mem_of_getElem? hg)
          have hil := (List.getElem?_eq_some_iff.mp hg).1
          refine g_turn rfl ?_
          walk_at "go"
          refine ⟨u, g, rfl, hgu.mono s2, by omega, by omega, fun H3 s3 => ?_⟩
          walk_at "go"
          cases ho : g.gd with
          | false =>
            refine iteT ?_
            walk_at "go"
            refine g_add (s3 _ _ hE0) (lt_line (by rw [List.length_map]; omega)) ⟨bs ++ [u], (s2.trans s3).mut hE, by rw [upd_same, List.map_append]; rfl, by rw [List.length_append]; exact Nat.succ_le_succ hb, ?_⟩
            rw [all_take hg, ho, List.length_append]
            simp
          | true =>
            refine iteF ⟨bs, s2.trans s3, s3 _ _ hE0, by omega, ?_⟩
            rw [all_take hg, ho, Bool.and_true]
            exact hz
        · rw [List.take_of_length_le (by rw [List.length_map, Paired.length hk1]; exact Nat.le_refl _)] at hz
          exact k' E bs H2 (s0.trans (s1.trans s2)) hE2 hz
      have fin : ∀ (bs : List Addr) H', Same H H' → f.gh = true → (bs.length = 0 ↔ f.kids.all F.gd = true) → Q (.bl (decide (V.int ((bs.length : Nat) : Int) = V.int 0))) H' := fun bs H' s' hm hz => by
        have q := k H' s'
        rw [gd_kids, hm, Bool.true_and] at q
        rw [show decide (V.int ((bs.length : Nat) : Int) = V.int 0) = f.kids.all F.gd from by
          rw [show decide (V.int ((bs.length : Nat) : Int) = V.int 0) = decide (bs.length = 0) from nat_dec _ 0]
          exact Bool.eq_iff_iff.mpr (by rw [decide_eq_true_iff]; exact hz)]
        exact q
      walk_at "go"
      refine g_ixT (SqT.of e) at0 ?_
      walk_at "go"
      refine g_newT 2 rfl (by decide) fun q2 hq2 => ?_
      have s2 := same_new (o := .tup [.str "least", .str "most"]) hq2
      refine g_inT (SqT.of upd_same) rfl rfl ?_
      generalize upd H q2 (.tup [.str "least", .str "most"]) = H2 at s2 ⊢
      walk_at "go"
      rw [k_fix f]
      cases hx : f.isFix with
      | true =>
        obtain ⟨b, y, g, rfl⟩ := fix_ex hx
        obtain ⟨u, e', hg⟩ := id hf
        have hn' : g.ht + 1 < 12 := hn2
        refine iteT ?_
        walk_at "go"
        refine g_ixT (SqT.of (s2 _ _ e')) at2 ?_
        walk_at "go"
        refine g_ixT (SqT.of (s2 _ _ e')) at1 ?_
        walk_at "go"
        refine ⟨u, g, y, rfl, hg.mono s2, by omega, fun H3 s3 => ?_⟩
        have s23 := s2.trans s3
        walk_at "go"
        cases ho : g.opn y with
        | true =>
          refine iteT ?_
          walk_at "go"
          have q := k H3 s23
          have : (F.fix b y g).gd = false := by simp [F.gd, ho]
          rw [this] at q
          exact q
        | false =>
          refine iteF ?_
          refine g_next ?_
          refine g_nxm (g_ret (g_op (g_cb (g_cons ?_))))
          refine comp H3 _ s23 fun E bs H4 s4 hE hz => ?_
          walk_at "go"
          refine g_len (.inl (SqL.of hE)) ?_
          walk_at "go"
          rw [List.length_map]
          exact fin bs H4 s4 (by show (!g.opn y) = true; rw [ho]; rfl) hz
      | false =>
        refine iteF ?_
        refine iteF ?_
        refine g_next ?_
        refine g_nxm (g_ret (g_op (g_cb (g_cons ?_))))
        refine comp H2 _ s2 fun E bs H4 s4 hE hz => ?_
        walk_at "go"
        refine g_len (.inl (SqL.of hE)) ?_
        walk_at "go"
        rw [List.length_map]
        exact fin bs H4 s4 (by cases f <;> first | (cases hx; done) | rfl) hz
end
end K22

set_option Elab.async false
set_option linter.all false
set_option maxRecDepth 100000
set_option maxHeartbeats 400000
namespace K22
open PySem PySem.Spec PyProof.Rows L2
/-! ### statements as data -/
def F.dat : F → PyData
  | .const b => .tuple [.str (kC b)]
  | .fact b p => .tuple [.str (kP b), .int p]
  | .var x => .tuple [.str "var", .int x]
  | .bin b f g => .tuple [.str (kB b), f.dat, g.dat]
  | .mod b l f => .tuple [.str (kM b), .int l, f.dat]
  | .fix b x f => .tuple [.str (kX b), .int x, f.dat]
theorem FA.dp {K : PySem.W.Frag} {H : Hp} : ∀ {f : F} {a : Addr}, FA H f a → Dp K H (.ref a) f.dat
  | .const b, a, h => .tup (SqT.of h) (.cons (.str _) .nil)
  | .fact b p, a, h => .tup (SqT.of h) (.cons (.str _) (.cons (.int _) .nil))
  | .var x, a, h => .tup (SqT.of h) (.cons (.str _) (.cons (.int _) .nil))
  | .bin b f g, a, ⟨u, w, e, h1, h2⟩ => .tup (SqT.of e) (.cons (.str _) (.cons (FA.dp h1) (.cons (FA.dp h2) .nil)))
  | .mod b l f, a, ⟨u, e, h⟩ => .tup (SqT.of e) (.cons (.str _) (.cons (.int _) (.cons (FA.dp h) .nil)))
  | .fix b x f, a, ⟨u, e, h⟩ => .tup (SqT.of e) (.cons (.str _) (.cons (.int _) (.cons (FA.dp h) .nil)))
theorem qC : ∀ b c : Bool, (kC b == kC c) = (b == c) := by decide +kernel
theorem qP : ∀ b c : Bool, (kP b == kP c) = (b == c) := by decide +kernel
theorem qB : ∀ b c : Bool, (kB b == kB c) = (b == c) := by decide +kernel
theorem qM : ∀ b c : Bool, (kM b == kM c) = (b == c) := by decide +kernel
theorem qX : ∀ b c : Bool, (kX b == kX c) = (b == c) := by decide +kernel
theorem qPV : ∀ b : Bool, (kP b == ("var" : Str)) = false := by decide +kernel
theorem qVP : ∀ b : Bool, (("var" : Str) == kP b) = false := by decide +kernel
theorem qMX : ∀ b c : Bool, (kM b == kX c) = false := by decide +kernel
theorem qXM : ∀ b c : Bool, (kX b == kM c) = false := by decide +kernel
theorem qID (i : Int) (f : F) : PyData.eqv (.int i) f.dat = false := by cases f <;> simp [F.dat, PyData.eqv]
theorem qDI (i : Int) (f : F) : PyData.eqv f.dat (.int i) = false := by cases f <;> simp [F.dat, PyData.eqv]
theorem qT (xs ys : List PyData) : PyData.eqv (.tuple xs) (.tuple ys) = PyData.eqvAll xs ys := by simp only [PyData.eqv]
theorem qS (x y : Str) : PyData.eqv (.str x) (.str y) = (x == y) := by simp only [PyData.eqv]
theorem qI (i j : Int) : PyData.eqv (.int i) (.int j) = decide (i = j) := by simp only [PyData.eqv]; exact Bool.beq_eq_decide_eq i j
theorem qA (x y : PyData) (xs ys : List PyData) : PyData.eqvAll (x :: xs) (y :: ys) = (PyData.eqv x y && PyData.eqvAll xs ys) := by simp only [PyData.eqvAll]
theorem qN : PyData.eqvAll [] [] = true := by simp only [PyData.eqvAll]
theorem qL (x : PyData) (xs : List PyData) : PyData.eqvAll (x :: xs) [] = false := by simp only [PyData.eqvAll]
theorem qR (x : PyData) (xs : List PyData) : PyData.eqvAll [] (x :: xs) = false := by simp only [PyData.eqvAll]
theorem qb (b c : Bool) : (b == c) = decide (b = c) := Bool.beq_eq_decide_eq b c
theorem dat_eqv : ∀ f g : F, PyData.eqv f.dat g.dat = decide (f = g) := by
  intro f
  induction f with
  | const b => intro g; cases g <;> simp only [F.dat, qT, qA, qS, qI, qN, qL, qR, qC, qb] <;> simp
  | fact b p => intro g; cases g <;> simp only [F.dat, qT, qA, qS, qI, qN, qL, qR, qP, qPV, qID, qb] <;> simp
  | var x => intro g; cases g <;> simp only [F.dat, qT, qA, qS, qI, qN, qL, qR, qVP, qID] <;> simp
  | bin b f1 f2 ih1 ih2 => intro g; cases g <;> simp only [F.dat, qT, qA, qS, qI, qN, qL, qR, qB, qDI, ih1, ih2, qb] <;> simp
  | mod b l f ih => intro g; cases g <;> simp only [F.dat, qT, qA, qS, qI, qN, qL, qR, qM, qMX, qID, ih, qb] <;> simp
  | fix b x f ih => intro g; cases g <;> simp only [F.dat, qT, qA, qS, qI, qN, qL, qR, qX, qXM, qID, ih, qb] <;> simp
theorem okC : ∀ b : Bool, PyData.strOk (kC b) = true := by decide +kernel
theorem okP : ∀ b : Bool, PyData.strOk (kP b) = true := by decide +kernel
theorem okB : ∀ b : Bool, PyData.strOk (kB b) = true := by decide +kernel
theorem okM : ∀ b : Bool, PyData.strOk (kM b) = true := by decide +kernel
theorem okX : ∀ b : Bool, PyData.strOk (kX b) = true := by decide +kernel
theorem okV : PyData.strOk ("var" : Str) = true := by decide +kernel
theorem dat_lay : ∀ f : F, f.dat.canLay0 = true := by
  intro f
  induction f <;> simp_all [F.dat, PyData.canLay0, PyData.canLayAll0, okC, okP, okB, okM, okX, okV]
theorem dat_depth : ∀ f : F, f.dat.depth ≤ f.ht + 2 := by
  intro f
  induction f <;> simp_all [F.dat, PyData.depth, PyData.depthAll, F.ht] <;> omega
theorem dat_shaped {f : F} (h : f.ht ≤ 12) : SeqAt.shaped f.dat = true := by
  unfold SeqAt.shaped
  rw [dat_lay f, decide_eq_true (show f.dat.depth ≤ 64 by have := dat_depth f; omega)]
  rfl
end K22

set_option Elab.async false
set_option linter.all false
set_option maxRecDepth 100000
set_option maxHeartbeats 1000000
namespace K22
open PySem PySem.Spec PyProof.Rows L2
local macro_rules | `(tactic| walk_at "go1") => `(tactic| with_reducible first
  | refine g_seq ?_ | refine g_asg ?_ | refine g_name ?_ | refine g_c ?_ | refine g_op ?_ | refine g_cons ?_ | refine g_nil ?_ | refine g_cb ?_ | refine g_call ?_ | refine g_meth ?_
  | refine g_I0 ?_ | refine g_ret ?_ | refine g_retN ?_ | refine g_drop ?_ | refine g_if ?_ | refine g_test ?_ | refine g_tB ?_ | refine g_bool ?_
  | refine g_not ?_ | refine g_and ?_ | refine g_or ?_ | refine g_yes ?_ | refine g_tup ?_ | refine g_lst ?_ | refine g_slice ?_ | refine g_part ?_ | refine g_nopart ?_ | refine g_int ?_ | refine g_fld ?_ | refine g_dget ?_
  | refine g_din ?_ | refine g_dnotin ?_ | refine g_bm0 ?_ | refine g_bm ?_ | refine g_ifexp ?_ | refine g_andv ?_ | refine g_orv ?_ | refine g_notv ?_ | refine g_chain ?_ | refine g_U ?_ | refine g_next ?_ | refine g_brk ?_ | refine g_cont ?_
  | refine g_sfld ?_ | refine g_sdput ?_ | refine g_gtup ?_ | refine g_gcons ?_ | refine g_gnil ?_ | refine g_gsub ?_ | refine g_forT ?_ | refine g_forL ?_ | refine g_forR ?_ | refine g_lcT ?_ | refine g_lcL ?_ | refine g_lcR ?_ | refine g_un ?_ | refine g_sfa ?_ | refine g_ip ?_ | refine g_nin ?_ | refine g_nnot ?_ | refine g_nget ?_ | refine g_nput ?_ | refine g_ndisp ?_ | refine g_addI ?_ | refine g_subI ?_
  | (show Ends.nx _ _ _; refine g_nxm ?_) | (show Ends.rt _ _ _; refine g_rtm ?_) | (show Ends.bk _ _ _; refine g_bkm ?_) | (show Ends.ct _ _ _; refine g_ctm ?_))
local macro_rules | `(tactic| walk_at "go2") => `(tactic| first
  | ((with_reducible show tVar _ _ _ _); refine g_var rfl ?_)
  | ((with_reducible show rEq _ _ _ _); refine g_eq rfl ?_)
  | ((with_reducible show rNe _ _ _ _); refine g_ne rfl ?_)
  | ((with_reducible show tAug _ _ _ _ _ _); refine g_aug rfl ?_))
local macro_rules | `(tactic| walk_at "go") => `(tactic| repeat (first | walk_at "go1" | walk_at "go2"))
section
variable {P : Program} {w : World} {K : PySem.W.Frag} {mg : Str → Option Value} {base : Heap}
/-! ### put, tidy, closure, as the law has them -/
def spPut (n : Nat) : Sp := fun vs H Q _ => ∃ (a b : Addr) (f t : F) (x : Int), vs = [.ref a, .int x, .ref b] ∧ FA H f a ∧ FA H t b ∧ f.ht < n ∧ f.ht ≤ 12 ∧ ∀ p H', Same H H' → FA H' (f.sub x t) p → Q (.ref p) H'
-- slots of _law_put: 0:_law_statement_here 1:_law_variable* 2:_law_other* 3:_law_part
abbrev n_law_put : List Str := ["_law_statement_here", "_law_variable", "_law_other", "_law_part"]
theorem sc_law_put : FnScope n_law_put p_law_put (defScope s_law_put) := ⟨rfl, rfl, rfl, by decide +kernel, rfl, by decide +kernel, by decide +kernel⟩
theorem ok_law_put (T : Top w K mg) (n : Nat) : Ok P w K mg base n a_law_put p_law_put (spPut n) := by
  induction n with
  | zero => exact ok_none fun vs H Q E ⟨_, _, _, _, _, _, _, _, h, _⟩ => absurd h (Nat.not_lt_zero _)
  | succ n G_law_put =>
    refine T.F_law_put.ok sc_law_put (fun vs H Q E h => ?_) (fun cdv A outer s H vs Q E hr h => ?_)
    · obtain ⟨a, b, f, t, x, rfl, _⟩ := h
      rfl
    · obtain ⟨a, b, f, t, x, rfl, hf, ht, hn, h12, k⟩ := h
      have hu64 : (A.deeper (envOfC "_law_put" (defScope s_law_put) s.heap.objs.size (He.fAd K a_law_put) cdv)).units + 64 < cLine := hr.units
      refine ⟨_, PSs.nox (pss_cons (ps_if (pt_cmpR (ko_eqD K hu64) (pv 0) (pe_tup (pa_cons pe_str (pa_cons (pv 1) pa_nil))) (nomark _)) (pss_one (ps_ret (pv 2))) pss_nil)
    (pss_cons (ps_if (PW.pt (pw_and (pt_cmpR (ko_in K) (pe_ix (ki_tup K) (pv 0) pe_int (fun _ _ => rfl)) (pe_tup (pa_cons pe_str (pa_cons pe_str pa_nil))) (by rfl)) (pw_and1 (pt_cmpR op_eq (pe_ix (ki_tup K) (pv 0) pe_int (fun _ _ => rfl)) (pv 1) (nomark _))))) (pss_one (ps_ret (pv 0))) pss_nil)
    (pss_one (ps_ret (pe_callTy (kc_tuple K) (by rfl) T.z_tuple bt_tuple (pa_cons (pe_lc (own := [("_law_part", 3)]) (g := gName 3) (tt := tYes) rfl sc_law_put.nd (kpi_tup K (pv 0)) (blkOk_by (N := n_law_put) (sc := (defScope s_law_put)) (by decide +kernel)) (fun _ _ _ _ _ => (pg_name (i := 3) sc_law_put.nd rfl (Or.inl rfl))) (fun _ _ _ _ _ => pts_nil) (fun _ _ _ _ _ => (pe_ifExp (pt_val (pe_callB (kc_isi K) (by rfl) T.z_isinstance bt_isinstance (pa_cons (pv 3) (pa_cons (pe_tyn (by rfl) T.z_tuple bt_tuple) pa_nil)))) (pe_call G_law_put (hr.mono (by omega)) rfl T.g_law_put T.F_law_put.kp T.b_law_put .nil pass0 (pa_cons (pv 3) (pa_cons (pv 1) (pa_cons (pv 2) pa_nil)))) (pv 3)))) pa_nil)))))), ?_⟩
      walk_at "go"
      refine g_newT 2 rfl (by decide) fun q1 hq1 => ?_
      have s1 := same_new (o := .tup [.str "var", .int x]) hq1
      have v1 : FA (upd H q1 (.tup [.str "var", .int x])) (.var x) q1 := upd_same
      generalize upd H q1 (.tup [.str "var", .int x]) = H1 at s1 v1 ⊢
      refine ⟨_, _, (hf.mono s1).dp, v1.dp, dat_shaped h12, dat_shaped (Nat.zero_le _), ?_⟩
      rw [dat_eqv]
      obtain ⟨ys, e, hi⟩ := hf.tup
      have hyl := Paired.length hi
      have hil := its_len f
      have main : ∀ H0, Same H H0 → (f.sub x t).kind = f.kind ∧ (f.sub x t).its = f.its.map (mapIt fun g => g.sub x t) →
          tRet (tCB (rTupOf K) (tCons (tLc (iTup K (tVar 0)) (gName 3) tYes (tIf (tTest (tCB (rIsi K) (tCons (tVar 3) (tCons (tC (.ty "tuple")) tNil)))) (tCall (spPut n) [] E0 (tCons (tVar 3) (tCons (tVar 1) (tCons (tVar 2) tNil)))) (tVar 3)) [3]) tNil))
            { nx := fun x H' => Q V.non H', rt := Q } [some (.ref a), some (.int x), some (.ref b), none] H0 := by
        intro H0 s0 hs
        walk_at "go"
        refine g_rlcT (SqT.of (s0 _ _ e)) fun E hE => ⟨fun i H' => ∃ zs : List V, Same H0 H' ∧ H' E = some (.lst zs) ∧ zs.length = i ∧ ∀ j, i = j + 1 → ∃ ws, zs = .str f.kind :: ws ∧ Paired (ItV H') ((f.its.take j).map (mapIt fun g => g.sub x t)) ws, ⟨[], same_new hE, upd_same, rfl, fun j h => nomatch h⟩, fun i H' hi ⟨_, s0', _⟩ => SqT.of (s0' _ _ (s0 _ _ e)), fun i y H' hy ⟨zs, s2, hE0, hz, hj⟩ => ?_, fun H2 ⟨zs, s2, hE2, hz, hj⟩ => ?_⟩
        · have hlen : zs.length < sizeLine := lt_line (by have := (List.getElem?_eq_some_iff.mp hy).1; rw [List.length_cons] at this; omega)
          refine g_turn rfl ?_
          walk_at "go"
          refine iteT ?_
          walk_at "go"
          cases i with
          | zero =>
            simp at hy
            subst hy
            refine ⟨_, _, _, _, false, rfl, .ty _, .base (.str _), kit_ty (by decide +kernel), ?_⟩
            walk_at "go"
            refine iteF ?_
            walk_at "go"
            refine g_add hE0 hlen ⟨zs ++ [.str f.kind], s2.mut hE, upd_same, by rw [List.length_append, hz]; rfl, fun j h => ?_⟩
            have : zs = [] := List.length_eq_zero_iff.mp hz
            subst this
            cases (show j = 0 by omega)
            exact ⟨[], rfl, .nil⟩
          | succ i =>
            obtain ⟨ws, rfl, hw⟩ := hj i rfl
            rw [List.getElem?_cons_succ] at hy
            obtain ⟨it, hit, hv⟩ := Pd.get (Its.mono (s0.trans s2) hi) hy
            refine isi_item hv ?_
            walk_at "go"
            cases it with
            | n z =>
              refine iteF ?_
              walk_at "go"
              refine g_add hE0 hlen ⟨_, s2.mut hE, upd_same, by rw [List.length_append, hz]; rfl, fun j h => ?_⟩
              cases (show j = i + 1 by omega)
              refine ⟨ws ++ [y], rfl, ?_⟩
              rw [take_snoc hit, List.map_append]
              exact Its.monoT (SameT.lst hE0) (Pd.snoc hv hw)
            | f g =>
              obtain ⟨u, rfl, hu⟩ := hv
              refine iteT ?_
              walk_at "go"
              have := kid_ht (List.mem_of_getElem? hit)
              refine ⟨u, b, g, t, x, rfl, hu, (ht.mono s0).mono s2, by omega, by omega, fun q H3 s3 hq => ?_⟩
              have hE3 := s3 _ _ hE0
              refine g_add hE3 hlen ⟨_, (s2.trans s3).mut hE, upd_same, by rw [List.length_append, hz]; rfl, fun j h => ?_⟩
              cases (show j = i + 1 by omega)
              refine ⟨ws ++ [.ref q], rfl, ?_⟩
              rw [take_snoc hit, List.map_append]
              exact Its.monoT (SameT.lst hE3) (Pd.snoc ⟨q, rfl, hq⟩ (Its.mono s3 hw))
        · obtain ⟨ws, rfl, hw⟩ := hj ys.length rfl
          rw [List.take_of_length_le (by rw [hyl]; exact Nat.le_refl _), ← hs.2, ← hs.1] at *
          walk_at "go"
          refine g_tupL hE2 fun q hq => ?_
          walk_at "go"
          exact k q _ ((s0.trans s2).new hq) (FA.of upd_same (Its.mono (same_new hq) hw))
      by_cases hv : f = .var x
      · rw [decide_eq_true hv]
        walk_at "go"
        refine iteT ?_
        walk_at "go"
        have q := k b H1 s1
        rw [hv] at q
        have e2 : (F.var x).sub x t = t := by simp [F.sub]
        rw [e2] at q
        exact q (ht.mono s1)
      · rw [decide_eq_false hv]
        walk_at "go"
        refine iteF ?_
        walk_at "go"
        refine g_ixT (SqT.of (s1 _ _ e)) at0 ?_
        walk_at "go"
        refine g_newT 2 rfl (by decide) fun q2 hq2 => ?_
        have s2 := s1.trans (same_new (o := .tup [.str "least", .str "most"]) hq2)
        refine g_inT (SqT.of upd_same) rfl rfl ?_
        generalize upd H1 q2 (.tup [.str "least", .str "most"]) = H2 at s2 ⊢
        walk_at "go"
        rw [k_fix f]
        cases hx : f.isFix with
        | true =>
          obtain ⟨c, y, g, rfl⟩ := fix_ex hx
          obtain ⟨u, e', hg⟩ := id hf
          refine iteT ?_
          walk_at "go"
          refine g_ixT (SqT.of (s2 _ _ e')) at1 ?_
          walk_at "go"
          rw [int_dec]
          by_cases hy : y = x
          · rw [decide_eq_true hy]
            refine iteT ?_
            walk_at "go"
            have q := k a H2 s2
            have e3 : (F.fix c y g).sub x t = F.fix c y g := by simp [F.sub, hy]
            rw [e3] at q
            exact q (hf.mono s2)
          · rw [decide_eq_false hy]
            refine iteF ?_
            exact main H2 s2 (sub_its rfl fun b g' z => by injection z with z1 z2; exact hy z2)
        | false =>
          refine iteF ?_
          refine iteF ?_
          have nv : f.isVar = false ∨ f.isVar = true := by cases f.isVar <;> simp
          rcases nv with nv | nv
          · exact main H2 s2 (sub_its nv fun b g' z => by rw [z] at hx; cases hx)
          · obtain ⟨y, rfl⟩ := var_ex nv
            have hy : ¬ y = x := fun z => hv (by rw [z])
            have e3 : (F.var y).sub x t = .var y := by simp [F.sub, hy]
            refine main H2 s2 ?_
            rw [e3]
            exact ⟨rfl, rfl⟩
end
end K22

set_option Elab.async false
set_option linter.all false
set_option maxRecDepth 100000
set_option maxHeartbeats 1000000
namespace K22
open PySem PySem.Spec PyProof.Rows L2
local macro_rules | `(tactic| walk_at "go1") => `(tactic| with_reducible first
  | refine g_seq ?_ | refine g_asg ?_ | refine g_name ?_ | refine g_c ?_ | refine g_op ?_ | refine g_cons ?_ | refine g_nil ?_ | refine g_cb ?_ | refine g_call ?_ | refine g_meth ?_
  | refine g_I0 ?_ | refine g_ret ?_ | refine g_retN ?_ | refine g_drop ?_ | refine g_if ?_ | refine g_test ?_ | refine g_tB ?_ | refine g_bool ?_
  | refine g_not ?_ | refine g_and ?_ | refine g_or ?_ | refine g_yes ?_ | refine g_tup ?_ | refine g_lst ?_ | refine g_slice ?_ | refine g_part ?_ | refine g_nopart ?_ | refine g_int ?_ | refine g_fld ?_ | refine g_dget ?_
  | refine g_din ?_ | refine g_dnotin ?_ | refine g_bm0 ?_ | refine g_bm ?_ | refine g_ifexp ?_ | refine g_andv ?_ | refine g_orv ?_ | refine g_notv ?_ | refine g_chain ?_ | refine g_U ?_ | refine g_next ?_ | refine g_brk ?_ | refine g_cont ?_
  | refine g_sfld ?_ | refine g_sdput ?_ | refine g_gtup ?_ | refine g_gcons ?_ | refine g_gnil ?_ | refine g_gsub ?_ | refine g_forT ?_ | refine g_forL ?_ | refine g_forR ?_ | refine g_lcT ?_ | refine g_lcL ?_ | refine g_lcR ?_ | refine g_un ?_ | refine g_sfa ?_ | refine g_ip ?_ | refine g_nin ?_ | refine g_nnot ?_ | refine g_nget ?_ | refine g_nput ?_ | refine g_ndisp ?_ | refine g_addI ?_ | refine g_subI ?_
  | (show Ends.nx _ _ _; refine g_nxm ?_) | (show Ends.rt _ _ _; refine g_rtm ?_) | (show Ends.bk _ _ _; refine g_bkm ?_) | (show Ends.ct _ _ _; refine g_ctm ?_))
local macro_rules | `(tactic| walk_at "go2") => `(tactic| first
  | ((with_reducible show tVar _ _ _ _); refine g_var rfl ?_)
  | ((with_reducible show rEq _ _ _ _); refine g_eq rfl ?_)
  | ((with_reducible show rNe _ _ _ _); refine g_ne rfl ?_)
  | ((with_reducible show tAug _ _ _ _ _ _); refine g_aug rfl ?_))
local macro_rules | `(tactic| walk_at "go") => `(tactic| repeat (first | walk_at "go1" | walk_at "go2"))
section
variable {P : Program} {w : World} {K : PySem.W.Frag} {mg : Str → Option Value} {base : Heap}
def spLFol : Sp := fun vs H Q _ => ∃ (a : Addr) (f : F), vs = [.ref a] ∧ FA H f a ∧ f.ht ≤ 11 ∧ ∀ p as H', H p = none → Same H H' → H' p = some (.lst (as.map V.ref)) → FAs H' f.nxt as → Q (.ref p) H'
-- slots of _law_following: 0:_law_statement_here
abbrev n_law_following : List Str := ["_law_statement_here"]
theorem sc_law_following : FnScope n_law_following p_law_following (defScope s_law_following) := ⟨rfl, rfl, rfl, by decide +kernel, rfl, by decide +kernel, by decide +kernel⟩
theorem ok_law_following (T : Top w K mg) : Ok P w K mg base 13 a_law_following p_law_following spLFol := by
  have G_law_inner := ok_law_inner (P := P) (base := base) T
  have G_law_put := ok_law_put (P := P) (base := base) T 12
  refine T.F_law_following.ok sc_law_following (fun vs H Q E h => ?_) (fun cdv A outer s H vs Q E hr h => ?_)
  · obtain ⟨a, f, rfl, _⟩ := h
    rfl
  · obtain ⟨a, f, rfl, hf, h11, k⟩ := h
    refine ⟨_, PSs.nox (pss_cons (ps_if (pt_cmpR (ko_in K) (pe_ix (ki_tup K) (pv 0) pe_int (fun _ _ => rfl)) (pe_tup (pa_cons pe_str (pa_cons pe_str pa_nil))) (by rfl)) (pss_one (ps_ret (pe_lst (pa_cons (pe_call G_law_put (hr.mono (by omega)) rfl T.g_law_put T.F_law_put.kp T.b_law_put .nil pass0 (pa_cons (pe_ix (ki_tup K) (pv 0) pe_int (fun _ _ => rfl)) (pa_cons (pe_ix (ki_tup K) (pv 0) pe_int (fun _ _ => rfl)) (pa_cons (pv 0) pa_nil)))) pa_nil)))) pss_nil)
    (pss_one (ps_ret (pe_call G_law_inner (hr.mono (by omega)) rfl T.g_law_inner T.F_law_inner.kp T.b_law_inner .nil pass0 (pa_cons (pv 0) pa_nil))))), ?_⟩
    obtain ⟨ys, e, hi⟩ := hf.tup
    walk_at "go"
    refine g_ixT (SqT.of e) at0 ?_
    walk_at "go"
    refine g_newT 2 rfl (by decide) fun q2 hq2 => ?_
    have s2 := same_new (o := .tup [.str "least", .str "most"]) hq2
    refine g_inT (SqT.of upd_same) rfl rfl ?_
    generalize upd H q2 (.tup [.str "least", .str "most"]) = H2 at s2 ⊢
    walk_at "go"
    rw [k_fix f]
    cases hx : f.isFix with
    | true =>
      obtain ⟨c, y, g, rfl⟩ := fix_ex hx
      obtain ⟨u, e', hg⟩ := id hf
      have h11' : g.ht + 1 ≤ 11 := h11
      refine iteT ?_
      walk_at "go"
      refine g_ixT (SqT.of (s2 _ _ e')) at2 ?_
      walk_at "go"
      refine g_ixT (SqT.of (s2 _ _ e')) at1 ?_
      walk_at "go"
      refine ⟨u, a, g, .fix c y g, y, rfl, hg.mono s2, hf.mono s2, by omega, by omega, fun p H3 s3 hp => ?_⟩
      walk_at "go"
      refine g_newL 1 rfl (by decide) fun q hq => ?_
      walk_at "go"
      exact k q [p] _ ((s2.trans s3).free hq) ((s2.trans s3).new hq) upd_same (.cons (hp.mono (same_new hq)) .nil)
    | false =>
      refine iteF ?_
      walk_at "go"
      refine ⟨a, f, rfl, hf.mono s2, fun p as H1 hp s1 hp1 hk1 => ?_⟩
      refine k p as H1 (s2.free hp) (s2.trans s1) hp1 ?_
      have : f.nxt = f.kids := by cases f <;> first | (cases hx; done) | rfl
      rw [this]
      exact hk1
end
end K22

set_option Elab.async false
set_option linter.all false
set_option maxRecDepth 100000
set_option maxHeartbeats 1000000
namespace K22
open PySem PySem.Spec PyProof.Rows L2
local macro_rules | `(tactic| walk_at "go1") => `(tactic| with_reducible first
  | refine g_seq ?_ | refine g_asg ?_ | refine g_name ?_ | refine g_c ?_ | refine g_op ?_ | refine g_cons ?_ | refine g_nil ?_ | refine g_cb ?_ | refine g_call ?_ | refine g_meth ?_
  | refine g_I0 ?_ | refine g_ret ?_ | refine g_retN ?_ | refine g_drop ?_ | refine g_if ?_ | refine g_test ?_ | refine g_tB ?_ | refine g_bool ?_
  | refine g_not ?_ | refine g_and ?_ | refine g_or ?_ | refine g_yes ?_ | refine g_tup ?_ | refine g_lst ?_ | refine g_slice ?_ | refine g_part ?_ | refine g_nopart ?_ | refine g_int ?_ | refine g_fld ?_ | refine g_dget ?_
  | refine g_din ?_ | refine g_dnotin ?_ | refine g_bm0 ?_ | refine g_bm ?_ | refine g_ifexp ?_ | refine g_andv ?_ | refine g_orv ?_ | refine g_notv ?_ | refine g_chain ?_ | refine g_U ?_ | refine g_next ?_ | refine g_brk ?_ | refine g_cont ?_
  | refine g_sfld ?_ | refine g_sdput ?_ | refine g_gtup ?_ | refine g_gcons ?_ | refine g_gnil ?_ | refine g_gsub ?_ | refine g_forT ?_ | refine g_forL ?_ | refine g_forR ?_ | refine g_lcT ?_ | refine g_lcL ?_ | refine g_lcR ?_ | refine g_un ?_ | refine g_sfa ?_ | refine g_ip ?_ | refine g_nin ?_ | refine g_nnot ?_ | refine g_nget ?_ | refine g_nput ?_ | refine g_ndisp ?_ | refine g_addI ?_ | refine g_subI ?_
  | (show Ends.nx _ _ _; refine g_nxm ?_) | (show Ends.rt _ _ _; refine g_rtm ?_) | (show Ends.bk _ _ _; refine g_bkm ?_) | (show Ends.ct _ _ _; refine g_ctm ?_))
local macro_rules | `(tactic| walk_at "go2") => `(tactic| first
  | ((with_reducible show tVar _ _ _ _); refine g_var rfl ?_)
  | ((with_reducible show rEq _ _ _ _); refine g_eq rfl ?_)
  | ((with_reducible show rNe _ _ _ _); refine g_ne rfl ?_)
  | ((with_reducible show tAug _ _ _ _ _ _); refine g_aug rfl ?_))
local macro_rules | `(tactic| walk_at "go") => `(tactic| repeat (first | walk_at "go1" | walk_at "go2"))
section
variable {P : Program} {w : World} {K : PySem.W.Frag} {mg : Str → Option Value} {base : Heap}
def spLTidy (n : Nat) : Sp := fun vs H Q _ => ∃ (a d : Addr) (f : F) (env : Int → Option Int) (m : Int) (z : Nat), vs = [.ref a, .ref d, .int m] ∧ FA H f a ∧ NmAt H d env z ∧ f.Cl (fun x => ∃ y, env x = some y) ∧ z + f.ht ≤ 1000 ∧ f.ht < n ∧
  ∀ r p H', Same H H' → H' r = some (.tup [.ref p, .int (f.ren env m).2]) → FA H' (f.ren env m).1 p → Q (.ref r) H'
-- slots of _law_tidy_from: 0:_law_statement_here 1:_law_names 2:_law_number 3:_law_inner_here 4:_law_name 5:_law_scope 6:_law_after 7:_law_found 8:_law_part
abbrev n_law_tidy_from : List Str := ["_law_statement_here", "_law_names", "_law_number", "_law_inner_here", "_law_name", "_law_scope", "_law_after", "_law_found", "_law_part"]
theorem sc_law_tidy_from : FnScope n_law_tidy_from p_law_tidy_from (defScope s_law_tidy_from) := ⟨rfl, rfl, rfl, by decide +kernel, rfl, by decide +kernel, by decide +kernel⟩
theorem ok_law_tidy_from (T : Top w K mg) (n : Nat) : Ok P w K mg base n a_law_tidy_from p_law_tidy_from (spLTidy n) := by
  induction n with
  | zero => exact ok_none fun vs H Q E ⟨_, _, _, _, _, _, _, _, _, _, _, h, _⟩ => absurd h (Nat.not_lt_zero _)
  | succ n G_law_tidy_from =>
    refine T.F_law_tidy_from.ok sc_law_tidy_from (fun vs H Q E h => ?_) (fun cdv A outer s H vs Q E hr h => ?_)
    · obtain ⟨a, d, f, env, m, z, rfl, _⟩ := h
      rfl
    · obtain ⟨a, d, f, env, m, z, rfl, hf, hd, hc, hz, hn, k⟩ := h
      have hu := hu_of hr
      refine ⟨_, PSs.nox (pss_cons (ps_if (pt_cmpR op_eq (pe_ix (ki_tup K) (pv 0) pe_int (fun _ _ => rfl)) pe_str (nomark _)) (pss_one (ps_ret (pe_tup (pa_cons (pe_tup (pa_cons pe_str (pa_cons (pe_dget hu (pv 1) (pe_ix (ki_tup K) (pv 0) pe_int (fun _ _ => rfl)) (fun _ _ => rfl)) pa_nil))) (pa_cons (pv 2) pa_nil))))) pss_nil)
    (pss_cons (ps_if (pt_cmpR (ko_in K) (pe_ix (ki_tup K) (pv 0) pe_int (fun _ _ => rfl)) (pe_tup (pa_cons pe_str (pa_cons pe_str pa_nil))) (by rfl)) (pss_cons (ps_set (i := 3) sc_law_tidy_from.nd rfl (Or.inl rfl) pe_dnewK)
      (pss_cons (ps_lock (ps_for PassesOwn.never rfl (pi_keys (pv 1)) (pg_name (i := 4) sc_law_tidy_from.nd rfl (Or.inl rfl)) (pss_one (ps_dput hu (pv 3) (pv 4) (pe_dget hu (pv 1) (pv 4) (fun _ _ => rfl)) rfl))))
      (pss_cons (ps_dput hu (pv 3) (pe_ix (ki_tup K) (pv 0) pe_int (fun _ _ => rfl)) (pv 2) rfl)
      (pss_cons (ps_asg (pe_call G_law_tidy_from (hr.mono (by omega)) rfl T.g_law_tidy_from T.F_law_tidy_from.kp T.b_law_tidy_from .nil pass0 (pa_cons (pe_ix (ki_tup K) (pv 0) pe_int (fun _ _ => rfl)) (pa_cons (pv 3) (pa_cons (pe_op op_add (pv 2) pe_int) pa_nil)))) (pg_tup (by rfl) (pgs_cons (pg_name (i := 5) sc_law_tidy_from.nd rfl (Or.inl rfl)) (pgs_cons (pg_name (i := 6) sc_law_tidy_from.nd rfl (Or.inl rfl)) pgs_nil))))
      (pss_one (ps_ret (pe_tup (pa_cons (pe_tup (pa_cons (pe_ix (ki_tup K) (pv 0) pe_int (fun _ _ => rfl)) (pa_cons (pv 2) (pa_cons (pv 5) pa_nil)))) (pa_cons (pv 6) pa_nil))))))))) pss_nil)
    (pss_cons (ps_set (i := 7) sc_law_tidy_from.nd rfl (Or.inl rfl) (pe_lst pa_nil))
    (pss_cons (ps_for PassesOwn.never rfl (kpi_tup K (pv 0)) (pg_name (i := 8) sc_law_tidy_from.nd rfl (Or.inl rfl)) (pss_cons (ps_if (pt_val (pe_callB (kc_isi K) (by rfl) T.z_isinstance bt_isinstance (pa_cons (pv 8) (pa_cons (pe_tyn (by rfl) T.z_tuple bt_tuple) pa_nil)))) (pss_one (ps_asg (pe_call G_law_tidy_from (hr.mono (by omega)) rfl T.g_law_tidy_from T.F_law_tidy_from.kp T.b_law_tidy_from .nil pass0 (pa_cons (pv 8) (pa_cons (pv 1) (pa_cons (pv 2) pa_nil)))) (pg_tup (by rfl) (pgs_cons (pg_name (i := 8) sc_law_tidy_from.nd rfl (Or.inl rfl)) (pgs_cons (pg_name (i := 2) sc_law_tidy_from.nd rfl (Or.inl rfl)) pgs_nil))))) pss_nil)
      (pss_one (ps_expr (kpe_app K (pv 7) (pv 8))))))
    (pss_one (ps_ret (pe_tup (pa_cons (pe_callTy (kc_tuple K) (by rfl) T.z_tuple bt_tuple (pa_cons (pv 7) pa_nil)) (pa_cons (pv 2) pa_nil))))))))), ?_⟩
      obtain ⟨ys, e, hi⟩ := hf.tup
      walk_at "go"
      refine g_ixT (SqT.of e) at0 ?_
      walk_at "go"
      refine iteB (k_var f) (fun hv => ?_) (fun hv => ?_)
      · obtain ⟨y, rfl⟩ := var_ex hv
        obtain ⟨v, hyv⟩ := (show ∃ v, env y = some v from hc)
        obtain ⟨kvs, hk1, hk2, hk3⟩ := hd
        have e : H a = some (.tup [.str "var", .int y]) := hf
        walk_at "go"
        refine g_ixT (SqT.of e) at1 ?_
        walk_at "go"
        refine g_rdg (k := Sum.inl y) hk1 (by rw [hk2, hyv]; rfl) ?_
        walk_at "go"
        refine g_newT 2 rfl (by decide) fun p hp => ?_
        walk_at "go"
        refine g_newT 2 rfl (by decide) fun r hr' => ?_
        walk_at "go"
        have er : (F.var y).ren env m = (.var v, m) := by simp [F.ren, hyv]
        refine k r p _ ((same_new hp).new hr') ?_ ?_
        · rw [er]
          exact upd_same
        · rw [er]
          exact (same_new hr') _ _ upd_same
      · walk_at "go"
        refine g_ixT (SqT.of e) at0 ?_
        walk_at "go"
        refine g_newT 2 rfl (by decide) fun q2 hq2 => ?_
        have s2 := same_new (o := .tup [.str "least", .str "most"]) hq2
        refine g_inT (SqT.of upd_same) rfl rfl ?_
        generalize upd H q2 (.tup [.str "least", .str "most"]) = H2 at s2 ⊢
        walk_at "go"
        refine iteB (k_fix f) (fun hx => ?_) (fun hx => ?_)
        · obtain ⟨c, y, g, rfl⟩ := fix_ex hx
          obtain ⟨u, e', hg⟩ := id hf
          obtain ⟨kvs, hk1, hk2, hk3⟩ := id hd
          have hht : (F.fix c y g).ht = g.ht + 1 := rfl
          walk_at "go"
          intro l hl
          have s3 := s2.trans (same_new (o := .dK []) hl)
          have zl : H l = none := s2.free hl
          have nld : l ≠ d := (ne_of_none hk1 zl).symm
          walk_at "go"
          refine g_forK (d := d) (kvs := kvs) (s3 _ _ hk1) (fun H' Q q => ⟨_, rfl, q⟩) (fun u i σ' H' => ∃ (kv2 : List (Key × V)) (v4 : Option V), σ' = [some (.ref a), some (.ref d), some (.int m), some (.ref l), v4, none, none, none, none] ∧ (∀ b o, b ≠ d → H b = some o → H' b = some o) ∧ H' d = some u ∧ H' l = some (.dK kv2) ∧ kv2.length ≤ i ∧
              (∀ k : Key, k ∈ (kvs.take i).map (·.1) → valV kv2 k = valV kvs k) ∧ ∀ k : Key, k ∉ (kvs.take i).map (·.1) → valV kv2 k = none)
            (fun u => ⟨[], none, rfl, fun b o n e => by rw [upd_ne n]; exact s3 _ _ e, upd_same, by rw [upd_ne nld]; exact upd_same, Nat.le_refl _, (fun k h => by simp at h), fun k _ => rfl⟩) (fun u i σ' H' ⟨_, _, _, _, z, _⟩ => z) (fun o i k v σ' H' hkv ⟨kv2, v4, eσ, sO, hdo, hl2, hlen, hval, hnon⟩ => ?_) (fun uu σ' H' ⟨kv2, v4, eσ, sO, hdo, hl2, hlen, hval, hnon⟩ => ?_)
          · subst eσ
            obtain ⟨w0, hw0⟩ : ∃ w0, valV kvs k = some w0 := by
              have hm := List.mem_of_getElem? hkv
              cases q : valV kvs k with
              | some w0 => exact ⟨w0, rfl⟩
              | none =>
                unfold valV at q
                have := List.find?_eq_none.mp (Option.map_eq_none_iff.mp q) _ hm
                simp at this
            have hil := (List.getElem?_eq_some_iff.mp hkv).1
            walk_at "go"
            refine ⟨d, w0, rfl, .inl ⟨kvs, k, .inr ⟨o, hdo⟩, rfl, hw0.symm⟩, ?_⟩
            walk_at "go"
            refine g_rdp hl2 (lt_line (by omega)) ?_
            walk_at "go"
            have lp := length_putK kv2 k w0
            refine ⟨_, _, rfl, fun b u n e => by rw [upd_ne (ne_of_none e zl)]; exact sO b u n e, by rw [upd_ne nld.symm]; exact hdo, upd_same, by omega, fun k' h => ?_, fun k' h => ?_⟩
            · rw [valV_put]
              by_cases e : k' = k
              · rw [if_pos e, e, hw0]
              · rw [if_neg e]
                refine hval k' ?_
                rw [take_snoc hkv, List.map_append] at h
                exact (List.mem_append.mp h).resolve_right fun z => e (List.mem_singleton.mp z)
            · rw [take_snoc hkv, List.map_append] at h
              rw [valV_put, if_neg fun e => h (List.mem_append_right _ (List.mem_singleton.mpr e))]
              exact hnon k' fun z => h (List.mem_append_left _ z)
          · subst eσ
            rw [List.take_length] at hval hnon
            have heq : ∀ k : Key, valV kv2 k = valV kvs k := fun k => by
              by_cases h : k ∈ kvs.map (·.1)
              · exact hval k h
              · rw [hnon k h]
                unfold valV
                rw [List.find?_eq_none.mpr fun q hq => by
                  have : q.1 ≠ k := fun e => h (List.mem_map.mpr ⟨q, hq, e⟩)
                  simp [this]]
                rfl
            have s4 : Same H (upd H' d (.dK kvs)) := fun b u' e => by
              by_cases h : b = d
              · subst h
                rw [upd_same]
                rw [hk1] at e
                exact e
              · rw [upd_ne h]
                exact sO b u' h e
            have hl4 : upd H' d (.dK kvs) l = some (.dK kv2) := by rw [upd_ne nld]; exact hl2
            generalize upd H' d (.dK kvs) = H4 at s4 hl4 ⊢
            walk_at "go"
            refine g_ixT (SqT.of (s4 _ _ e')) at1 ?_
            walk_at "go"
            refine g_rdp (k := Sum.inl y) hl4 (lt_line (by omega)) ?_
            have s5 : Same H (upd H4 l (.dK (putK kv2 (Sum.inl y) (.int m)))) := s4.mut zl
            walk_at "go"
            refine g_ixT (SqT.of (s5 _ _ e')) at2 ?_
            walk_at "go"
            refine ⟨u, l, g, upE env y m, m + 1, z + 1, rfl, hg.mono s5, ⟨_, upd_same, fun x => ?_, ?_⟩, ?_, by omega, by omega, fun r p H6 s6 hr6 hp6 => ?_⟩
            · rw [valV_put, heq, hk2]
              unfold upE
              by_cases ex : x = y
              · rw [if_pos (by rw [ex]), if_pos ex]
                rfl
              · rw [if_neg fun e => ex (Sum.inl.inj e), if_neg ex]
            · have := length_putK kv2 (Sum.inl y) (V.int m)
              omega
            · refine F.Cl.imp (f := g) hc fun x hx => ?_
              unfold upE
              by_cases ex : x = y
              · exact ⟨m, if_pos ex⟩
              · obtain ⟨v, hv⟩ := hx.resolve_left ex
                exact ⟨v, by rw [if_neg ex]; exact hv⟩
            · walk_at "go"
              refine g_run (SqT.of hr6) rfl ?_
              walk_at "go"
              refine g_ixT (SqT.of (s6 _ _ (s5 _ _ e'))) at0 ?_
              walk_at "go"
              refine g_newT 3 rfl (by decide) fun q hq => ?_
              walk_at "go"
              refine g_newT 2 rfl (by decide) fun r' hr' => ?_
              walk_at "go"
              have s7 := (same_new (o := .tup [.str (kX c), .int m, .ref p]) hq).new (o := .tup [.ref q, .int (g.ren (upE env y m) (m + 1)).2]) hr'
              exact k r' q _ ((s5.trans s6).trans s7) upd_same ⟨p, (same_new hr') _ _ upd_same, hp6.mono s7⟩
        · have R := ren_its hv hx env m
          have hyl := Paired.length hi
          have z2 := its_len f
          walk_at "go"
          refine g_newL 0 rfl (by decide) fun l hl => ?_
          have s3 := s2.new (o := .lst []) hl
          have zl : H l = none := s2.free hl
          walk_at "go"
          refine g_rforT (SqT.of (s3 _ _ e)) (fun i σ' H' => ∃ (zs : List V) (v : Option V), σ' = [some (.ref a), some (.ref d), some (.int (renIts (f.its.take (i - 1)) env m).2), none, none, none, none, some (.ref l), v] ∧ Same H H' ∧ H' l = some (.lst zs) ∧ zs.length = i ∧
              ∀ j, i = j + 1 → ∃ ws, zs = .str f.kind :: ws ∧ Paired (ItV H') (renIts (f.its.take j) env m).1 ws)
            ⟨[], none, rfl, s3, upd_same, rfl, fun j h => nomatch h⟩ (fun i _ H' _ ⟨_, _, _, s0, _⟩ => SqT.of (s0 _ _ e)) ?_ ?_
          · rintro i y σ' H' hy ⟨zs, v, rfl, s0, hl0, hz, hj⟩
            have hlen : zs.length < sizeLine := lt_line (by have := (List.getElem?_eq_some_iff.mp hy).1; rw [List.length_cons] at this; omega)
            walk_at "go"
            cases i with
            | zero =>
              simp at hy
              subst hy
              refine ⟨_, _, _, _, false, rfl, .ty _, .base (.str _), kit_ty (by decide +kernel), ?_⟩
              walk_at "go"
              refine iteF ?_
              walk_at "go"
              refine g_tyL (SqL.of hl0) ?_
              walk_at "go"
              refine g_app hl0 hlen ?_
              walk_at "go"
              have : zs = [] := List.length_eq_zero_iff.mp hz
              subst this
              refine ⟨[.str f.kind], _, rfl, s0.mut zl, upd_same, rfl, fun j h => ?_⟩
              cases (show j = 0 by omega)
              exact ⟨[], rfl, .nil⟩
            | succ i =>
              obtain ⟨ws, rfl, hw⟩ := hj i rfl
              rw [List.getElem?_cons_succ] at hy
              obtain ⟨it, hit, hv2⟩ := Pd.get (Its.mono s0 hi) hy
              refine isi_item hv2 ?_
              walk_at "go"
              cases it with
              | n z' =>
                refine iteF ?_
                walk_at "go"
                refine g_tyL (SqL.of hl0) ?_
                walk_at "go"
                refine g_app hl0 hlen ?_
                walk_at "go"
                refine ⟨_, some y, ?_, s0.mut zl, upd_same, by rw [List.length_append, hz]; rfl, fun j h => ?_⟩
                · show _ = [some (V.ref a), some (.ref d), some (.int (renIts (f.its.take (i + 1)) env m).2), none, none, none, none, some (.ref l), _]
                  rw [take_snoc hit, renIts_n]
                  rfl
                cases (show j = i + 1 by omega)
                refine ⟨ws ++ [y], rfl, ?_⟩
                rw [take_snoc hit, renIts_n]
                exact Its.monoT (SameT.lst hl0) (Pd.snoc hv2 hw)
              | f g =>
                obtain ⟨u, rfl, hu2⟩ := hv2
                refine iteT ?_
                walk_at "go"
                have hmem := List.mem_of_getElem? hit
                have := kid_ht hmem
                obtain ⟨kvs, hk1, hk2, hk3⟩ := id hd
                refine ⟨u, d, g, env, _, z, rfl, hu2, ⟨kvs, s0 _ _ hk1, hk2, hk3⟩, hc.kid hx (itKids_its f ▸ mem_itKids hmem), by omega, by omega, fun r p H4 s4 hr4 hp4 => ?_⟩
                have hl4 := s4 _ _ hl0
                walk_at "go"
                refine g_run (SqT.of hr4) rfl ?_
                walk_at "go"
                refine g_tyL (SqL.of hl4) ?_
                walk_at "go"
                refine g_app hl4 hlen ?_
                walk_at "go"
                refine ⟨_, some (.ref p), ?_, (s0.trans s4).mut zl, upd_same, by rw [List.length_append, hz]; rfl, fun j h => ?_⟩
                · show _ = [some (V.ref a), some (.ref d), some (.int (renIts (f.its.take (i + 1)) env m).2), none, none, none, none, some (.ref l), _]
                  rw [take_snoc hit, renIts_f]
                  rfl
                cases (show j = i + 1 by omega)
                refine ⟨ws ++ [.ref p], rfl, ?_⟩
                rw [take_snoc hit, renIts_f]
                exact Its.monoT (SameT.lst hl4) (Pd.snoc ⟨p, rfl, hp4⟩ (Its.mono s4 hw))
          · rintro σ' H' ⟨zs, v, rfl, s0, hl0, hz, hj⟩
            obtain ⟨ws, rfl, hw⟩ := hj ys.length rfl
            rw [List.take_of_length_le (by rw [hyl]; exact Nat.le_refl _)] at hw
            rw [show (V.str f.kind :: ys).length - 1 = ys.length from rfl, List.take_of_length_le (by rw [hyl]; exact Nat.le_refl _)]
            rw [← R.2.1] at hw
            rw [← R.2.2]
            walk_at "go"
            refine g_tupL hl0 fun q hq => ?_
            walk_at "go"
            refine g_newT 2 rfl (by decide) fun r hr' => ?_
            walk_at "go"
            refine k r q _ ((s0.new hq).new hr') upd_same (FA.mono (same_new hr') (FA.of ?_ (Its.mono (same_new hq) hw)))
            rw [upd_same, R.1]
end
end K22

set_option Elab.async false
set_option linter.all false
set_option maxRecDepth 100000
set_option maxHeartbeats 1000000
namespace K22
open PySem PySem.Spec PyProof.Rows L2
local macro_rules | `(tactic| walk_at "go1") => `(tactic| with_reducible first
  | refine g_seq ?_ | refine g_asg ?_ | refine g_name ?_ | refine g_c ?_ | refine g_op ?_ | refine g_cons ?_ | refine g_nil ?_ | refine g_cb ?_ | refine g_call ?_ | refine g_meth ?_
  | refine g_I0 ?_ | refine g_ret ?_ | refine g_retN ?_ | refine g_drop ?_ | refine g_if ?_ | refine g_test ?_ | refine g_tB ?_ | refine g_bool ?_
  | refine g_not ?_ | refine g_and ?_ | refine g_or ?_ | refine g_yes ?_ | refine g_tup ?_ | refine g_lst ?_ | refine g_slice ?_ | refine g_part ?_ | refine g_nopart ?_ | refine g_int ?_ | refine g_fld ?_ | refine g_dget ?_
  | refine g_din ?_ | refine g_dnotin ?_ | refine g_bm0 ?_ | refine g_bm ?_ | refine g_ifexp ?_ | refine g_andv ?_ | refine g_orv ?_ | refine g_notv ?_ | refine g_chain ?_ | refine g_U ?_ | refine g_next ?_ | refine g_brk ?_ | refine g_cont ?_
  | refine g_sfld ?_ | refine g_sdput ?_ | refine g_gtup ?_ | refine g_gcons ?_ | refine g_gnil ?_ | refine g_gsub ?_ | refine g_forT ?_ | refine g_forL ?_ | refine g_forR ?_ | refine g_lcT ?_ | refine g_lcL ?_ | refine g_lcR ?_ | refine g_un ?_ | refine g_sfa ?_ | refine g_ip ?_ | refine g_nin ?_ | refine g_nnot ?_ | refine g_nget ?_ | refine g_nput ?_ | refine g_ndisp ?_ | refine g_addI ?_ | refine g_subI ?_
  | (show Ends.nx _ _ _; refine g_nxm ?_) | (show Ends.rt _ _ _; refine g_rtm ?_) | (show Ends.bk _ _ _; refine g_bkm ?_) | (show Ends.ct _ _ _; refine g_ctm ?_))
local macro_rules | `(tactic| walk_at "go2") => `(tactic| first
  | ((with_reducible show tVar _ _ _ _); refine g_var rfl ?_)
  | ((with_reducible show rEq _ _ _ _); refine g_eq rfl ?_)
  | ((with_reducible show rNe _ _ _ _); refine g_ne rfl ?_)
  | ((with_reducible show tAug _ _ _ _ _ _); refine g_aug rfl ?_))
local macro_rules | `(tactic| walk_at "go") => `(tactic| repeat (first | walk_at "go1" | walk_at "go2"))
section
variable {P : Program} {w : World} {K : PySem.W.Frag} {mg : Str → Option Value} {base : Heap}
def spLTid : Sp := fun vs H Q _ => ∃ (a : Addr) (f : F), vs = [.ref a] ∧ FA H f a ∧ f.Closed ∧ f.ht ≤ 11 ∧ ∀ p H', Same H H' → FA H' f.tidy p → Q (.ref p) H'
-- slots of _law_tidy: 0:_law_statement_here
abbrev n_law_tidy : List Str := ["_law_statement_here"]
theorem sc_law_tidy : FnScope n_law_tidy p_law_tidy (defScope s_law_tidy) := ⟨rfl, rfl, rfl, by decide +kernel, rfl, by decide +kernel, by decide +kernel⟩
theorem ok_law_tidy (T : Top w K mg) : Ok P w K mg base 13 a_law_tidy p_law_tidy spLTid := by
  have G_law_tidy_from := ok_law_tidy_from (P := P) (base := base) T 12
  refine T.F_law_tidy.ok sc_law_tidy (fun vs H Q E h => ?_) (fun cdv A outer s H vs Q E hr h => ?_)
  · obtain ⟨a, f, rfl, _⟩ := h
    rfl
  · obtain ⟨a, f, rfl, hf, hc, h11, k⟩ := h
    refine ⟨_, PSs.nox (pss_one (ps_ret (pe_ix (ki_tup K) (pe_call G_law_tidy_from (hr.mono (by omega)) rfl T.g_law_tidy_from T.F_law_tidy_from.kp T.b_law_tidy_from .nil pass0 (pa_cons (pv 0) (pa_cons pe_dnewK (pa_cons pe_int pa_nil)))) pe_int (fun _ _ => rfl)))), ?_⟩
    walk_at "go"
    intro l hl
    have s1 := same_new (o := .dK []) hl
    walk_at "go"
    refine ⟨a, l, f, env0, 0, 0, rfl, hf.mono s1, ⟨[], upd_same, fun x => rfl, Nat.le_refl _⟩, hc.imp fun _ z => z.elim, by omega, by omega, fun r p H1 s2 hr1 hp1 => ?_⟩
    walk_at "go"
    refine g_ixT (SqT.of hr1) at0 ?_
    exact k p H1 (s1.trans s2) hp1
theorem any_eqv (g : F) : ∀ fs : List F, ((fs.map F.dat).any fun z => PyData.eqv z g.dat) = decide (g ∈ fs)
  | [] => rfl
  | f :: fs => by
    rw [List.map_cons, List.any_cons, any_eqv g fs, dat_eqv]
    by_cases e : f = g
    · subst e
      simp
    · have e2 : ¬ g = f := fun z => e z.symm
      simp [e, e2]
theorem FAs.dp {H : Hp} : ∀ {fs : List F} {as : List Addr}, FAs H fs as → DpAll K H (as.map V.ref) (fs.map F.dat)
  | _, _, .nil => .nil
  | _, _, .cons a b => .cons (FA.dp a) (FAs.dp b)
theorem dats_shaped {fs : List F} (h : ∀ f ∈ fs, f.ht ≤ 12) : SeqAt.shaped (.list (fs.map F.dat)) = true := by
  have h1 : ∀ fs : List F, (∀ f ∈ fs, f.ht ≤ 12) → PyData.canLayAll0 (fs.map F.dat) = true := fun fs => by
    induction fs with
    | nil => exact fun _ => by simp [PyData.canLayAll0]
    | cons f fs ih => exact fun h => by simp [PyData.canLayAll0, dat_lay, ih fun g hg => h g (List.mem_cons_of_mem _ hg)]
  have h2 : ∀ fs : List F, (∀ f ∈ fs, f.ht ≤ 12) → PyData.depthAll (fs.map F.dat) ≤ 20 := fun fs => by
    induction fs with
    | nil => exact fun _ => by simp [PyData.depthAll]
    | cons f fs ih =>
      intro h
      have a := ih fun g hg => h g (List.mem_cons_of_mem _ hg)
      have b := dat_depth f
      have c := h f List.mem_cons_self
      simp only [List.map_cons, PyData.depthAll]
      omega
  have a := h1 fs h
  have b := h2 fs h
  unfold SeqAt.shaped
  simp only [PyData.canLay0, PyData.depth, a, Bool.true_and]
  refine decide_eq_true ?_
  omega
def spLClo : Sp := fun vs H Q _ => ∃ (a : Addr) (f : F), vs = [.ref a] ∧ FA H f a ∧ f.Closed ∧ f.ht ≤ 3 ∧ ∀ p (as : List Addr) H', Same H H' → H' p = some (.lst (as.map V.ref)) → as.length ≤ 15 → Q (.ref p) H'
-- slots of _law_closure: 0:_law_statement_here 1:_law_found 2:_law_at 3:_law_part
abbrev n_law_closure : List Str := ["_law_statement_here", "_law_found", "_law_at", "_law_part"]
theorem sc_law_closure : FnScope n_law_closure p_law_closure (defScope s_law_closure) := ⟨rfl, rfl, rfl, by decide +kernel, rfl, by decide +kernel, by decide +kernel⟩
theorem ok_law_closure (T : Top w K mg) : Ok P w K mg base 14 a_law_closure p_law_closure spLClo := by
  have G_law_tidy := ok_law_tidy (P := P) (base := base) T
  have G_law_following := ok_law_following (P := P) (base := base) T
  refine T.F_law_closure.ok sc_law_closure (fun vs H Q E h => ?_) (fun cdv A outer s H vs Q E hr h => ?_)
  · obtain ⟨a, f, rfl, _⟩ := h
    rfl
  · obtain ⟨a, f, rfl, hf, hc, h3, k⟩ := h
    have hu64 : (A.deeper (envOfC "_law_closure" (defScope s_law_closure) s.heap.objs.size (He.fAd K a_law_closure) cdv)).units + 65 < cLine := by have := hr.un; omega
    refine ⟨_, PSs.nox (pss_cons (ps_set (i := 1) sc_law_closure.nd rfl (Or.inl rfl) (pe_lst (pa_cons (pe_call G_law_tidy (hr.mono (by omega)) rfl T.g_law_tidy T.F_law_tidy.kp T.b_law_tidy .nil pass0 (pa_cons (pv 0) pa_nil)) pa_nil)))
    (pss_cons (ps_for PassesOwn.never rfl (pi_range1 (by rfl) T.z_range (pa_cons pe_int pa_nil)) (pg_name (i := 2) sc_law_closure.nd rfl (Or.inl rfl)) (pss_one (ps_if (pt_cmpR op_lt (pv 2) (pe_callB (kc_len K) (by rfl) T.z_len bt_len (pa_cons (pv 1) pa_nil)) (nomark _)) (pss_one (ps_for PassesOwn.never rfl (kpi_list K (pe_call G_law_following (hr.mono (by omega)) rfl T.g_law_following T.F_law_following.kp T.b_law_following .nil pass0 (pa_cons (pe_ix (ki_list K) (pv 1) (pv 2) (fun _ _ => rfl)) pa_nil))) (pg_name (i := 3) sc_law_closure.nd rfl (Or.inl rfl)) (pss_one (ps_if (pt_cmpR (ko_notInD K hu64) (pv 3) (pv 1) (by rfl)) (pss_one (ps_expr (kpe_app K (pv 1) (pv 3)))) pss_nil)))) pss_nil)))
    (pss_one (ps_ret (pv 1))))), ?_⟩
    walk_at "go"
    refine ⟨a, f, rfl, hf, hc, by omega, fun t H1 s1 ht => ?_⟩
    walk_at "go"
    refine g_newL 1 rfl (by decide) fun l hl => ?_
    have s2 := s1.new (o := .lst [.ref t]) hl
    have zl := s1.free hl
    have ht2 := ht.mono (same_new (o := .lst [.ref t]) hl)
    walk_at "go"
    refine g_rforR (n := 200) (by decide) (fun i σ' H' => ∃ (fs : List F) (as : List Addr) (v2 v3 : Option V), σ' = [some (.ref a), some (.ref l), v2, v3] ∧ Same H H' ∧ H' l = some (.lst (as.map V.ref)) ∧ FAs H' fs as ∧ fs.Nodup ∧ ∀ x ∈ fs, x ∈ f.clos)
      ⟨[f.tidy], [t], none, none, rfl, s2, upd_same, .cons ht2 .nil, List.nodup_cons.mpr ⟨(fun z => nomatch z), List.nodup_nil⟩, fun x hx => by rw [List.mem_singleton.mp hx]; exact clos_head f⟩ ?_ ?_
    · rintro i σ' H' hi ⟨fs, as, v2, v3, rfl, s4, hl4, hk4, hnd, hsub⟩
      have hlen := Paired.length hk4
      walk_at "go"
      refine g_len (.inl (SqL.of hl4)) ?_
      walk_at "go"
      rw [List.length_map, ← hlen]
      refine iteB (c' := decide (i < fs.length)) (by congr 1; exact propext ⟨fun h => by omega, fun h => by omega⟩) (fun hlt => ?_) (fun hlt => ?_)
      · have hlt := of_decide_eq_true hlt
        obtain ⟨x, hx⟩ : ∃ x, fs[i]? = some x := ⟨_, List.getElem?_eq_getElem hlt⟩
        obtain ⟨u, hu', hxu⟩ := Pd.get' hk4 hx
        have hxc := hsub x (List.mem_of_getElem? hx)
        have hxh := clos_ht h3 x hxc
        walk_at "go"
        refine g_ixL (SqL.of hl4) (atI_nat (j := i) (v := V.ref u) (by rw [List.getElem?_map, hu']; rfl)) ?_
        walk_at "go"
        refine ⟨u, x, rfl, hxu, by omega, fun p ks H3 hp s3 hp3 hks => ?_⟩
        have npl : p ≠ l := (ne_of_none hl4 hp).symm
        refine g_rforL (SqL.of hp3) (fun j σ' H4 => ∃ (fs' : List F) (as' : List Addr) (v : Option V), σ' = [some (.ref a), some (.ref l), some (.int (i : Nat)), v] ∧ Same H H4 ∧ H4 p = some (.lst (ks.map V.ref)) ∧ FAs H4 x.nxt ks ∧ H4 l = some (.lst (as'.map V.ref)) ∧ FAs H4 fs' as' ∧ fs'.Nodup ∧ ∀ x ∈ fs', x ∈ f.clos)
          ⟨fs, as, v3, rfl, s4.trans s3, hp3, hks, s3 _ _ hl4, hk4.mono s3, hnd, hsub⟩ (fun j _ H4 _ ⟨_, _, _, _, _, z, _⟩ => SqL.of z) ?_ ?_
        · rintro j y σ' H4 hy ⟨fs', as', v, rfl, s5, hp4, hks4, hl5, hk5, hnd5, hsub5⟩
          rw [List.getElem?_map] at hy
          obtain ⟨q, hq, rfl⟩ := Option.map_eq_some_iff.mp hy
          obtain ⟨g, hg, hgq⟩ := Pd.get hks4 hq
          have hgc : g ∈ f.clos := clos_nxt hc x hxc g (List.mem_of_getElem? hg)
          have hgh := clos_ht h3 g hgc
          have hlen5 := Paired.length hk5
          have hl15 : fs'.length ≤ 15 := Nat.le_trans (nodup_le hnd5 hsub5) (clos_len h3)
          walk_at "go"
          refine ⟨g.dat, fs'.map F.dat, hgq.dp, .lst (SqL.of hl5) (FAs.dp hk5), dat_shaped (by omega), dats_shaped fun z hz => by have := clos_ht h3 z (hsub5 z hz); omega, ?_⟩
          rw [any_eqv]
          walk_at "go"
          by_cases hin : g ∈ fs'
          · rw [decide_eq_true hin]
            refine iteF ?_
            walk_at "go"
            exact ⟨fs', as', _, rfl, s5, hp4, hks4, hl5, hk5, hnd5, hsub5⟩
          · rw [decide_eq_false hin]
            refine iteT ?_
            walk_at "go"
            refine g_tyL (SqL.of hl5) ?_
            walk_at "go"
            refine g_app hl5 (lt_line (by rw [List.length_map]; omega)) ?_
            walk_at "go"
            have T6 : SameT H4 (upd H4 l (.lst (as'.map V.ref ++ [V.ref q]))) := SameT.lst hl5
            refine ⟨fs' ++ [g], as' ++ [q], _, rfl, s5.mut zl, by rw [upd_ne npl]; exact hp4, hks4.monoT T6, by rw [upd_same]; simp, Pd.snoc (hgq.monoT T6) (FAs.monoT T6 hk5), nodup_snoc hnd5 hin, fun z hz => ?_⟩
            rcases List.mem_append.mp hz with h | h
            · exact hsub5 z h
            · rw [List.mem_singleton.mp h]
              exact hgc
        · rintro σ' H4 ⟨fs', as', v, rfl, s5, hp4, hks4, hl5, hk5, hnd5, hsub5⟩
          walk_at "go"
          exact ⟨fs', as', _, _, rfl, s5, hl5, hk5, hnd5, hsub5⟩
      · walk_at "go"
        exact ⟨fs, as, _, _, rfl, s4, hl4, hk4, hnd, hsub⟩
    · rintro σ' H' ⟨fs, as, v2, v3, rfl, s4, hl4, hk4, hnd, hsub⟩
      walk_at "go"
      refine k l as H' s4 hl4 ?_
      rw [← Paired.length hk4]
      exact Nat.le_trans (nodup_le hnd hsub) (clos_len h3)
end
end K22

set_option Elab.async false
set_option linter.all false
set_option maxRecDepth 100000
set_option maxHeartbeats 1000000
namespace K22
open PySem PySem.Spec PyProof.Rows L2
local macro_rules | `(tactic| walk_at "go1") => `(tactic| with_reducible first
  | refine g_seq ?_ | refine g_asg ?_ | refine g_name ?_ | refine g_c ?_ | refine g_op ?_ | refine g_cons ?_ | refine g_nil ?_ | refine g_cb ?_ | refine g_call ?_ | refine g_meth ?_
  | refine g_I0 ?_ | refine g_ret ?_ | refine g_retN ?_ | refine g_drop ?_ | refine g_if ?_ | refine g_test ?_ | refine g_tB ?_ | refine g_bool ?_
  | refine g_not ?_ | refine g_and ?_ | refine g_or ?_ | refine g_yes ?_ | refine g_tup ?_ | refine g_lst ?_ | refine g_slice ?_ | refine g_part ?_ | refine g_nopart ?_ | refine g_int ?_ | refine g_fld ?_ | refine g_dget ?_
  | refine g_din ?_ | refine g_dnotin ?_ | refine g_bm0 ?_ | refine g_bm ?_ | refine g_ifexp ?_ | refine g_andv ?_ | refine g_orv ?_ | refine g_notv ?_ | refine g_chain ?_ | refine g_U ?_ | refine g_next ?_ | refine g_brk ?_ | refine g_cont ?_
  | refine g_sfld ?_ | refine g_sdput ?_ | refine g_gtup ?_ | refine g_gcons ?_ | refine g_gnil ?_ | refine g_gsub ?_ | refine g_forT ?_ | refine g_forL ?_ | refine g_forR ?_ | refine g_lcT ?_ | refine g_lcL ?_ | refine g_lcR ?_ | refine g_un ?_ | refine g_sfa ?_ | refine g_ip ?_ | refine g_nin ?_ | refine g_nnot ?_ | refine g_nget ?_ | refine g_nput ?_ | refine g_ndisp ?_ | refine g_addI ?_ | refine g_subI ?_
  | (show Ends.nx _ _ _; refine g_nxm ?_) | (show Ends.rt _ _ _; refine g_rtm ?_) | (show Ends.bk _ _ _; refine g_bkm ?_) | (show Ends.ct _ _ _; refine g_ctm ?_))
local macro_rules | `(tactic| walk_at "go2") => `(tactic| first
  | ((with_reducible show tVar _ _ _ _); refine g_var rfl ?_)
  | ((with_reducible show rEq _ _ _ _); refine g_eq rfl ?_)
  | ((with_reducible show rNe _ _ _ _); refine g_ne rfl ?_)
  | ((with_reducible show tAug _ _ _ _ _ _); refine g_aug rfl ?_))
local macro_rules | `(tactic| walk_at "go") => `(tactic| repeat (first | walk_at "go1" | walk_at "go2"))
section
variable {P : Program} {w : World} {K : PySem.W.Frag} {mg : Str → Option Value} {base : Heap}
/-! ### statements that are drawn -/
theorem SameX.tL {p : Addr} {H H' : Hp} {xs : List V} (s : SameX p H H') (h : H p = some (.lst xs)) : SameT H H' := fun b ys e => s b _ (ne_of e h fun z => nomatch z) e
theorem DrA.t {H H' : Hp} {d : Addr} {ds : List Int} (h : DrA H d ds) (s : SameX d H H') : SameT H H' := s.tL h.at_
theorem DrA.new {H : Hp} {d p : Addr} {ds : List Int} {o : HO} (h : DrA H d ds) (hp : H p = none) : DrA (upd H p o) d ds := ⟨by rw [upd_ne (ne_of_none h.at_ hp)]; exact h.at_, h.bd, h.len⟩
theorem two {r : Int} (h0 : 0 ≤ r) (h1 : r < 2) : r = 0 ∨ r = 1 := by omega
theorem at_ints {xs : List Int} {r : Int} (h0 : 0 ≤ r) (h1 : r < (xs.length : Nat)) : ∃ x, x ∈ xs ∧ atI (xs.map V.int) r = some (.int x) := by
  obtain ⟨j, rfl⟩ := Int.eq_ofNat_of_zero_le h0
  have hj : j < xs.length := by omega
  exact ⟨xs[j], List.getElem_mem hj, atI_nat (by rw [List.getElem?_map, List.getElem?_eq_getElem hj]; rfl)⟩
def spAtom : Sp := fun vs H Q _ => ∃ (d rl : Addr) (ds rs : List Int), vs = [.ref d, .ref rl] ∧ DrA H d ds ∧ H rl = some (.lst (rs.map V.int)) ∧ d ≠ rl ∧
  ∀ p f H' ds', SameX d H H' → DrA H' d ds' → FA H' f p → f.ht = 0 → f.Cl (· ∈ rs) → Q (.ref p) H'
-- slots of _law_atom: 0:_law_draws_here 1:_law_ready 2:_law_kind
abbrev n_law_atom : List Str := ["_law_draws_here", "_law_ready", "_law_kind"]
theorem sc_law_atom : FnScope n_law_atom p_law_atom (defScope s_law_atom) := ⟨rfl, rfl, rfl, by decide +kernel, rfl, by decide +kernel, by decide +kernel⟩
theorem ok_law_atom (T : Top w K mg) : Ok P w K mg base 2 a_law_atom p_law_atom spAtom := by
  have G_law_take := ok_law_take (P := P) (base := base) T
  refine T.F_law_atom.ok sc_law_atom (fun vs H Q E h => ?_) (fun cdv A outer s H vs Q E hr h => ?_)
  · obtain ⟨d, rl, ds, rs, rfl, _⟩ := h
    rfl
  · obtain ⟨d, rl, ds, rs, rfl, hd, hrl, ndr, k⟩ := h
    refine ⟨_, PSs.nox (pss_cons (ps_set (i := 2) sc_law_atom.nd rfl (Or.inl rfl) (pe_call G_law_take (hr.mono (by omega)) rfl T.g_law_take T.F_law_take.kp T.b_law_take .nil pass0 (pa_cons (pv 0) (pa_cons pe_int pa_nil))))
    (pss_cons (ps_if (PW.pt (pw_and (pt_cmpR op_gt (pe_callB (kc_len K) (by rfl) T.z_len bt_len (pa_cons (pv 1) pa_nil)) pe_int (nomark _)) (pw_and1 (pt_cmpR op_lt (pv 2) pe_int (nomark _))))) (pss_one (ps_ret (pe_tup (pa_cons pe_str (pa_cons (pe_ix (ki_list K) (pv 1) (pe_call G_law_take (hr.mono (by omega)) rfl T.g_law_take T.F_law_take.kp T.b_law_take .nil pass0 (pa_cons (pv 0) (pa_cons (pe_callB (kc_len K) (by rfl) T.z_len bt_len (pa_cons (pv 1) pa_nil)) pa_nil))) (fun _ _ => rfl)) pa_nil))))) pss_nil)
    (pss_cons (ps_if (pt_cmpR op_eq (pv 2) pe_int (nomark _)) (pss_one (ps_ret (pe_ix (ki_list K) (pe_lst (pa_cons (pe_tup (pa_cons pe_str pa_nil)) (pa_cons (pe_tup (pa_cons pe_str pa_nil)) pa_nil))) (pe_call G_law_take (hr.mono (by omega)) rfl T.g_law_take T.F_law_take.kp T.b_law_take .nil pass0 (pa_cons (pv 0) (pa_cons pe_int pa_nil))) (fun _ _ => rfl)))) pss_nil)
    (pss_one (ps_ret (pe_tup (pa_cons (pe_ix (ki_list K) (pe_lst (pa_cons pe_str (pa_cons pe_str pa_nil))) (pe_call G_law_take (hr.mono (by omega)) rfl T.g_law_take T.F_law_take.kp T.b_law_take .nil pass0 (pa_cons (pv 0) (pa_cons pe_int pa_nil))) (fun _ _ => rfl)) (pa_cons (pe_call G_law_take (hr.mono (by omega)) rfl T.g_law_take T.F_law_take.kp T.b_law_take .nil pass0 (pa_cons (pv 0) (pa_cons pe_int pa_nil))) pa_nil)))))))), ?_⟩
    refine g_tail2 (fun σ' H' => ∃ (r : Int) (ds1 : List Int), σ' = [some (.ref d), some (.ref rl), some (.int r)] ∧ SameX d H H' ∧ DrA H' d ds1) (fun U hU => ?_) (fun σ' H1 hP => ?_)
    · walk_at "go"
      refine ⟨d, ds, 8, rfl, hd, by decide, fun r H1 ds1 s1 hd1 r0 r8 => ?_⟩
      have hrl1 := s1 _ _ ndr.symm hrl
      walk_at "go"
      refine g_len (.inl (SqL.of hrl1)) ?_
      walk_at "go"
      rw [List.length_map]
      refine iteB rfl (fun hc => ?_) (fun hc => ?_)
      · have hc := of_decide_eq_true hc
        walk_at "go"
        refine iteB rfl (fun hc5 => ?_) (fun hc5 => ?_)
        · walk_at "go"
          refine g_len (.inl (SqL.of hrl1)) ?_
          walk_at "go"
          rw [List.length_map]
          refine ⟨d, ds1, (rs.length : Nat), rfl, hd1, by omega, fun r2 H2 ds2 s2 hd2 q0 q1 => ?_⟩
          obtain ⟨x, hx, ex⟩ := at_ints q0 q1
          walk_at "go"
          refine g_ixL (SqL.of (s2 _ _ ndr.symm hrl1)) ex ?_
          walk_at "go"
          refine g_newT 2 rfl (by decide) fun p hp => ?_
          walk_at "go"
          exact k p (.var x) _ ds2 ((s1.trans s2).new hp) (hd2.new hp) upd_same rfl hx
        · walk_at "go"
          exact hU _ _ ⟨r, ds1, rfl, s1, hd1⟩
      · walk_at "go"
        refine iteF ?_
        walk_at "go"
        exact hU _ _ ⟨r, ds1, rfl, s1, hd1⟩
    · obtain ⟨r, ds1, rfl, s1, hd1⟩ := hP
      walk_at "go"
      rw [int_dec]
      refine iteB rfl (fun hc => ?_) (fun hc => ?_)
      · walk_at "go"
        refine g_newT 1 rfl (by decide) fun p1 hp1 => ?_
        walk_at "go"
        refine g_newT 1 rfl (by decide) fun p2 hp2 => ?_
        walk_at "go"
        refine g_newL 2 rfl (by decide) fun l hl => ?_
        walk_at "go"
        have sm := ((same_new (o := .tup [.str "true"]) hp1).new (o := .tup [.str "false"]) hp2).new (o := .lst [.ref p1, .ref p2]) hl
        have f1 : upd (upd (upd H1 p1 (.tup [.str "true"])) p2 (.tup [.str "false"])) l (.lst [.ref p1, .ref p2]) p1 = some (.tup [.str "true"]) := ((same_new hp2).new hl) _ _ upd_same
        have f2 : upd (upd (upd H1 p1 (.tup [.str "true"])) p2 (.tup [.str "false"])) l (.lst [.ref p1, .ref p2]) p2 = some (.tup [.str "false"]) := (same_new hl) _ _ upd_same
        have f3 : upd (upd (upd H1 p1 (.tup [.str "true"])) p2 (.tup [.str "false"])) l (.lst [.ref p1, .ref p2]) l = some (.lst [.ref p1, .ref p2]) := upd_same
        have hd3 : DrA (upd (upd (upd H1 p1 (.tup [.str "true"])) p2 (.tup [.str "false"])) l (.lst [.ref p1, .ref p2])) d ds1 := ((hd1.new hp1).new hp2).new hl
        generalize upd (upd (upd H1 p1 (.tup [.str "true"])) p2 (.tup [.str "false"])) l (.lst [.ref p1, .ref p2]) = H3 at sm f1 f2 f3 hd3 ⊢
        refine ⟨d, ds1, 2, rfl, hd3, by decide, fun r2 H4 ds2 s4 hd4 q0 q1 => ?_⟩
        have ndl : l ≠ d := fun e => by rw [e, hd1.new hp1 |>.new hp2 |>.at_] at hl; cases hl
        rcases two q0 q1 with rfl | rfl
        · refine g_ixL (SqL.of (s4 _ _ ndl f3)) at0 ?_
          exact k p1 (.const true) H4 ds2 ((s1.trans (sm.x d)).trans s4) hd4 (hd3.t s4 _ _ f1) rfl trivial
        · refine g_ixL (SqL.of (s4 _ _ ndl f3)) at1 ?_
          exact k p2 (.const false) H4 ds2 ((s1.trans (sm.x d)).trans s4) hd4 (hd3.t s4 _ _ f2) rfl trivial
      · walk_at "go"
        refine g_newL 2 rfl (by decide) fun l hl => ?_
        walk_at "go"
        have hd3 := hd1.new (o := .lst [.str "has", .str "lacks"]) hl
        have ndl : l ≠ d := fun e => by rw [e, hd1.at_] at hl; cases hl
        refine ⟨d, ds1, 2, rfl, hd3, by decide, fun r2 H4 ds2 s4 hd4 q0 q1 => ?_⟩
        have e3 := s4 _ _ ndl (upd_same (H := H1) (a := l) (o := .lst [.str "has", .str "lacks"]))
        have s14 := (s1.new hl).trans s4
        have fin : ∀ b : Bool, tCall spTake [] E0 (tCons (tVar 0) (tCons (tC (.int 2)) tNil)) [some (.ref d), some (.ref rl), some (.int r)] H4 (fun x H5 => rNewT [.str (kP b), x] H5 fun v H6 => Q v H6) := fun b => by
          walk_at "go"
          refine ⟨d, ds2, 2, rfl, hd4, by decide, fun r3 H5 ds3 s5 hd5 _ _ => ?_⟩
          refine g_newT 2 rfl (by decide) fun p hp => ?_
          exact k p (.fact b r3) _ ds3 ((s14.trans s5).new hp) (hd5.new hp) upd_same rfl trivial
        rcases two q0 q1 with rfl | rfl
        · refine g_ixL (SqL.of e3) at0 ?_
          exact fin true
        · refine g_ixL (SqL.of e3) at1 ?_
          exact fin false
end
end K22

set_option Elab.async false
set_option linter.all false
set_option maxRecDepth 100000
set_option maxHeartbeats 1000000
namespace K22
open PySem PySem.Spec PyProof.Rows L2
local macro_rules | `(tactic| walk_at "go1") => `(tactic| with_reducible first
  | refine g_seq ?_ | refine g_asg ?_ | refine g_name ?_ | refine g_c ?_ | refine g_op ?_ | refine g_cons ?_ | refine g_nil ?_ | refine g_cb ?_ | refine g_call ?_ | refine g_meth ?_
  | refine g_I0 ?_ | refine g_ret ?_ | refine g_retN ?_ | refine g_drop ?_ | refine g_if ?_ | refine g_test ?_ | refine g_tB ?_ | refine g_bool ?_
  | refine g_not ?_ | refine g_and ?_ | refine g_or ?_ | refine g_yes ?_ | refine g_tup ?_ | refine g_lst ?_ | refine g_slice ?_ | refine g_part ?_ | refine g_nopart ?_ | refine g_int ?_ | refine g_fld ?_ | refine g_dget ?_
  | refine g_din ?_ | refine g_dnotin ?_ | refine g_bm0 ?_ | refine g_bm ?_ | refine g_ifexp ?_ | refine g_andv ?_ | refine g_orv ?_ | refine g_notv ?_ | refine g_chain ?_ | refine g_U ?_ | refine g_next ?_ | refine g_brk ?_ | refine g_cont ?_
  | refine g_sfld ?_ | refine g_sdput ?_ | refine g_gtup ?_ | refine g_gcons ?_ | refine g_gnil ?_ | refine g_gsub ?_ | refine g_forT ?_ | refine g_forL ?_ | refine g_forR ?_ | refine g_lcT ?_ | refine g_lcL ?_ | refine g_lcR ?_ | refine g_un ?_ | refine g_sfa ?_ | refine g_ip ?_ | refine g_nin ?_ | refine g_nnot ?_ | refine g_nget ?_ | refine g_nput ?_ | refine g_ndisp ?_ | refine g_addI ?_ | refine g_subI ?_
  | (show Ends.nx _ _ _; refine g_nxm ?_) | (show Ends.rt _ _ _; refine g_rtm ?_) | (show Ends.bk _ _ _; refine g_bkm ?_) | (show Ends.ct _ _ _; refine g_ctm ?_))
local macro_rules | `(tactic| walk_at "go2") => `(tactic| first
  | ((with_reducible show tVar _ _ _ _); refine g_var rfl ?_)
  | ((with_reducible show rEq _ _ _ _); refine g_eq rfl ?_)
  | ((with_reducible show rNe _ _ _ _); refine g_ne rfl ?_)
  | ((with_reducible show tAug _ _ _ _ _ _); refine g_aug rfl ?_))
local macro_rules | `(tactic| walk_at "go") => `(tactic| repeat (first | walk_at "go1" | walk_at "go2"))
section
variable {P : Program} {w : World} {K : PySem.W.Frag} {mg : Str → Option Value} {base : Heap}
section
variable {σ : L2.St} {H : Hp} {Q : VK} {tt : TT} {te : TE} {vs : List Nat} {i : Nat}
theorem g_filtI {l : Addr} {ms : List Int} (hl : H l = some (.lst (ms.map V.int))) (hn : ms.length ≤ 51200) (p : Int → Bool) (hw : ∀ y, wipe ((wipe σ vs).set i (some y)) vs = wipe σ vs) (hi : ∀ y : V, ((wipe σ vs).set i (some y))[i]? = some (some y))
    (ht : ∀ x ∈ ms, ∀ H', Same H H' → ∀ Qb : Bool → Hp → Prop, Qb (p x) H' → tt ((wipe σ vs).set i (some (V.int x))) H' Qb) (k : ∀ E H', H E = none → Same H H' → H' E = some (.lst ((ms.filter p).map V.int)) → Q (.ref E) H') : rLcL K (gName i) tt (tVar i) vs σ (.ref l) H Q := by
  refine g_rlcL (SqL.of hl) fun E hE => ⟨fun j H' => Same H H' ∧ H' E = some (.lst (((ms.take j).filter p).map V.int)), ⟨same_new hE, upd_same⟩, fun j H' _ ⟨s0, _⟩ => SqL.of (s0 _ _ hl), fun j y H' hy ⟨s0, hE0⟩ => ?_, fun H' ⟨s0, hE0⟩ => ?_⟩
  · rw [List.getElem?_map] at hy
    obtain ⟨t, h, rfl⟩ := Option.map_eq_some_iff.mp hy
    refine g_turn (hw _) (ht t (List.mem_of_getElem? h) H' s0 _ ?_)
    cases e : p t with
    | false =>
      refine iteF ⟨s0, ?_⟩
      rw [take_snoc h, List.filter_append, List.filter_cons_of_neg (by rw [e]; exact Bool.false_ne_true), List.filter_nil, List.append_nil]
      exact hE0
    | true =>
      refine iteT (g_var (hi _) ?_)
      refine g_add hE0 (lt_line (by rw [List.length_map]; have := List.length_filter_le p (ms.take j); rw [List.length_take] at this; omega)) ⟨s0.mut hE, ?_⟩
      rw [upd_same, take_snoc h, List.filter_append, List.filter_cons_of_pos e, List.filter_nil, List.map_append]
      rfl
  · rw [List.length_map, List.take_length] at hE0
    exact k E H' hE s0 hE0
end
/-! ### _law_statement -/
theorem at_pick {x y : V} {r : Int} (h0 : 0 ≤ r) (h1 : r < 2) : atI [x, y] r = some x ∨ atI [x, y] r = some y := by
  rcases two h0 h1 with rfl | rfl
  · exact .inl at0
  · exact .inr at1
theorem pick_M {r : Int} (h0 : 0 ≤ r) (h1 : r < 2) : ∃ b, atI [V.str "some", V.str "all"] r = some (V.str (kM b)) := (at_pick h0 h1).elim (fun e => ⟨false, e⟩) fun e => ⟨true, e⟩
theorem pick_X {r : Int} (h0 : 0 ≤ r) (h1 : r < 2) : ∃ b, atI [V.str "least", V.str "most"] r = some (V.str (kX b)) := (at_pick h0 h1).elim (fun e => ⟨false, e⟩) fun e => ⟨true, e⟩
theorem pick_B (c : Bool) : ∃ b, atI [V.str "and", V.str "or"] (if c = true then 1 else 0) = some (V.str (kB b)) := by
  cases c with
  | true => exact ⟨false, at1⟩
  | false => exact ⟨true, at0⟩
def spStm (n : Nat) : Sp := fun vs H Q _ => ∃ (d wl rl : Addr) (ds ws rs : List Int) (D : Nat) (lo : Bool), vs = [.ref d, .int (D : Nat), .ref wl, .ref rl, .bl lo] ∧ DrA H d ds ∧ H wl = some (.lst (ws.map V.int)) ∧ H rl = some (.lst (rs.map V.int)) ∧ d ≠ wl ∧ d ≠ rl ∧ ws.length + rs.length + D ≤ 1000 ∧ D < n ∧
  ∀ p f H' ds', SameX d H H' → DrA H' d ds' → FA H' f p → f.ht ≤ D → f.Cl (fun x => x ∈ ws ∨ x ∈ rs) → Q (.ref p) H'
-- slots of _law_statement: 0:_law_draws_here 1:_law_depth 2:_law_waiting 3:_law_ready 4:_law_loose 5:_law_kind 6:_law_first 7:_law_label 8:_law_variable* 9:_law_later 10:_law_other 11:_law_usable
abbrev n_law_statement : List Str := ["_law_draws_here", "_law_depth", "_law_waiting", "_law_ready", "_law_loose", "_law_kind", "_law_first", "_law_label", "_law_variable", "_law_later", "_law_other", "_law_usable"]
theorem sc_law_statement : FnScope n_law_statement p_law_statement (defScope s_law_statement) := ⟨rfl, rfl, rfl, by decide +kernel, rfl, by decide +kernel, by decide +kernel⟩
theorem ok_law_statement (T : Top w K mg) (n : Nat) : Ok P w K mg base (n + 2) a_law_statement p_law_statement (spStm n) := by
  induction n with
  | zero => exact ok_none fun vs H Q E ⟨_, _, _, _, _, _, _, _, _, _, _, _, _, _, _, h, _⟩ => absurd h (Nat.not_lt_zero _)
  | succ n G_law_statement =>
    have G_law_take := ok_law_take (P := P) (base := base) T
    have G_law_atom := ok_law_atom (P := P) (base := base) T
    refine T.F_law_statement.ok sc_law_statement (fun vs H Q E h => ?_) (fun cdv A outer s H vs Q E hr h => ?_)
    · obtain ⟨_, _, _, _, _, _, _, _, rfl, _⟩ := h
      rfl
    · obtain ⟨d, wl, rl, ds, ws, rs, D, lo, rfl, hd, hwl, hrl, nw, nr, hlen, hn, k⟩ := h
      refine ⟨_, PSs.nox (pss_cons (ps_set (i := 5) sc_law_statement.nd rfl (Or.inl rfl) (pe_call G_law_take (hr.mono (by omega)) rfl T.g_law_take T.F_law_take.kp T.b_law_take .nil pass0 (pa_cons (pv 0) (pa_cons pe_int pa_nil))))
    (pss_cons (ps_if (PW.pt (pw_or (pt_cmpR op_eq (pv 1) pe_int (nomark _)) (pw_or1 (pt_cmpR op_eq (pv 5) pe_int (nomark _))))) (pss_one (ps_ret (pe_call G_law_atom (hr.mono (by omega)) rfl T.g_law_atom T.F_law_atom.kp T.b_law_atom .nil pass0 (pa_cons (pv 0) (pa_cons (pv 3) pa_nil))))) pss_nil)
    (pss_cons (ps_if (pt_cmpR op_lt (pv 5) pe_int (nomark _)) (pss_cons (ps_set (i := 6) sc_law_statement.nd rfl (Or.inl rfl) (pe_call G_law_statement (hr.mono (by omega)) rfl T.g_law_statement T.F_law_statement.kp T.b_law_statement .nil pass0 (pa_cons (pv 0) (pa_cons (pe_op op_sub (pv 1) pe_int) (pa_cons (pv 2) (pa_cons (pv 3) (pa_cons (pv 4) pa_nil)))))))
      (pss_one (ps_ret (pe_tup (pa_cons (pe_ix (ki_list K) (pe_lst (pa_cons pe_str (pa_cons pe_str pa_nil))) (pe_callTy (call_int1) (by rfl) T.z_int bt_int (pa_cons (pe_cmpR op_gt (pv 5) pe_int (nomark _)) pa_nil)) (fun _ _ => rfl)) (pa_cons (pv 6) (pa_cons (pe_call G_law_statement (hr.mono (by omega)) rfl T.g_law_statement T.F_law_statement.kp T.b_law_statement .nil pass0 (pa_cons (pv 0) (pa_cons (pe_op op_sub (pv 1) pe_int) (pa_cons (pv 2) (pa_cons (pv 3) (pa_cons (pv 4) pa_nil)))))) pa_nil))))))) pss_nil)
    (pss_cons (ps_if (pt_cmpR op_lt (pv 5) pe_int (nomark _)) (pss_cons (ps_set (i := 7) sc_law_statement.nd rfl (Or.inl rfl) (pe_op op_fdiv (pe_call G_law_take (hr.mono (by omega)) rfl T.g_law_take T.F_law_take.kp T.b_law_take .nil pass0 (pa_cons (pv 0) (pa_cons pe_int pa_nil))) pe_int))
      (pss_one (ps_ret (pe_tup (pa_cons (pe_ix (ki_list K) (pe_lst (pa_cons pe_str (pa_cons pe_str pa_nil))) (pe_call G_law_take (hr.mono (by omega)) rfl T.g_law_take T.F_law_take.kp T.b_law_take .nil pass0 (pa_cons (pv 0) (pa_cons pe_int pa_nil))) (fun _ _ => rfl)) (pa_cons (pv 7) (pa_cons (pe_call G_law_statement (hr.mono (by omega)) rfl T.g_law_statement T.F_law_statement.kp T.b_law_statement .nil pass0 (pa_cons (pv 0) (pa_cons (pe_op op_sub (pv 1) pe_int) (pa_cons (pe_lst pa_nil) (pa_cons (pe_op op_cat (pv 3) (pv 2)) (pa_cons (pv 4) pa_nil)))))) pa_nil))))))) pss_nil)
    (pss_cons (ps_set (i := 8) sc_law_statement.nd rfl (Or.inr rfl) (pe_ix (ki_list K) (pe_lst (pa_cons pe_int (pa_cons pe_int (pa_cons pe_int (pa_cons pe_int pa_nil))))) (pe_call G_law_take (hr.mono (by omega)) rfl T.g_law_take T.F_law_take.kp T.b_law_take .nil pass0 (pa_cons (pv 0) (pa_cons pe_int pa_nil))) (fun _ _ => rfl)))
    (pss_cons (ps_setLc (i := 9) (own := [("_law_other", 10)]) (g := gName 10) rfl sc_law_statement.nd rfl rfl (sw_true rfl rfl rfl (by decide +kernel)) (kpi_list K (pv 2)) (blkOk_by (N := n_law_statement) (sc := (defScope s_law_statement)) (by decide +kernel)) (fun _ _ _ _ _ => (pg_name (i := 10) sc_law_statement.nd rfl (Or.inl rfl))) (fun _ _ _ _ _ => (pts_one (pt_cmpR op_ne (pv 10) (pv 8) (nomark _)))) (fun _ _ _ _ _ => (pv 10)))
    (pss_cons (ps_setLc (i := 11) (own := [("_law_other", 10)]) (g := gName 10) rfl sc_law_statement.nd rfl rfl (sw_true rfl rfl rfl (by decide +kernel)) (kpi_list K (pv 3)) (blkOk_by (N := n_law_statement) (sc := (defScope s_law_statement)) (by decide +kernel)) (fun _ _ _ _ _ => (pg_name (i := 10) sc_law_statement.nd rfl (Or.inl rfl))) (fun _ _ _ _ _ => (pts_one (pt_cmpR op_ne (pv 10) (pv 8) (nomark _)))) (fun _ _ _ _ _ => (pv 10)))
    (pss_cons (ps_if (PW.pt (pw_and (pt_val (pv 4)) (pw_and1 (pt_cmpR op_eq (pe_call G_law_take (hr.mono (by omega)) rfl T.g_law_take T.F_law_take.kp T.b_law_take .nil pass0 (pa_cons (pv 0) (pa_cons pe_int pa_nil))) pe_int (nomark _))))) (pss_one (ps_set (i := 11) sc_law_statement.nd rfl (Or.inl rfl) (pe_op op_cat (pv 11) (pe_lst (pa_cons (pv 8) pa_nil))))) (pss_one (ps_set (i := 9) sc_law_statement.nd rfl (Or.inl rfl) (pe_op op_cat (pv 9) (pe_lst (pa_cons (pv 8) pa_nil))))))
    (pss_one (ps_ret (pe_tup (pa_cons (pe_ix (ki_list K) (pe_lst (pa_cons pe_str (pa_cons pe_str pa_nil))) (pe_call G_law_take (hr.mono (by omega)) rfl T.g_law_take T.F_law_take.kp T.b_law_take .nil pass0 (pa_cons (pv 0) (pa_cons pe_int pa_nil))) (fun _ _ => rfl)) (pa_cons (pv 8) (pa_cons (pe_call G_law_statement (hr.mono (by omega)) rfl T.g_law_statement T.F_law_statement.kp T.b_law_statement .nil pass0 (pa_cons (pv 0) (pa_cons (pe_op op_sub (pv 1) pe_int) (pa_cons (pv 9) (pa_cons (pv 11) (pa_cons (pv 4) pa_nil)))))) pa_nil)))))))))))))), ?_⟩
      refine g_tail2 (fun σ' H' => ∃ (r : Int) (ds1 : List Int) (D' : Nat), D = D' + 1 ∧ σ' = [some (.ref d), some (.int (D : Nat)), some (.ref wl), some (.ref rl), some (.bl lo), some (.int r), none, none, none, none, none, none] ∧ SameX d H H' ∧ DrA H' d ds1) (fun U hU => ?_) (fun σ' H1 hP => ?_)
      · walk_at "go"
        refine ⟨d, ds, 12, rfl, hd, by decide, fun r H1 ds1 s1 hd1 r0 r8 => ?_⟩
        have hrl1 := s1 _ _ nr.symm hrl
        walk_at "go"
        rw [show decide (V.int ((D : Nat) : Int) = V.int 0) = decide (D = 0) from nat_dec _ 0]
        by_cases hD : D = 0
        · rw [decide_eq_true hD]
          refine iteT ?_
          refine iteT ?_
          walk_at "go"
          exact ⟨d, rl, ds1, rs, rfl, hd1, hrl1, nr, fun p f H2 ds2 s2 hd2 hf hh hc => k p f H2 ds2 (s1.trans s2) hd2 hf (by omega) (hc.imp fun _ z => .inr z)⟩
        · rw [decide_eq_false hD]
          refine iteF ?_
          walk_at "go"
          rw [int_dec]
          by_cases hr0 : r = 0
          · rw [decide_eq_true hr0]
            refine iteT ?_
            walk_at "go"
            exact ⟨d, rl, ds1, rs, rfl, hd1, hrl1, nr, fun p f H2 ds2 s2 hd2 hf hh hc => k p f H2 ds2 (s1.trans s2) hd2 hf (by omega) (hc.imp fun _ z => .inr z)⟩
          · rw [decide_eq_false hr0]
            refine iteF ?_
            walk_at "go"
            exact hU _ _ ⟨r, ds1, D - 1, by omega, rfl, s1, hd1⟩
      · obtain ⟨r, ds1, D', rfl, rfl, s1, hd1⟩ := hP
        have hD : (((D' + 1 : Nat) : Int) - 1) = (D' : Nat) := by omega
        have hrl1 := s1 _ _ nr.symm hrl
        have hwl1 := s1 _ _ nw.symm hwl
        walk_at "go"
        refine iteB rfl (fun hc => ?_) (fun hc => ?_)
        · walk_at "go"
          refine ⟨d, wl, rl, ds1, ws, rs, D', lo, by rw [hD], hd1, hwl1, hrl1, nw, nr, by omega, by omega, fun p1 f1 H2 ds2 s2 hd2 hf1 hh1 hc1 => ?_⟩
          walk_at "go"
          refine g_newL 2 rfl (by decide) fun l hl => ?_
          have sn := same_new (o := .lst [.str "and", .str "or"]) hl
          have hd3 := hd2.new (o := .lst [.str "and", .str "or"]) hl
          walk_at "go"
          refine .inr ⟨_, rfl, ?_⟩
          obtain ⟨b, eb⟩ := pick_B (decide (r > 2))
          refine g_ixL (SqL.of upd_same) eb ?_
          walk_at "go"
          have s3 : SameX d H (upd H2 l (.lst [.str "and", .str "or"])) := (s1.trans s2).new hl
          have hf3 := hf1.mono sn
          generalize upd H2 l (.lst [.str "and", .str "or"]) = H3 at hd3 s3 hf3 ⊢
          refine ⟨d, wl, rl, ds2, ws, rs, D', lo, by rw [hD], hd3, s3 _ _ nw.symm hwl, s3 _ _ nr.symm hrl, nw, nr, by omega, by omega, fun p2 f2 H4 ds4 s4 hd4 hf2 hh2 hc2 => ?_⟩
          refine g_newT 3 rfl (by decide) fun p hp => ?_
          walk_at "go"
          refine k p (.bin b f1 f2) _ ds4 ((s3.trans s4).new hp) (hd4.new hp) ⟨p1, p2, upd_same, (hf3.monoT (hd3.t s4)).mono (same_new hp), hf2.mono (same_new hp)⟩ ?_ ⟨hc1, hc2⟩
          show max f1.ht f2.ht + 1 ≤ D' + 1
          omega
        · walk_at "go"
          refine iteB rfl (fun hc => ?_) (fun hc => ?_)
          · walk_at "go"
            refine ⟨d, ds1, 3, rfl, hd1, by decide, fun r2 H2 ds2 s2 hd2 q0 q1 => ?_⟩
            walk_at "go"
            refine g_I (show CDiv r2 2 from ⟨by decide, by decide⟩) ?_
            walk_at "go"
            refine g_newL 2 rfl (by decide) fun l hl => ?_
            have hd3 := hd2.new (o := .lst [.str "some", .str "all"]) hl
            have ndl : l ≠ d := fun e => by rw [e, hd2.at_] at hl; cases hl
            have s3 : SameX d H (upd H2 l (.lst [.str "some", .str "all"])) := (s1.trans s2).new hl
            walk_at "go"
            refine ⟨d, ds2, 2, rfl, hd3, by decide, fun r3 H4 ds4 s4 hd4 q2 q3 => ?_⟩
            obtain ⟨b, eb⟩ := pick_M q2 q3
            refine g_ixL (SqL.of (s4 _ _ ndl upd_same)) eb ?_
            walk_at "go"
            refine g_newL 0 rfl (by decide) fun e he => ?_
            have s5 : SameX d H (upd H4 e (.lst [])) := (s3.trans s4).new he
            have hd5 := hd4.new (o := .lst []) he
            have nde : d ≠ e := fun z => by rw [← z, hd4.at_] at he; cases he
            walk_at "go"
            refine ⟨rl, wl, _, _, rfl, rfl, s5 _ _ nr.symm hrl, s5 _ _ nw.symm hwl, le_line (by rw [List.length_map, List.length_map]; omega), fun c hc' => ?_⟩
            have s6 := s5.new (o := .lst (rs.map V.int ++ ws.map V.int)) hc'
            have hd6 := hd5.new (o := .lst (rs.map V.int ++ ws.map V.int)) hc'
            have ndc : d ≠ c := fun z => by rw [← z, hd5.at_] at hc'; cases hc'
            walk_at "go"
            refine ⟨d, e, c, ds4, [], rs ++ ws, D', lo, by rw [hD], hd6, (same_new hc') _ _ upd_same, by rw [upd_same, List.map_append], nde, ndc, by rw [List.length_append, List.length_nil]; omega, by omega, fun p1 f1 H7 ds7 s7 hd7 hf7 hh7 hc7 => ?_⟩
            refine g_newT 3 rfl (by decide) fun p hp => ?_
            walk_at "go"
            refine k p (.mod b (r2 / 2) f1) _ ds7 ((s6.trans s7).new hp) (hd7.new hp) ⟨p1, upd_same, hf7.mono (same_new hp)⟩ ?_ ?_
            · show f1.ht + 1 ≤ D' + 1
              omega
            · refine F.Cl.imp (f := f1) hc7 fun x hx => ?_
              rcases hx with hx | hx
              · cases hx
              · exact (List.mem_append.mp hx).symm
          · walk_at "go"
            refine g_newL 4 rfl (by decide) fun l hl => ?_
            have hd2 := hd1.new (o := .lst [.int 0, .int 1, .int 2, .int 7]) hl
            have ndl : l ≠ d := fun e => by rw [e, hd1.at_] at hl; cases hl
            have s2 : SameX d H (upd H1 l (.lst [.int 0, .int 1, .int 2, .int 7])) := s1.new hl
            walk_at "go"
            refine ⟨d, ds1, 4, rfl, hd2, by decide, fun r3 H3 ds3 s3 hd3 q2 q3 => ?_⟩
            obtain ⟨v, _, ev⟩ := at_ints (xs := [0, 1, 2, 7]) q2 q3
            refine g_ixL (SqL.of (s3 _ _ ndl upd_same)) ev ?_
            have s3 := s2.trans s3
            walk_at "go"
            refine g_filtI (s3 _ _ nw.symm hwl) (by omega) (fun x => !decide (x = v)) (fun _ => rfl) (fun _ => rfl) (fun x hx H' s0 Qb q => ?_) fun lw H4 zw s4 hlw => ?_
            · walk_at "go"
              rw [int_dec]
              exact q
            have hd4 : DrA H4 d ds3 := ⟨s4 _ _ hd3.at_, hd3.bd, hd3.len⟩
            have nlw : d ≠ lw := ne_of_none hd3.at_ zw
            have s4 := s3.trans (s4.x d)
            walk_at "go"
            refine g_filtI (s4 _ _ nr.symm hrl) (by omega) (fun x => !decide (x = v)) (fun _ => rfl) (fun _ => rfl) (fun x hx H' s0 Qb q => ?_) fun lr H5 zr s5 hlr => ?_
            · walk_at "go"
              rw [int_dec]
              exact q
            have hd5 : DrA H5 d ds3 := ⟨s5 _ _ hd4.at_, hd4.bd, hd4.len⟩
            have nlr : d ≠ lr := ne_of_none hd4.at_ zr
            have hlw := s5 _ _ hlw
            have s5 := s4.trans (s5.x d)
            have fl1 := List.length_filter_le (fun x => !decide (x = v)) ws
            have fl2 := List.length_filter_le (fun x => !decide (x = v)) rs
            have mem1 : ∀ x, x ∈ ws.filter (fun x => !decide (x = v)) → x ∈ ws := fun x h => (List.mem_filter.mp h).1
            have mem2 : ∀ x, x ∈ rs.filter (fun x => !decide (x = v)) → x ∈ rs := fun x h => (List.mem_filter.mp h).1
            generalize ws.filter (fun x => !decide (x = v)) = ws1 at hlw fl1 mem1
            generalize rs.filter (fun x => !decide (x = v)) = rs1 at hlr fl2 mem2
            refine g_name (g_nxm ?_)
            refine g_tail1 (fun σ' H' => ∃ (lw lr : Addr) (ws' rs' ds6 : List Int), σ' = [some (.ref d), some (.int ((D' + 1 : Nat) : Int)), some (.ref wl), some (.ref rl), some (.bl lo), some (.int r), none, none, some (.int v), some (.ref lw), none, some (.ref lr)] ∧ SameX d H H' ∧ DrA H' d ds6 ∧
              H' lw = some (.lst (ws'.map V.int)) ∧ H' lr = some (.lst (rs'.map V.int)) ∧ d ≠ lw ∧ d ≠ lr ∧ ws'.length + rs'.length ≤ ws.length + rs.length + 1 ∧ ∀ x, x ∈ ws' ∨ x ∈ rs' → x = v ∨ x ∈ ws ∨ x ∈ rs) (fun U hU => ?_) (fun σ' H6 hP => ?_)
            · walk_at "go"
              cases lo with
              | false =>
                refine iteF ?_
                refine iteF ?_
                walk_at "go"
                refine g_newL 1 rfl (by decide) fun e he => ?_
                have s7 := s5.new (o := .lst [.int v]) he
                have hd7 := hd5.new (o := .lst [.int v]) he
                walk_at "go"
                refine ⟨lw, e, ws1.map V.int, [.int v], rfl, rfl, (same_new he) _ _ hlw, upd_same, le_line (by rw [List.length_map, List.length_singleton]; omega), fun c hc' => ?_⟩
                have s8 := s7.new (o := .lst (ws1.map V.int ++ [.int v])) hc'
                have hd8 := hd7.new (o := .lst (ws1.map V.int ++ [.int v])) hc'
                have ndc : d ≠ c := fun z => by rw [← z, hd7.at_] at hc'; cases hc'
                walk_at "go"
                exact hU _ _ ⟨c, lr, ws1 ++ [v], rs1, _, rfl, s8, hd8, by rw [upd_same, List.map_append]; rfl, ((same_new he).new hc') _ _ hlr, ndc, nlr, by rw [List.length_append, List.length_singleton]; omega, fun x hx => hx.elim (fun h => (List.mem_append.mp h).elim (fun h => .inr (.inl (mem1 x h))) fun h => .inl (List.mem_singleton.mp h)) fun h => .inr (.inr (mem2 x h))⟩
              | true =>
                refine iteT ?_
                walk_at "go"
                refine ⟨d, ds3, 3, rfl, hd5, by decide, fun r3 H6 ds6 s6 hd6 q4 q5 => ?_⟩
                have s56 := s5.trans s6
                have hlw6 := s6 _ _ nlw.symm hlw
                have hlr6 := s6 _ _ nlr.symm hlr
                walk_at "go"
                rw [int_dec]
                refine iteB rfl (fun hc => ?_) (fun hc => ?_)
                · walk_at "go"
                  refine g_newL 1 rfl (by decide) fun e he => ?_
                  have s7 := s56.new (o := .lst [.int v]) he
                  have hd7 := hd6.new (o := .lst [.int v]) he
                  walk_at "go"
                  refine ⟨lr, e, rs1.map V.int, [.int v], rfl, rfl, (same_new he) _ _ hlr6, upd_same, le_line (by rw [List.length_map, List.length_singleton]; omega), fun c hc' => ?_⟩
                  have s8 := s7.new (o := .lst (rs1.map V.int ++ [.int v])) hc'
                  have hd8 := hd7.new (o := .lst (rs1.map V.int ++ [.int v])) hc'
                  have ndc : d ≠ c := fun z => by rw [← z, hd7.at_] at hc'; cases hc'
                  walk_at "go"
                  exact hU _ _ ⟨lw, c, ws1, rs1 ++ [v], _, rfl, s8, hd8, ((same_new he).new hc') _ _ hlw6, by rw [upd_same, List.map_append]; rfl, nlw, ndc, by rw [List.length_append, List.length_singleton]; omega, fun x hx => hx.elim (fun h => .inr (.inl (mem1 x h))) fun h => (List.mem_append.mp h).elim (fun h => .inr (.inr (mem2 x h))) fun h => .inl (List.mem_singleton.mp h)⟩
                · walk_at "go"
                  refine g_newL 1 rfl (by decide) fun e he => ?_
                  have s7 := s56.new (o := .lst [.int v]) he
                  have hd7 := hd6.new (o := .lst [.int v]) he
                  walk_at "go"
                  refine ⟨lw, e, ws1.map V.int, [.int v], rfl, rfl, (same_new he) _ _ hlw6, upd_same, le_line (by rw [List.length_map, List.length_singleton]; omega), fun c hc' => ?_⟩
                  have s8 := s7.new (o := .lst (ws1.map V.int ++ [.int v])) hc'
                  have hd8 := hd7.new (o := .lst (ws1.map V.int ++ [.int v])) hc'
                  have ndc : d ≠ c := fun z => by rw [← z, hd7.at_] at hc'; cases hc'
                  walk_at "go"
                  exact hU _ _ ⟨c, lr, ws1 ++ [v], rs1, _, rfl, s8, hd8, by rw [upd_same, List.map_append]; rfl, ((same_new he).new hc') _ _ hlr6, ndc, nlr, by rw [List.length_append, List.length_singleton]; omega, fun x hx => hx.elim (fun h => (List.mem_append.mp h).elim (fun h => .inr (.inl (mem1 x h))) fun h => .inl (List.mem_singleton.mp h)) fun h => .inr (.inr (mem2 x h))⟩
            · obtain ⟨lw, lr, ws', rs', ds6, rfl, s6, hd6, hlw6, hlr6, nlw6, nlr6, hl6, hm6⟩ := hP
              walk_at "go"
              refine g_newL 2 rfl (by decide) fun l2 hl2 => ?_
              have hd7 := hd6.new (o := .lst [.str "least", .str "most"]) hl2
              have nd2 : l2 ≠ d := fun e => by rw [e, hd6.at_] at hl2; cases hl2
              have s7 : SameX d H6 (upd H6 l2 (.lst [.str "least", .str "most"])) := (same_new hl2).x d
              walk_at "go"
              refine ⟨d, ds6, 2, rfl, hd7, by decide, fun r3 H8 ds8 s8 hd8 q2 q3 => ?_⟩
              obtain ⟨b, eb⟩ := pick_X q2 q3
              refine g_ixL (SqL.of (s8 _ _ nd2 upd_same)) eb ?_
              have s68 := s7.trans s8
              walk_at "go"
              refine ⟨d, lw, lr, ds8, ws', rs', D', lo, by rw [hD], hd8, s68 _ _ nlw6.symm hlw6, s68 _ _ nlr6.symm hlr6, nlw6, nlr6, by omega, by omega, fun p1 f1 H9 ds9 s9 hd9 hf9 hh9 hc9 => ?_⟩
              refine g_newT 3 rfl (by decide) fun p hp => ?_
              walk_at "go"
              refine k p (.fix b v f1) _ ds9 (((s6.trans s68).trans s9).new hp) (hd9.new hp) ⟨p1, upd_same, hf9.mono (same_new hp)⟩ ?_ (F.Cl.imp (f := f1) hc9 hm6)
              show f1.ht + 1 ≤ D' + 1
              omega
end
end K22

set_option Elab.async false
set_option linter.all false
set_option maxRecDepth 100000
set_option maxHeartbeats 1000000
namespace K22
open PySem PySem.Spec PyProof.Rows L2
local macro_rules | `(tactic| walk_at "go1") => `(tactic| with_reducible first
  | refine g_seq ?_ | refine g_asg ?_ | refine g_name ?_ | refine g_c ?_ | refine g_op ?_ | refine g_cons ?_ | refine g_nil ?_ | refine g_cb ?_ | refine g_call ?_ | refine g_meth ?_
  | refine g_I0 ?_ | refine g_ret ?_ | refine g_retN ?_ | refine g_drop ?_ | refine g_if ?_ | refine g_test ?_ | refine g_tB ?_ | refine g_bool ?_
  | refine g_not ?_ | refine g_and ?_ | refine g_or ?_ | refine g_yes ?_ | refine g_tup ?_ | refine g_lst ?_ | refine g_slice ?_ | refine g_part ?_ | refine g_nopart ?_ | refine g_int ?_ | refine g_fld ?_ | refine g_dget ?_
  | refine g_din ?_ | refine g_dnotin ?_ | refine g_bm0 ?_ | refine g_bm ?_ | refine g_ifexp ?_ | refine g_andv ?_ | refine g_orv ?_ | refine g_notv ?_ | refine g_chain ?_ | refine g_U ?_ | refine g_next ?_ | refine g_brk ?_ | refine g_cont ?_
  | refine g_sfld ?_ | refine g_sdput ?_ | refine g_gtup ?_ | refine g_gcons ?_ | refine g_gnil ?_ | refine g_gsub ?_ | refine g_forT ?_ | refine g_forL ?_ | refine g_forR ?_ | refine g_lcT ?_ | refine g_lcL ?_ | refine g_lcR ?_ | refine g_un ?_ | refine g_sfa ?_ | refine g_ip ?_ | refine g_nin ?_ | refine g_nnot ?_ | refine g_nget ?_ | refine g_nput ?_ | refine g_ndisp ?_ | refine g_addI ?_ | refine g_subI ?_
  | (show Ends.nx _ _ _; refine g_nxm ?_) | (show Ends.rt _ _ _; refine g_rtm ?_) | (show Ends.bk _ _ _; refine g_bkm ?_) | (show Ends.ct _ _ _; refine g_ctm ?_))
local macro_rules | `(tactic| walk_at "go2") => `(tactic| first
  | ((with_reducible show tVar _ _ _ _); refine g_var rfl ?_)
  | ((with_reducible show rEq _ _ _ _); refine g_eq rfl ?_)
  | ((with_reducible show rNe _ _ _ _); refine g_ne rfl ?_)
  | ((with_reducible show tAug _ _ _ _ _ _); refine g_aug rfl ?_))
local macro_rules | `(tactic| walk_at "go") => `(tactic| repeat (first | walk_at "go1" | walk_at "go2"))
section
variable {P : Program} {w : World} {K : PySem.W.Frag} {mg : Str → Option Value} {base : Heap}
/-- a closed statement is drawn -/
def spDrawn : Sp := fun vs H Q _ => ∃ (d : Addr) (ds : List Int), vs = [.ref d, .int 3] ∧ DrA H d ds ∧ ∀ p f H' ds', SameX d H H' → DrA H' d ds' → FA H' f p → f.ht ≤ 3 → f.Closed → Q (.ref p) H'
-- slots of _law_closed: 0:_law_draws_here 1:_law_depth
abbrev n_law_closed : List Str := ["_law_draws_here", "_law_depth"]
theorem sc_law_closed : FnScope n_law_closed p_law_closed (defScope s_law_closed) := ⟨rfl, rfl, rfl, by decide +kernel, rfl, by decide +kernel, by decide +kernel⟩
theorem ok_law_closed (T : Top w K mg) : Ok P w K mg base 7 a_law_closed p_law_closed spDrawn := by
  have G_law_statement := ok_law_statement (P := P) (base := base) T 4
  refine T.F_law_closed.ok sc_law_closed (fun vs H Q E h => ?_) (fun cdv A outer s H vs Q E hr h => ?_)
  · obtain ⟨d, ds, rfl, _⟩ := h
    rfl
  · obtain ⟨d, ds, rfl, hd, k⟩ := h
    refine ⟨_, PSs.nox (pss_one (ps_ret (pe_call G_law_statement (hr.mono (by omega)) rfl T.g_law_statement T.F_law_statement.kp T.b_law_statement .nil pass0 (pa_cons (pv 0) (pa_cons (pv 1) (pa_cons (pe_lst pa_nil) (pa_cons (pe_lst pa_nil) (pa_cons pe_bl pa_nil)))))))), ?_⟩
    walk_at "go"
    refine g_newL 0 rfl (by decide) fun a ha => ?_
    have hd1 := hd.new (o := .lst []) ha
    have na : d ≠ a := ne_of_none hd.at_ ha
    walk_at "go"
    refine g_newL 0 rfl (by decide) fun b hb => ?_
    have hd2 := hd1.new (o := .lst []) hb
    have nb : d ≠ b := ne_of_none hd1.at_ hb
    walk_at "go"
    refine ⟨d, a, b, ds, [], [], 3, true, rfl, hd2, (same_new hb) _ _ upd_same, upd_same, na, nb, by decide, by decide, fun p f H' ds' s hd' hf h3 hc => ?_⟩
    exact k p f H' ds' ((((same_new ha).new hb).x d).trans s) hd' hf h3 (hc.imp fun _ z => z.elim (fun z => nomatch z) fun z => nomatch z)
-- slots of _law_guarded: 0:_law_draws_here 1:_law_depth
abbrev n_law_guarded : List Str := ["_law_draws_here", "_law_depth"]
theorem sc_law_guarded : FnScope n_law_guarded p_law_guarded (defScope s_law_guarded) := ⟨rfl, rfl, rfl, by decide +kernel, rfl, by decide +kernel, by decide +kernel⟩
theorem ok_law_guarded (T : Top w K mg) : Ok P w K mg base 7 a_law_guarded p_law_guarded spDrawn := by
  have G_law_statement := ok_law_statement (P := P) (base := base) T 4
  refine T.F_law_guarded.ok sc_law_guarded (fun vs H Q E h => ?_) (fun cdv A outer s H vs Q E hr h => ?_)
  · obtain ⟨d, ds, rfl, _⟩ := h
    rfl
  · obtain ⟨d, ds, rfl, hd, k⟩ := h
    refine ⟨_, PSs.nox (pss_one (ps_ret (pe_call G_law_statement (hr.mono (by omega)) rfl T.g_law_statement T.F_law_statement.kp T.b_law_statement .nil pass0 (pa_cons (pv 0) (pa_cons (pv 1) (pa_cons (pe_lst pa_nil) (pa_cons (pe_lst pa_nil) (pa_cons pe_bl pa_nil)))))))), ?_⟩
    walk_at "go"
    refine g_newL 0 rfl (by decide) fun a ha => ?_
    have hd1 := hd.new (o := .lst []) ha
    have na : d ≠ a := ne_of_none hd.at_ ha
    walk_at "go"
    refine g_newL 0 rfl (by decide) fun b hb => ?_
    have hd2 := hd1.new (o := .lst []) hb
    have nb : d ≠ b := ne_of_none hd1.at_ hb
    walk_at "go"
    refine ⟨d, a, b, ds, [], [], 3, false, rfl, hd2, (same_new hb) _ _ upd_same, upd_same, na, nb, by decide, by decide, fun p f H' ds' s hd' hf h3 hc => ?_⟩
    exact k p f H' ds' ((((same_new ha).new hb).x d).trans s) hd' hf h3 (hc.imp fun _ z => z.elim (fun z => nomatch z) fun z => nomatch z)
/-! ### the law's world -/
structure LW (H : Hp) (d r : Addr) (W : Wd) : Prop where
  ok : W.Ok
  asc : ∀ fs ∈ W.fc, Asc fs
  at_ : ∃ ls lt as bs, H r = some (.tup [.ref ls, .ref lt]) ∧ H ls = some (.lst (as.map V.ref)) ∧ Paired (FcL H) W.fc as ∧ H lt = some (.lst (bs.map V.ref)) ∧ Paired (StA H) W.sp bs ∧ ls ≠ d ∧ lt ≠ d ∧ ∀ a ∈ as, a ≠ d
theorem LW.mono {H H' : Hp} {d r : Addr} {W : Wd} (h : LW H d r W) (s : Same H H') : LW H' d r W := by
  obtain ⟨ok, asc, ls, lt, as, bs, h1, h2, h3, h4, h5, h6⟩ := h
  exact ⟨ok, asc, ls, lt, as, bs, s _ _ h1, s _ _ h2, Paired.mapP h3 fun _ _ q => s _ _ q, s _ _ h4, Paired.mapP h5 fun _ _ q => s _ _ q, h6⟩
theorem LW.x {H H' : Hp} {d r : Addr} {W : Wd} {ds : List Int} (h : LW H d r W) (hd : DrA H d ds) (s : SameX d H H') : LW H' d r W := by
  obtain ⟨ok, asc, ls, lt, as, bs, h1, h2, h3, h4, h5, n1, n2, n3⟩ := h
  have t := hd.t s
  exact ⟨ok, asc, ls, lt, as, bs, t _ _ h1, s _ _ n1 h2, Pd.map_mem h3 fun _ a ha q => s _ _ (n3 a ha) q, s _ _ n2 h4, Paired.mapP h5 fun _ _ q => t _ _ q, n1, n2, n3⟩
def stU : List (Nat × Int × Nat) := (List.range 4).flatMap fun a => [(0 : Int), 1].flatMap fun l => (List.range 4).map fun b => (a, l, b)
theorem stU_len : stU.length = 32 := by decide +kernel
theorem st_len {n : Nat} {sp : List (Nat × Int × Nat)} (h4 : n ≤ 4) (hb : ∀ q ∈ sp, q.1 < n ∧ q.2.2 < n ∧ 0 ≤ q.2.1 ∧ q.2.1 < 2) (nd : sp.Nodup) : sp.length ≤ 32 := by
  rw [← stU_len]
  refine nodup_le nd fun q hq => ?_
  obtain ⟨h1, h2, h3, h5⟩ := hb q hq
  obtain ⟨a, l, b⟩ := q
  dsimp only at h1 h2 h3 h5
  refine List.mem_flatMap.mpr ⟨a, List.mem_range.mpr (by omega), List.mem_flatMap.mpr ⟨l, ?_, List.mem_map.mpr ⟨b, List.mem_range.mpr (by omega), rfl⟩⟩⟩
  rcases two h3 h5 with e | e <;> simp [e]
/-- steps that stand before a place -/
def Bef (q : Nat × Int × Nat) (s : Nat) (l : Int) (o : Nat) : Prop := q.1 < s ∨ q.1 = s ∧ (q.2.1 < l ∨ q.2.1 = l ∧ q.2.2 < o)
structure StL (H : Hp) (d lt : Addr) (n s : Nat) (l : Int) (o : Nat) (ds : List Int) (bs : List Addr) (sp : List (Nat × Int × Nat)) : Prop where
  dr : DrA H d ds
  hl : H lt = some (.lst (bs.map V.ref))
  st : Paired (StA H) sp bs
  bd : ∀ q ∈ sp, q.1 < n ∧ q.2.2 < n ∧ 0 ≤ q.2.1 ∧ q.2.1 < 2
  bf : ∀ q ∈ sp, Bef q s l o
  nd : sp.Nodup
theorem StL.to {H : Hp} {d lt : Addr} {n s s' : Nat} {l l' : Int} {o o' : Nat} {ds : List Int} {bs : List Addr} {sp : List (Nat × Int × Nat)} (h : StL H d lt n s l o ds bs sp) (k : ∀ q : Nat × Int × Nat, q.1 < n → q.2.2 < n → q.2.1 < 2 → Bef q s l o → Bef q s' l' o') : StL H d lt n s' l' o' ds bs sp :=
  ⟨h.dr, h.hl, h.st, h.bd, fun q hq => k q (h.bd q hq).1 (h.bd q hq).2.1 (h.bd q hq).2.2.2 (h.bf q hq), h.nd⟩
def spLWorld : Sp := fun vs H Q _ => ∃ (d : Addr) (ds : List Int), vs = [.ref d, .int 4, .int 2] ∧ DrA H d ds ∧ ∀ r W H' ds', SameX d H H' → DrA H' d ds' → LW H' d r W → Q (.ref r) H'
-- slots of _law_world: 0:_law_draws_here* 1:_law_most 2:_law_facts* 3:_law_size_here 4:_law_states 5:_law_fact* 6:_law_state 7:_law_steps 8:_law_label 9:_law_other
abbrev n_law_world : List Str := ["_law_draws_here", "_law_most", "_law_facts", "_law_size_here", "_law_states", "_law_fact", "_law_state", "_law_steps", "_law_label", "_law_other"]
theorem sc_law_world : FnScope n_law_world p_law_world (defScope s_law_world) := ⟨rfl, rfl, rfl, by decide +kernel, rfl, by decide +kernel, by decide +kernel⟩
theorem ok_law_world (T : Top w K mg) : Ok P w K mg base 2 a_law_world p_law_world spLWorld := by
  have G_law_take := ok_law_take (P := P) (base := base) T
  refine T.F_law_world.ok sc_law_world (fun vs H Q E h => ?_) (fun cdv A outer s H vs Q E hr h => ?_)
  · obtain ⟨d, ds, rfl, _⟩ := h
    rfl
  · obtain ⟨d, ds, rfl, hd, k⟩ := h
    refine ⟨_, PSs.nox (pss_cons (ps_set (i := 3) sc_law_world.nd rfl (Or.inl rfl) (pe_op op_add pe_int (pe_call G_law_take (hr.mono (by omega)) rfl T.g_law_take T.F_law_take.kp T.b_law_take .nil pass0 (pa_cons (pv 0) (pa_cons (pv 1) pa_nil)))))
    (pss_cons (ps_setLc (i := 4) (own := [("_law_state", 6)]) (g := gName 6) (tt := tYes) rfl sc_law_world.nd rfl rfl (sw_true rfl rfl rfl (by decide +kernel)) (pi_range1 (by rfl) T.z_range (pa_cons (pv 3) pa_nil)) (blkOk_by (N := n_law_world) (sc := (defScope s_law_world)) (by decide +kernel)) (fun _ _ _ _ _ => (pg_name (i := 6) sc_law_world.nd rfl (Or.inl rfl))) (fun _ _ _ _ _ => pts_nil) (fun _ _ _ _ _ => (pe_lc (own := [("_law_fact", 5)]) (g := gName 5) rfl sc_law_world.nd (pi_range1 (by rfl) T.z_range (pa_cons (pv 2) pa_nil)) (blkOk_by (N := n_law_world) (sc := { kind := .function, names := [(".0", .local), ("_law_state", .local), ("range", .globalImplicit), ("_law_draws_here", .cell), ("_law_facts", .cell)], isGenerator := false, isCoroutine := false }) (by decide +kernel)) (fun _ _ _ _ _ => (pg_name (i := 5) sc_law_world.nd rfl (Or.inl rfl))) (fun _ _ _ _ _ => (pts_one (pt_cmpR op_eq (pe_call G_law_take (hr.mono (by omega)) rfl T.g_law_take T.F_law_take.kp T.b_law_take .nil pass0 (pa_cons (pv 0) (pa_cons pe_int pa_nil))) pe_int (nomark _)))) (fun _ _ _ _ _ => (pv 5)))))
    (pss_cons (ps_set (i := 7) sc_law_world.nd rfl (Or.inl rfl) (pe_lst pa_nil))
    (pss_cons (ps_for PassesOwn.never rfl (pi_range1 (by rfl) T.z_range (pa_cons (pv 3) pa_nil)) (pg_name (i := 6) sc_law_world.nd rfl (Or.inl rfl)) (pss_one (ps_for PassesOwn.never rfl (pi_range1 (by rfl) T.z_range (pa_cons pe_int pa_nil)) (pg_name (i := 8) sc_law_world.nd rfl (Or.inl rfl)) (pss_one (ps_for PassesOwn.never rfl (pi_range1 (by rfl) T.z_range (pa_cons (pv 3) pa_nil)) (pg_name (i := 9) sc_law_world.nd rfl (Or.inl rfl)) (pss_one (ps_if (pt_cmpR op_lt (pe_call G_law_take (hr.mono (by omega)) rfl T.g_law_take T.F_law_take.kp T.b_law_take .nil pass0 (pa_cons (pv 0) (pa_cons (pe_op op_add pe_int (pv 3)) pa_nil))) pe_int (nomark _)) (pss_one (ps_expr (kpe_app K (pv 7) (pe_tup (pa_cons (pv 6) (pa_cons (pv 8) (pa_cons (pv 9) pa_nil))))))) pss_nil)))))))
    (pss_one (ps_ret (pe_tup (pa_cons (pv 4) (pa_cons (pv 7) pa_nil))))))))), ?_⟩
    walk_at "go"
    refine ⟨d, ds, 4, rfl, hd, by decide, fun r H1 ds1 s1 hd1 r0 r4 => ?_⟩
    walk_at "go"
    obtain ⟨n, hn⟩ : ∃ n : Nat, 1 + r = (n : Int) := ⟨(1 + r).toNat, by omega⟩
    rw [hn]
    have n1 : 1 ≤ n := by omega
    have n4 : n ≤ 4 := by omega
    walk_at "go"
    refine g_rlcR (n := n) (by omega) fun E0 hE0 => ?_
    have ndE : d ≠ E0 := ne_of_none hd1.at_ hE0
    have zE : H E0 = none := by
      cases q : H E0 with
      | none => rfl
      | some u =>
        rw [s1 _ _ ndE.symm q] at hE0
        cases hE0
    refine ⟨fun i H' => ∃ (ds' : List Int) (us : List Addr) (fcs : List (List Int)), SameX d H H' ∧ DrA H' d ds' ∧ H' E0 = some (.lst (us.map V.ref)) ∧ Paired (FcL H') fcs us ∧ (∀ fs ∈ fcs, Asc fs) ∧ fcs.length = i ∧ ∀ u ∈ us, u ≠ E0 ∧ u ≠ d,
      ⟨ds1, [], [], s1.new hE0, hd1.new hE0, upd_same, .nil, (fun _ h => nomatch h), rfl, fun _ h => nomatch h⟩, ?_, ?_⟩
    · rintro i H' hi ⟨ds', us, fcs, s2, hd2, hE2, hp2, ha2, hl2, hn2⟩
      refine g_turn rfl ?_
      walk_at "go"
      refine iteT ?_
      walk_at "go"
      refine g_rlcR (n := 2) (by decide) fun E2 hE3 => ?_
      have ndE2 : d ≠ E2 := ne_of_none hd2.at_ hE3
      have nE : E0 ≠ E2 := ne_of_none hE2 hE3
      refine ⟨fun j H'' => ∃ (ds'' fs : List Int), SameX d H' H'' ∧ DrA H'' d ds'' ∧ H'' E2 = some (.lst (fs.map V.int)) ∧ fs.Pairwise (· < ·) ∧ (∀ x ∈ fs, 0 ≤ x ∧ x < (j : Nat)) ∧ fs.length ≤ j,
        ⟨ds', [], (same_new hE3).x d, hd2.new hE3, upd_same, List.Pairwise.nil, (fun _ h => nomatch h), Nat.le_refl _⟩, ?_, ?_⟩
      · rintro j H'' hj ⟨ds'', fs, s3, hd3, hE4, hpw, hb3, hl3⟩
        have up : ∀ x ∈ fs, 0 ≤ x ∧ x < ((j + 1 : Nat) : Int) := fun x hx => by have := hb3 x hx; omega
        refine g_turn rfl ?_
        walk_at "go"
        refine ⟨d, ds'', 2, rfl, hd3, by decide, fun r2 H5 ds5 s5 hd5 q0 q1 => ?_⟩
        walk_at "go"
        rw [int_dec]
        have hE5 := s5 _ _ ndE2.symm hE4
        refine iteB rfl (fun _ => ?_) (fun _ => ?_)
        · walk_at "go"
          refine g_add hE5 (lt_line (by rw [List.length_map]; omega)) ⟨ds5, fs ++ [((j : Nat) : Int)], (s3.trans s5).mut hE3, ⟨by rw [upd_ne ndE2]; exact hd5.at_, hd5.bd, hd5.len⟩, by rw [upd_same, List.map_append]; rfl, ?_, fun x hx => ?_, by rw [List.length_append, List.length_singleton]; omega⟩
          · refine List.pairwise_append.mpr ⟨hpw, List.pairwise_singleton _ _, fun a ha b hb => ?_⟩
            rw [List.mem_singleton.mp hb]
            exact (hb3 a ha).2
          · rcases List.mem_append.mp hx with h | h
            · exact up x h
            · rw [List.mem_singleton.mp h]
              omega
        · exact ⟨ds5, fs, s3.trans s5, hd5, hE5, hpw, up, by omega⟩
      · rintro H'' ⟨ds'', fs, s3, hd3, hE4, hpw, hb3, hl3⟩
        walk_at "go"
        have z : us.length ≤ 4 := by rw [← Paired.length hp2]; omega
        have hE0' := s3 _ _ ndE.symm hE2
        have T4 := fun u (hu : u ∈ us) => (hn2 u hu)
        refine g_add hE0' (lt_line (by rw [List.length_map]; omega)) ⟨ds'', us ++ [E2], fcs ++ [fs], (s2.trans s3).mut zE, ⟨by rw [upd_ne ndE]; exact hd3.at_, hd3.bd, hd3.len⟩, by rw [upd_same, List.map_append]; rfl, Pd.snoc ?_ (Pd.map_mem hp2 fun fs u hu q => ?_), fun gs hg => ?_, by rw [List.length_append, hl2]; rfl, fun u hu => ?_⟩
        · show upd H'' E0 _ E2 = _
          rw [upd_ne nE.symm]
          exact hE4
        · show upd H'' E0 _ u = _
          rw [upd_ne (hn2 u hu).1]
          exact s3 _ _ (hn2 u hu).2 q
        · rcases List.mem_append.mp hg with h | h
          · exact ha2 gs h
          · rw [List.mem_singleton.mp h]
            exact ⟨hpw, fun x hx => by have := hb3 x hx; omega, hl3⟩
        · rcases List.mem_append.mp hu with h | h
          · exact hn2 u h
          · rw [List.mem_singleton.mp h]
            exact ⟨nE.symm, ndE2.symm⟩
    · rintro H2 ⟨ds2, us, fcs, s2, hd2, hE2, hp2, ha2, hl2, hn2⟩
      walk_at "go"
      refine g_newL 0 rfl (by decide) fun lt hlt => ?_
      have ndl : d ≠ lt := ne_of_none hd2.at_ hlt
      have st0 : StL (upd H2 lt (.lst [])) d lt n 0 0 0 ds2 [] [] := ⟨hd2.new hlt, upd_same, .nil, (fun _ h => nomatch h), (fun _ h => nomatch h), List.nodup_nil⟩
      walk_at "go"
      refine g_rforR (n := n) (by omega) (fun i σ' H' => ∃ (v6 v8 v9 : Option V) (ds' : List Int) (bs : List Addr) (sp : List (Nat × Int × Nat)), σ' = [some (.ref d), some (.int 4), some (.int 2), some (.int (n : Nat)), some (.ref E0), none, v6, some (.ref lt), v8, v9] ∧ SameX d H2 H' ∧ StL H' d lt n i 0 0 ds' bs sp)
        ⟨none, none, none, ds2, [], [], rfl, (same_new hlt).x d, st0⟩ ?_ ?_
      · rintro i σ' H' hi ⟨v6, v8, v9, ds', bs, sp, rfl, s3, S3⟩
        walk_at "go"
        refine g_rforR (n := 2) (by decide) (fun j σ' H' => ∃ (v8 v9 : Option V) (ds' : List Int) (bs : List Addr) (sp : List (Nat × Int × Nat)), σ' = [some (.ref d), some (.int 4), some (.int 2), some (.int (n : Nat)), some (.ref E0), none, some (.int (i : Nat)), some (.ref lt), v8, v9] ∧ SameX d H2 H' ∧ StL H' d lt n i (j : Nat) 0 ds' bs sp)
          ⟨v8, v9, ds', bs, sp, rfl, s3, S3⟩ ?_ ?_
        · rintro j σ' H' hj ⟨v8, v9, ds', bs, sp, rfl, s4, S4⟩
          walk_at "go"
          refine g_rforR (n := n) (by omega) (fun m σ' H' => ∃ (v9 : Option V) (ds' : List Int) (bs : List Addr) (sp : List (Nat × Int × Nat)), σ' = [some (.ref d), some (.int 4), some (.int 2), some (.int (n : Nat)), some (.ref E0), none, some (.int (i : Nat)), some (.ref lt), some (.int (j : Nat)), v9] ∧ SameX d H2 H' ∧ StL H' d lt n i (j : Nat) m ds' bs sp)
            ⟨v9, ds', bs, sp, rfl, s4, S4⟩ ?_ ?_
          · rintro m σ' H' hm ⟨v9, ds', bs, sp, rfl, s5, S5⟩
            walk_at "go"
            refine ⟨d, ds', 2 + (n : Nat), rfl, S5.dr, by omega, fun r2 H6 ds6 s6 hd6 q0 q1 => ?_⟩
            have T6 := S5.dr.t s6
            have S6 : StL H6 d lt n i (j : Nat) m ds6 bs sp := ⟨hd6, s6 _ _ ndl.symm S5.hl, Paired.mapP S5.st fun _ _ q => T6 _ _ q, S5.bd, S5.bf, S5.nd⟩
            have s56 := s5.trans s6
            walk_at "go"
            refine iteB rfl (fun _ => ?_) (fun _ => ?_)
            · walk_at "go"
              refine g_tyL (SqL.of S6.hl) ?_
              walk_at "go"
              refine g_newT 3 rfl (by decide) fun t ht => ?_
              walk_at "go"
              have l32 := st_len n4 S6.bd S6.nd
              have lbs := Paired.length S6.st
              have s7 := same_new (o := .tup [.int (i : Nat), .int (j : Nat), .int (m : Nat)]) ht
              have hl7 := s7 _ _ S6.hl
              refine g_app hl7 (lt_line (by rw [List.length_map]; omega)) ?_
              walk_at "go"
              have T8 := (s7.t).trans (SameT.lst (o' := .lst (bs.map V.ref ++ [.ref t])) hl7)
              have nq : ((i, ((j : Nat) : Int), m) : Nat × Int × Nat) ∉ sp := fun h => by
                have := S6.bf _ h
                unfold Bef at this
                dsimp only at this
                omega
              refine ⟨_, ds6, bs ++ [t], sp ++ [((i, ((j : Nat) : Int), m) : Nat × Int × Nat)], rfl, (s56.new ht).mut hlt, ⟨⟨by rw [upd_ne ndl]; exact s7 _ _ hd6.at_, hd6.bd, hd6.len⟩, by rw [upd_same, List.map_append]; rfl, Pd.snoc ?_ (Paired.mapP S6.st fun _ _ q => T8 _ _ q), fun q hq => ?_, fun q hq => ?_, nodup_snoc S6.nd nq⟩⟩
              · show upd _ lt _ t = _
                rw [upd_ne (ne_of_none S6.hl ht).symm]
                exact upd_same
              · rcases List.mem_append.mp hq with h | h
                · exact S6.bd q h
                · rw [List.mem_singleton.mp h]
                  dsimp only
                  omega
              · rcases List.mem_append.mp hq with h | h
                · have := S6.bf q h
                  unfold Bef at this ⊢
                  omega
                · rw [List.mem_singleton.mp h]
                  unfold Bef
                  dsimp only
                  omega
            · walk_at "go"
              exact ⟨_, ds6, bs, sp, rfl, s56, S6.to fun q _ _ _ h => by unfold Bef at h ⊢; omega⟩
          · rintro σ' H' ⟨v9, ds', bs, sp, rfl, s5, S5⟩
            walk_at "go"
            exact ⟨_, v9, ds', bs, sp, rfl, s5, S5.to fun q _ _ _ h => by unfold Bef at h ⊢; omega⟩
        · rintro σ' H' ⟨v8, v9, ds', bs, sp, rfl, s5, S5⟩
          walk_at "go"
          exact ⟨_, v8, v9, ds', bs, sp, rfl, s5, S5.to fun q _ _ _ h => by unfold Bef at h ⊢; omega⟩
      · rintro σ' H' ⟨v6, v8, v9, ds', bs, sp, rfl, s5, S5⟩
        walk_at "go"
        refine g_newT 2 rfl (by decide) fun r hr' => ?_
        walk_at "go"
        have l32 := st_len n4 S5.bd S5.nd
        have s7 := same_new (o := .tup [.ref E0, .ref lt]) hr'
        have hE5 := s5 _ _ ndE.symm hE2
        exact k r ⟨n, fcs, sp⟩ _ ds' ((s2.trans s5).new hr') (S5.dr.new hr') ⟨⟨n1, n4, hl2, l32, S5.bd, S5.nd⟩, ha2, E0, lt, us, bs, upd_same, s7 _ _ hE5, Pd.map_mem hp2 fun _ u hu q => s7 _ _ (s5 _ _ (hn2 u hu).2 q), s7 _ _ S5.hl, Paired.mapP S5.st fun _ _ q => s7 _ _ q, ndE.symm, ndl.symm, fun u hu => (hn2 u hu).2⟩
end
end K22

set_option Elab.async false
set_option linter.all false
set_option maxRecDepth 100000
set_option maxHeartbeats 1000000
namespace K22
open PySem PySem.Spec PyProof.Rows L2
local macro_rules | `(tactic| walk_at "go1") => `(tactic| with_reducible first
  | refine g_seq ?_ | refine g_asg ?_ | refine g_name ?_ | refine g_c ?_ | refine g_op ?_ | refine g_cons ?_ | refine g_nil ?_ | refine g_cb ?_ | refine g_call ?_ | refine g_meth ?_
  | refine g_I0 ?_ | refine g_ret ?_ | refine g_retN ?_ | refine g_drop ?_ | refine g_if ?_ | refine g_test ?_ | refine g_tB ?_ | refine g_bool ?_
  | refine g_not ?_ | refine g_and ?_ | refine g_or ?_ | refine g_yes ?_ | refine g_tup ?_ | refine g_lst ?_ | refine g_slice ?_ | refine g_part ?_ | refine g_nopart ?_ | refine g_int ?_ | refine g_fld ?_ | refine g_dget ?_
  | refine g_din ?_ | refine g_dnotin ?_ | refine g_bm0 ?_ | refine g_bm ?_ | refine g_ifexp ?_ | refine g_andv ?_ | refine g_orv ?_ | refine g_notv ?_ | refine g_chain ?_ | refine g_U ?_ | refine g_next ?_ | refine g_brk ?_ | refine g_cont ?_
  | refine g_sfld ?_ | refine g_sdput ?_ | refine g_gtup ?_ | refine g_gcons ?_ | refine g_gnil ?_ | refine g_gsub ?_ | refine g_forT ?_ | refine g_forL ?_ | refine g_forR ?_ | refine g_lcT ?_ | refine g_lcL ?_ | refine g_lcR ?_ | refine g_un ?_ | refine g_sfa ?_ | refine g_ip ?_ | refine g_nin ?_ | refine g_nnot ?_ | refine g_nget ?_ | refine g_nput ?_ | refine g_ndisp ?_ | refine g_addI ?_ | refine g_subI ?_
  | (show Ends.nx _ _ _; refine g_nxm ?_) | (show Ends.rt _ _ _; refine g_rtm ?_) | (show Ends.bk _ _ _; refine g_bkm ?_) | (show Ends.ct _ _ _; refine g_ctm ?_))
local macro_rules | `(tactic| walk_at "go2") => `(tactic| first
  | ((with_reducible show tVar _ _ _ _); refine g_var rfl ?_)
  | ((with_reducible show rEq _ _ _ _); refine g_eq rfl ?_)
  | ((with_reducible show rNe _ _ _ _); refine g_ne rfl ?_)
  | ((with_reducible show tAug _ _ _ _ _ _); refine g_aug rfl ?_))
local macro_rules | `(tactic| walk_at "go") => `(tactic| repeat (first | walk_at "go1" | walk_at "go2"))
section
variable {P : Program} {w : World} {K : PySem.W.Frag} {mg : Str → Option Value} {base : Heap}
def spMade (K : PySem.W.Frag) : Sp := fun vs H Q _ => ∃ (d r : Addr) (W : Wd), vs = [.ref r, .int 2, .int 2] ∧ LW H d r W ∧ ∀ x H' W', Same H H' → W'.n = W.n → W'.fc = W.fc → W'.sp.Perm W.sp → WAt K H' x W' → Q (.ref x) H'
-- slots of _law_made: 0:_law_world_here 1:_law_labels 2:_law_facts 3:_law_state
abbrev n_law_made : List Str := ["_law_world_here", "_law_labels", "_law_facts", "_law_state"]
theorem sc_law_made : FnScope n_law_made p_law_made (defScope s_law_made) := ⟨rfl, rfl, rfl, by decide +kernel, rfl, by decide +kernel, by decide +kernel⟩
theorem ok_law_made (T : Top w K mg) : Ok P w K mg base 4 a_law_made p_law_made (spMade K) := by
  have G_World_init := ok_World_init (P := P) (base := base) T
  refine T.F_law_made.ok sc_law_made (fun vs H Q E h => ?_) (fun cdv A outer s H vs Q E hr h => ?_)
  · obtain ⟨d, r, W, rfl, _⟩ := h
    rfl
  · obtain ⟨d, r, W, rfl, hW, k⟩ := h
    obtain ⟨wok, asc, ls, lt, as, bs, h1, h2, h3, h4, h5, _⟩ := id hW
    have hal := Paired.length h3
    have fl := wok.fl
    have n4 := wok.n4
    refine ⟨_, PSs.nox (pss_one (ps_ret (pe_make T.m_World (G_World_init) (hr.mono (by omega)) (by rfl) T.g_World T.b_World_init .nil pass0 (pa_cons (pv 1) (pa_cons (pv 2) (pa_cons (pe_lc (own := [("_law_state", 3)]) (g := gName 3) (tt := tYes) rfl sc_law_made.nd (kpi_list K (pe_ix (ki_tup K) (pv 0) pe_int (fun _ _ => rfl))) (blkOk_by (N := n_law_made) (sc := (defScope s_law_made)) (by decide +kernel)) (fun _ _ _ _ _ => (pg_name (i := 3) sc_law_made.nd rfl (Or.inl rfl))) (fun _ _ _ _ _ => pts_nil) (fun _ _ _ _ _ => (pe_callTy (kc_list K) (by rfl) T.z_list bt_list (pa_cons (pv 3) pa_nil)))) (pa_cons (pe_callTy (kc_list K) (by rfl) T.z_list bt_list (pa_cons (pe_ix (ki_tup K) (pv 0) pe_int (fun _ _ => rfl)) pa_nil)) pa_nil))))))), ?_⟩
    walk_at "go"
    refine g_make ?_
    walk_at "go"
    refine g_ixT (SqT.of h1) at0 ?_
    walk_at "go"
    refine g_rlcL (SqL.of h2) fun E hE => ⟨fun i H' => ∃ us : List Addr, Same H H' ∧ H' E = some (.lst (us.map V.ref)) ∧ Paired (FcL H') (W.fc.take i) us ∧ ∀ u ∈ us, u ≠ E, ⟨[], same_new hE, upd_same, .nil, fun _ h => nomatch h⟩, fun i H' hi ⟨us, s0, _, _⟩ => SqL.of (s0 _ _ h2), fun i y H' hy ⟨us, s0, hE0, e, hne⟩ => ?_, fun H4 ⟨us, s0, hE0, e, hne⟩ => ?_⟩
    · rw [List.getElem?_map] at hy
      obtain ⟨b, hb, rfl⟩ := Option.map_eq_some_iff.mp hy
      obtain ⟨fs, hfs, hfb⟩ := Pd.get h3 hb
      have hul := Paired.length e
      rw [List.length_take] at hul
      refine g_turn rfl ?_
      walk_at "go"
      refine iteT ?_
      walk_at "go"
      refine ⟨b, _, rfl, .inl (SqL.of (s0 _ _ hfb)), fun u hu => ?_⟩
      have nEu : E ≠ u := ne_of_none hE0 hu
      have zu : H u = none := s0.free hu
      have hE1 : upd H' u (.lst (fs.map V.int)) E = some (.lst (us.map V.ref)) := by rw [upd_ne nEu]; exact hE0
      refine g_add hE1 (lt_line (by rw [List.length_map]; omega)) ⟨us ++ [u], (s0.new hu).mut hE, by rw [upd_same, List.map_append]; rfl, ?_, fun c hc => ?_⟩
      · rw [take_snoc hfs]
        refine Pd.snoc ?_ (Pd.map_mem e fun fs' c hc q => ?_)
        · show upd _ E _ u = _
          rw [upd_ne nEu.symm]
          exact upd_same
        · show upd _ E _ c = _
          rw [upd_ne (hne c hc), upd_ne (ne_of_none q hu)]
          exact q
      · rcases List.mem_append.mp hc with h | h
        · exact hne c h
        · rw [List.mem_singleton.mp h]
          exact nEu.symm
    · rw [List.take_of_length_le (by rw [List.length_map, hal]; exact Nat.le_refl _)] at e
      walk_at "go"
      refine g_ixT (SqT.of (s0 _ _ h1)) at1 ?_
      walk_at "go"
      refine ⟨lt, _, rfl, .inl (SqL.of (s0 _ _ h4)), fun m hm => ?_⟩
      have s1 := same_new (o := .lst (bs.map V.ref)) hm
      have hm1 : upd H4 m (.lst (bs.map V.ref)) m = some (.lst (bs.map V.ref)) := upd_same
      generalize upd H4 m (.lst (bs.map V.ref)) = H5 at s1 hm1 ⊢
      walk_at "go"
      intro x dx nx ndx nex
      have sm := same_make (C := He.ga K "World") nx ndx
      have s1m := s1.trans sm
      refine ⟨x, dx, E, m, us, bs, W, rfl, upd_same, wok, s1m _ _ hE0, Paired.mapP e fun _ _ q => s1m _ _ q, asc, sm _ _ hm1, Paired.mapP h5 fun _ _ q => s1m _ _ (s0 _ _ q), fun H' W' sx n f p hW' => ⟨rfl, ?_⟩⟩
      exact k x H' W' (sx.new_of ((s0.trans s1).free nx) ((s0.trans s1).trans sm)) n f p hW'
-- slots of _law_behind: 0:_law_world_here 1:_law_state* 2:_law_label* 3:_law_step
abbrev n_law_behind : List Str := ["_law_world_here", "_law_state", "_law_label", "_law_step"]
theorem sc_law_behind : FnScope n_law_behind p_law_behind (defScope s_law_behind) := ⟨rfl, rfl, rfl, by decide +kernel, rfl, by decide +kernel, by decide +kernel⟩
def spBeh : Sp := fun vs H Q _ => ∃ (d r : Addr) (W : Wd) (t : Nat) (l : Int), vs = [.ref r, .int (t : Nat), .int l] ∧ LW H d r W ∧ ∀ p H', H p = none → Same H H' → H' p = some (.lst ((W.foll t l).map nI)) → Q (.ref p) H'
theorem ok_law_behind (T : Top w K mg) : Ok P w K mg base 1 a_law_behind p_law_behind spBeh := by
  refine T.F_law_behind.ok sc_law_behind (fun vs H Q E h => ?_) (fun cdv A outer s H vs Q E hr h => ?_)
  · obtain ⟨_, _, _, _, _, rfl, _⟩ := h
    rfl
  · obtain ⟨d, r, W, t, l, rfl, hW, k⟩ := h
    obtain ⟨wok, asc, ls, lt, as, bs, h1, h2, h3, e4, e5, _⟩ := id hW
    refine ⟨_, PSs.nox (pss_one (ps_ret (pe_lc (own := [("_law_step", 3)]) (g := gName 3) rfl sc_law_behind.nd (kpi_list K (pe_ix (ki_tup K) (pv 0) pe_int (fun _ _ => rfl))) (blkOk_by (N := n_law_behind) (sc := (defScope s_law_behind)) (by decide +kernel)) (fun _ _ _ _ _ => (pg_name (i := 3) sc_law_behind.nd rfl (Or.inl rfl))) (fun _ _ _ _ _ => (pts_one (PW.pt (pw_and (pt_cmpR op_eq (pe_ix (ki_tup K) (pv 3) pe_int (fun _ _ => rfl)) (pv 1) (nomark _)) (pw_and1 (pt_cmpR op_eq (pe_ix (ki_tup K) (pv 3) pe_int (fun _ _ => rfl)) (pv 2) (nomark _))))))) (fun _ _ _ _ _ => (pe_ix (ki_tup K) (pv 3) pe_int (fun _ _ => rfl)))))), ?_⟩
    have hbl : bs.length ≤ 32 := by rw [← Paired.length e5]; exact wok.sl
    walk_at "go"
    refine g_ixT (SqT.of h1) at1 ?_
    walk_at "go"
    refine g_rlcL (SqL.of e4) fun E hE => ⟨fun i H' => ∃ H0, Same H H0 ∧ H0 E = some (.lst (((((W.sp.take i).filter fun q => decide (q.1 = t) && decide (q.2.1 = l)).map fun q => q.2.2)).map fun (t : Nat) => V.int t)) ∧ H' = H0, ⟨_, same_new hE, upd_same, rfl⟩, fun i H' hi ⟨H0, s0, _, e⟩ => ?_, fun i y H' hy ⟨H0, s0, hE0, e⟩ => ?_, fun H' ⟨H0, s0, hE0, e⟩ => ?_⟩
    · subst e
      exact SqL.of (s0 _ _ e4)
    · subst e
      rw [List.getElem?_map] at hy
      obtain ⟨b, hb, rfl⟩ := Option.map_eq_some_iff.mp hy
      obtain ⟨q, hq, hqb⟩ := Pd.get e5 hb
      have hqb' := s0 _ _ hqb
      have hft := filt_take (p := fun q : Nat × Int × Nat => decide (q.1 = t) && decide (q.2.1 = l)) (f := fun q => q.2.2) hq
      refine g_turn rfl ?_
      walk_at "go"
      refine g_ixT (SqT.of hqb') at0 ?_
      walk_at "go"
      rw [nat_dec]
      by_cases h1 : q.1 = t
      · rw [decide_eq_true h1]
        refine iteT ?_
        walk_at "go"
        refine g_ixT (SqT.of hqb') at1 ?_
        walk_at "go"
        rw [int_dec]
        by_cases h2 : q.2.1 = l
        · rw [decide_eq_true h2]
          refine iteT ?_
          walk_at "go"
          refine g_ixT (SqT.of hqb') at2 ?_
          walk_at "go"
          refine g_add hE0 (lt_line (by rw [List.length_map, List.length_map]; exact Nat.le_trans (List.length_filter_le _ _) (by rw [List.length_take]; have := wok.sl; omega))) ?_
          refine ⟨_, s0.mut hE, ?_, rfl⟩
          rw [upd_same, hft, decide_eq_true h1, decide_eq_true h2]
          simp
        · rw [decide_eq_false h2]
          refine iteF ?_
          refine ⟨_, s0, ?_, rfl⟩
          rw [hE0, hft, decide_eq_true h1, decide_eq_false h2]
          simp
      · rw [decide_eq_false h1]
        refine iteF ?_
        refine iteF ?_
        refine ⟨_, s0, ?_, rfl⟩
        rw [hE0, hft, decide_eq_false h1]
        simp
    · subst e
      rw [List.take_of_length_le (by rw [List.length_map, Paired.length e5]; exact Nat.le_refl _)] at hE0
      walk_at "go"
      exact k _ _ hE s0 hE0
end
end K22

set_option linter.all false
set_option maxHeartbeats 400000
namespace K22
/-! ### where a statement is true -/
abbrev Ev := Int → Nat → Bool
def upV (ρ : Ev) (x : Int) (X : Nat → Bool) : Ev := fun y => if y = x then X else ρ y
/-- k rounds, from everywhere or from nowhere -/
def itN (b : Bool) (φ : (Nat → Bool) → Nat → Bool) : Nat → Nat → Bool
  | 0 => fun _ => b
  | k + 1 => φ (itN b φ k)
def Wd.val (W : Wd) : F → Ev → Nat → Bool
  | .var x, ρ => ρ x
  | .bin b f g, ρ => fun s => if b then W.val f ρ s && W.val g ρ s else W.val f ρ s || W.val g ρ s
  | .mod b l f, ρ => fun s => if b then (W.foll s l).all (W.val f ρ) else (W.foll s l).any (W.val f ρ)
  | .fix b x f, ρ => itN b (fun X => W.val f (upV ρ x X)) (W.n + 1)
  | .const b, _ => fun s => W.plain s (.const b)
  | .fact b p, _ => fun s => W.plain s (.fact b p)
/-- what player 0 (pl = false: true) or player 1 (false) has of an and, an or -/
theorem val_bin (W : Wd) (pl b : Bool) (f g : F) (ρ : Ev) (s : Nat) : W.val (.bin b f g) ρ s = (!pl) ↔ (b = pl → W.val f ρ s = (!pl) ∨ W.val g ρ s = (!pl)) ∧ (b ≠ pl → W.val f ρ s = (!pl) ∧ W.val g ρ s = (!pl)) := by
  show (if b then W.val f ρ s && W.val g ρ s else W.val f ρ s || W.val g ρ s) = (!pl) ↔ _
  generalize W.val f ρ s = x
  generalize W.val g ρ s = y
  revert x y b pl
  decide
theorem val_mod (W : Wd) (pl b : Bool) (l : Int) (f : F) (ρ : Ev) (s : Nat) : W.val (.mod b l f) ρ s = (!pl) ↔ (b = pl → ∃ t ∈ W.foll s l, W.val f ρ t = (!pl)) ∧ (b ≠ pl → ∀ t ∈ W.foll s l, W.val f ρ t = (!pl)) := by
  show (if b then (W.foll s l).all (W.val f ρ) else (W.foll s l).any (W.val f ρ)) = (!pl) ↔ _
  cases b <;> cases pl <;> simp
theorem itN_mono {b c : Bool} {n : Nat} {φ ψ : (Nat → Bool) → Nat → Bool} (h : ∀ X Y : Nat → Bool, (∀ s, s < n → X s = c → Y s = c) → ∀ s, s < n → φ X s = c → ψ Y s = c) : ∀ k s, s < n → itN b φ k s = c → itN b ψ k s = c
  | 0, _, _, e => e
  | k + 1, s, hs, e => h _ _ (itN_mono h k) s hs e
theorem val_mono {W : Wd} (ok : W.Ok) (c : Bool) : ∀ (f : F) {ρ ρ' : Ev}, (∀ x s, s < W.n → ρ x s = c → ρ' x s = c) → ∀ s, s < W.n → W.val f ρ s = c → W.val f ρ' s = c
  | .var x, ρ, ρ', h, s, hs, e => h x s hs e
  | .bin b f g, ρ, ρ', h, s, hs, e => by
    have h1 := val_mono ok c f h s hs
    have h2 := val_mono ok c g h s hs
    have k := val_bin W (!c) b f g
    rw [Bool.not_not] at k
    rw [k] at e ⊢
    exact ⟨fun q => (e.1 q).imp h1 h2, fun q => ⟨h1 (e.2 q).1, h2 (e.2 q).2⟩⟩
  | .mod b l f, ρ, ρ', h, s, hs, e => by
    have h1 := val_mono ok c f h
    have k := val_mod W (!c) b l f
    rw [Bool.not_not] at k
    rw [k] at e ⊢
    exact ⟨fun q => let ⟨t, a, r⟩ := e.1 q; ⟨t, a, h1 t (foll_lt ok a) r⟩, fun q t a => h1 t (foll_lt ok a) (e.2 q t a)⟩
  | .fix b x f, ρ, ρ', h, s, hs, e => by
    refine itN_mono (c := c) (n := W.n) (fun X Y hXY s hs e => ?_) (W.n + 1) s hs e
    refine val_mono ok c f (fun y t ht e => ?_) s hs e
    unfold upV at e ⊢
    by_cases q : y = x
    · rw [if_pos q] at e ⊢
      exact hXY t ht e
    · rw [if_neg q] at e ⊢
      exact h y t ht e
  | .const b, _, _, _, _, _, e => e
  | .fact b p, _, _, _, _, _, e => e
/-! chains of subsets -/
theorem itN_up {b : Bool} {n : Nat} {φ : (Nat → Bool) → Nat → Bool} (h : ∀ X Y : Nat → Bool, (∀ s, s < n → X s = (!b) → Y s = (!b)) → ∀ s, s < n → φ X s = (!b) → φ Y s = (!b)) : ∀ k s, s < n → itN b φ k s = (!b) → itN b φ (k + 1) s = (!b)
  | 0, s, hs, e => absurd (show b = !b from e) (by cases b <;> decide)
  | k + 1, s, hs, e => h _ _ (itN_up h k) s hs e
theorem cnt_lt {l : List Nat} {p q : Nat → Bool} (h : ∀ x ∈ l, p x = true → q x = true) {x : Nat} (hx : x ∈ l) (h1 : p x = false) (h2 : q x = true) : (l.filter p).length < (l.filter q).length := by
  induction l with
  | nil => cases hx
  | cons a l ih =>
    have le : ∀ m : List Nat, (∀ x ∈ m, p x = true → q x = true) → (m.filter p).length ≤ (m.filter q).length := fun m hm => by
      induction m with
      | nil => exact Nat.le_refl _
      | cons c m ih =>
        have i := ih fun x hx => hm x (List.mem_cons_of_mem _ hx)
        cases hp : p c
        · rw [List.filter_cons_of_neg (by simp [hp])]
          cases hq : q c
          · rw [List.filter_cons_of_neg (by simp [hq])]
            exact i
          · rw [List.filter_cons_of_pos hq]
            exact Nat.le_succ_of_le i
        · rw [List.filter_cons_of_pos hp, List.filter_cons_of_pos (hm c List.mem_cons_self hp)]
          exact Nat.succ_le_succ i
    have h' := fun x hx => h x (List.mem_cons_of_mem a hx)
    rcases List.mem_cons.mp hx with e | hx
    · subst e
      rw [List.filter_cons_of_neg (by simp [h1]), List.filter_cons_of_pos h2]
      exact Nat.lt_succ_of_le (le l h')
    · have i := ih h' hx
      cases hp : p a
      · rw [List.filter_cons_of_neg (by simp [hp])]
        cases hq : q a
        · rw [List.filter_cons_of_neg (by simp [hq])]
          exact i
        · rw [List.filter_cons_of_pos hq]
          exact Nat.lt_succ_of_lt i
      · rw [List.filter_cons_of_pos hp, List.filter_cons_of_pos (h a List.mem_cons_self hp)]
        exact Nat.succ_lt_succ i
theorem bool_of : ∀ b x y : Bool, (x = (!b) → y = (!b)) → (y = (!b) → x = (!b)) → x = y := by decide
theorem itN_stable {b : Bool} {n : Nat} {φ : (Nat → Bool) → Nat → Bool} (h : ∀ X Y : Nat → Bool, (∀ s, s < n → X s = (!b) → Y s = (!b)) → ∀ s, s < n → φ X s = (!b) → φ Y s = (!b)) : ∀ s, s < n → itN b φ (n + 1 + 1) s = itN b φ (n + 1) s := by
  have up := itN_up h
  have stop : ∃ k, k ≤ n ∧ ∀ s, s < n → itN b φ (k + 1) s = (!b) → itN b φ k s = (!b) := by
    refine Classical.byContradiction fun no => ?_
    have grow : ∀ k, k ≤ n + 1 → k ≤ ((List.range n).filter fun s => itN b φ k s == !b).length := by
      intro k
      induction k with
      | zero => exact fun _ => Nat.zero_le _
      | succ k ih =>
        intro hk
        have i := ih (by omega)
        refine Nat.lt_of_le_of_lt i ?_
        have ex : ∃ s, s < n ∧ itN b φ (k + 1) s = (!b) ∧ ¬ itN b φ k s = (!b) := by
          refine Classical.byContradiction fun z => no ⟨k, by omega, fun s hs e => ?_⟩
          exact Classical.byContradiction fun w => z ⟨s, hs, e, w⟩
        obtain ⟨s, hs, e1, e2⟩ := ex
        refine cnt_lt (fun x hx e => ?_) (List.mem_range.mpr hs) (x := s) ?_ ?_
        · exact beq_iff_eq.mpr (up k x (List.mem_range.mp hx) (beq_iff_eq.mp e))
        · exact beq_eq_false_iff_ne.mpr e2
        · exact beq_iff_eq.mpr e1
    have g := grow (n + 1) (Nat.le_refl _)
    have l := List.length_filter_le (fun s => itN b φ (n + 1) s == !b) (List.range n)
    rw [List.length_range] at l
    omega
  obtain ⟨k, hk, st⟩ := stop
  have all : ∀ d s, s < n → itN b φ (k + d + 1) s = (!b) → itN b φ (k + d) s = (!b) := by
    intro d
    induction d with
    | zero => exact st
    | succ d ih => exact h _ _ ih
  intro s hs
  have e : n + 1 = k + (n + 1 - k) := by omega
  have a := all (n + 1 - k) s hs
  rw [← e] at a
  have c := up (n + 1) s hs
  exact bool_of b _ _ a c
theorem body_mono {W : Wd} (ok : W.Ok) (c : Bool) (f : F) (ρ : Ev) (x : Int) : ∀ X Y : Nat → Bool, (∀ s, s < W.n → X s = c → Y s = c) → ∀ s, s < W.n → W.val f (upV ρ x X) s = c → W.val f (upV ρ x Y) s = c := fun X Y h s hs e => by
  refine val_mono ok c f (fun y t ht e => ?_) s hs e
  unfold upV at e ⊢
  by_cases q : y = x
  · rw [if_pos q] at e ⊢
    exact h t ht e
  · rw [if_neg q] at e ⊢
    exact e
theorem val_stable {W : Wd} (ok : W.Ok) (b : Bool) (x : Int) (f : F) (ρ : Ev) : ∀ s, s < W.n → W.val f (upV ρ x (itN b (fun X => W.val f (upV ρ x X)) (W.n + 1))) s = itN b (fun X => W.val f (upV ρ x X)) (W.n + 1) s :=
  itN_stable (φ := fun X => W.val f (upV ρ x X)) fun X Y h => body_mono ok (!b) f ρ x X Y h
/-! the tidy form is true where the statement is -/
theorem val_ren (W : Wd) : ∀ (f : F) {env : Int → Option Int} {n : Int} {ρ ρ' : Ev}, f.Cl (fun y => ∃ z, env y = some z) → (∀ y z, env y = some z → z < n ∧ ρ' z = ρ y) → W.val (f.ren env n).1 ρ' = W.val f ρ
  | .var x, env, n, ρ, ρ', c, h => by
    obtain ⟨z, hz⟩ := (show ∃ z, env x = some z from c)
    show ρ' ((env x).getD 0) = ρ x
    rw [hz]
    exact (h x z hz).2
  | .bin b f g, env, n, ρ, ρ', c, h => by
    have h1 := val_ren W f (n := n) c.1 h
    have h2 := val_ren W g (n := (f.ren env n).2) c.2 fun y z e => ⟨Int.lt_of_lt_of_le (h y z e).1 (ren_le f env n), (h y z e).2⟩
    show (fun s => if b then W.val (f.ren env n).1 ρ' s && W.val (g.ren env (f.ren env n).2).1 ρ' s else W.val (f.ren env n).1 ρ' s || W.val (g.ren env (f.ren env n).2).1 ρ' s) = _
    rw [h1, h2]
    rfl
  | .mod b l f, env, n, ρ, ρ', c, h => by
    have h1 := val_ren W f (n := n) c h
    show (fun s => if b then (W.foll s l).all (W.val (f.ren env n).1 ρ') else (W.foll s l).any (W.val (f.ren env n).1 ρ')) = _
    rw [h1]
    rfl
  | .fix b x f, env, n, ρ, ρ', c, h => by
    have e : (fun X => W.val (f.ren (upE env x n) (n + 1)).1 (upV ρ' n X)) = fun X => W.val f (upV ρ x X) := funext fun X => by
      refine val_ren W f (F.Cl.imp (f := f) c fun y hy => ?_) fun y z e => ?_
      · unfold upE
        by_cases q : y = x
        · exact ⟨n, if_pos q⟩
        · obtain ⟨z, hz⟩ := hy.resolve_left q
          exact ⟨z, by rw [if_neg q]; exact hz⟩
      · unfold upE at e
        unfold upV
        by_cases q : y = x
        · rw [if_pos q] at e
          cases e
          exact ⟨by omega, by rw [if_pos rfl, if_pos q]⟩
        · rw [if_neg q] at e
          have := h y z e
          exact ⟨by omega, by rw [if_neg (by omega), if_neg q]; exact this.2⟩
    show itN b (fun X => W.val (f.ren (upE env x n) (n + 1)).1 (upV ρ' n X)) (W.n + 1) = _
    rw [e]
    rfl
  | .const b, _, _, _, _, _, _ => rfl
  | .fact b p, _, _, _, _, _, _ => rfl
def ev0 : Ev := fun _ _ => false
theorem val_tidy (W : Wd) {f : F} (h : f.Closed) : W.val f.tidy ev0 = W.val f ev0 := val_ren W f (h.imp fun _ z => z.elim) fun _ _ z => nomatch z
end K22

set_option linter.all false
set_option maxHeartbeats 400000
namespace K22
/-! ### places in a tidy statement: the binders around it, the innermost one first -/
abbrev Fr := Bool × Int × F
def sig : List Fr → Sub
  | [] => []
  | (b, v, g) :: c => (v, (F.fix b v g).subE (sig c)) :: sig c
/-- the kinds of binders -/
def F.Kp (κ : Int → Bool) : F → Prop
  | .bin _ f g => f.Kp κ ∧ g.Kp κ
  | .mod _ _ f => f.Kp κ
  | .fix b x f => b = κ x ∧ 0 ≤ x ∧ f.Kp κ
  | _ => True
def ChOk (κ : Int → Bool) : List Fr → Int → Prop
  | [], _ => True
  | (b, v, g) :: c, m => v < m ∧ (F.fix b v g).Up v ∧ (F.fix b v g).Kp κ ∧ (F.fix b v g).Cl (Dom (sig c)) ∧ ChOk κ c v
theorem ChOk.sok {κ : Int → Bool} : ∀ {c : List Fr} {m : Int}, ChOk κ c m → SOk (sig c) m
  | [], m, _ => sok_nil m
  | (b, v, g) :: c, m, h => (sok_cons (Int.le_refl v) h.2.2.2.2.sok h.2.2.2.1).le (by have := h.1; omega)
theorem ChOk.le {κ : Int → Bool} : ∀ {c : List Fr} {m k : Int}, ChOk κ c m → m ≤ k → ChOk κ c k
  | [], _, _, _, _ => trivial
  | (b, v, g) :: c, m, k, h, e => ⟨by have := h.1; omega, h.2⟩
def rho (W : Wd) (α : Int → Nat) : List Fr → Ev
  | [] => ev0
  | (b, v, g) :: c => upV (rho W α c) v (itN b (fun X => W.val g (upV (rho W α c) v X)) (α v))
theorem rho_congr {W : Wd} {κ : Int → Bool} {α β : Int → Nat} : ∀ {c : List Fr} {m : Int}, ChOk κ c m → (∀ u, u < m → α u = β u) → rho W α c = rho W β c
  | [], _, _, _ => rfl
  | (b, v, g) :: c, m, h, e => by
    have i := rho_congr (W := W) h.2.2.2.2 fun u hu => e u (by have := h.1; omega)
    show upV (rho W α c) v (itN b (fun X => W.val g (upV (rho W α c) v X)) (α v)) = upV (rho W β c) v (itN b (fun X => W.val g (upV (rho W β c) v X)) (β v))
    rw [i, e v h.1]
/-- where a variable is bound -/
theorem ch_var {W : Wd} {κ : Int → Bool} {α : Int → Nat} {x : Int} : ∀ {c : List Fr} {m : Int}, ChOk κ c m → Dom (sig c) x →
    ∃ b g c', ChOk κ ((b, x, g) :: c') (x + 1) ∧ (F.var x).subE (sig c) = (F.fix b x g).subE (sig c') ∧ rho W α c x = itN b (fun X => W.val g (upV (rho W α c') x X)) (α x) ∧ ∀ u, u < x → Dom (sig c) u → Dom (sig c') u
  | [], _, _, d => let ⟨_, e⟩ := d; nomatch e
  | (b, v, g) :: c, m, h, d => by
    by_cases e : x = v
    · subst e
      refine ⟨b, g, c, ⟨by omega, h.2⟩, ?_, ?_, fun u hu hd => ?_⟩
      · show ((((x, (F.fix b x g).subE (sig c)) :: sig c).lookup x).getD (.var x)) = _
        rw [List.lookup_cons]
        simp
      · show upV _ x _ x = _
        unfold upV
        rw [if_pos rfl]
      · exact ((dom_cons u).mp hd).resolve_left (by omega)
    · have d' : Dom (sig c) x := ((dom_cons x).mp d).resolve_left e
      obtain ⟨b', g', c', h1, h2, h3, h4⟩ := ch_var (W := W) (α := α) h.2.2.2.2 d'
      refine ⟨b', g', c', h1, ?_, ?_, fun u hu hd => h4 u hu (((dom_cons u).mp hd).resolve_left fun z => ?_)⟩
      · rw [← h2]
        show ((((v, (F.fix b v g).subE (sig c)) :: sig c).lookup x).getD (.var x)) = ((sig c).lookup x).getD (.var x)
        rw [List.lookup_cons, beq_eq_false_iff_ne.mpr e]
      · rw [← h3]
        show upV _ v _ x = _
        unfold upV
        rw [if_neg e]
      · have := h.2.2.2.2.sok.dom d'
        omega
/-- a place, the rounds that are left for each binder -/
structure Good (W : Wd) (κ : Int → Bool) (pl : Bool) (c : List Fr) (h : F) (α : Int → Nat) : Prop where
  ch : ∃ m, ChOk κ c m ∧ h.Up m
  kp : h.Kp κ
  cl : h.Cl (Dom (sig c))
  far : ∀ u, ¬ Dom (sig c) u → α u = W.n + 1
  own : ∀ u, κ u ≠ pl → α u = W.n + 1
/-- the rounds fell from α0 to α, z being the least binder unfolded -/
def Rk (κ : Int → Bool) (pl : Bool) (α0 α : Int → Nat) (z : Int) : Prop := (∀ u, z < 0 ∨ u ≤ z → α u ≤ α0 u) ∧ (0 ≤ z → κ z = pl → α z < α0 z)
/-- a binder is unfolded -/
theorem unfold_at {W : Wd} (ok : W.Ok) {κ : Int → Bool} {pl : Bool} {b : Bool} {v : Int} {g : F} {c : List Fr} {α α0 : Int → Nat} {z : Int} {s : Nat} (hc : ChOk κ ((b, v, g) :: c) (v + 1)) (hs : s < W.n)
    (hv : itN b (fun X => W.val g (upV (rho W α c) v X)) (α v) s = !pl) (far : ∀ u, u < v → ¬ Dom (sig c) u → α u = W.n + 1) (own : ∀ u, κ u ≠ pl → α u = W.n + 1) (hk : Rk κ pl α0 α z) :
    ∃ β, Good W κ pl ((b, v, g) :: c) g β ∧ W.val g (rho W β ((b, v, g) :: c)) s = (!pl) ∧ Rk κ pl α0 β (lst z v) := by
  obtain ⟨_, up, kp, cl, hc'⟩ := id hc
  have v0 : 0 ≤ v := kp.2.1
  have bk : b = κ v := kp.1
  -- the rounds left for v
  have key : ∃ k, W.val g (upV (rho W α c) v (itN b (fun X => W.val g (upV (rho W α c) v X)) k)) s = (!pl) ∧ k ≤ α v ∧ (κ v = pl → k < α v) ∧ (κ v ≠ pl → k = α v) := by
    by_cases e : κ v = pl
    · cases q : α v with
      | zero =>
        rw [q] at hv
        have hv : b = !pl := hv
        rw [bk, e] at hv
        exact absurd hv (by cases pl <;> decide)
      | succ k =>
        rw [q] at hv
        exact ⟨k, hv, by omega, fun _ => by omega, fun n => absurd e n⟩
    · have q := own v e
      rw [q] at hv
      exact ⟨W.n + 1, by rw [val_stable ok b v g _ s hs]; exact hv, by omega, fun z => absurd z e, fun _ => q.symm⟩
  obtain ⟨k, hk1, hk2, hk3, hk4⟩ := key
  let β : Int → Nat := fun u => if u < v then α u else if u = v then k else W.n + 1
  have b1 : ∀ u, u < v → β u = α u := fun u hu => if_pos hu
  have b2 : β v = k := by
    show (if v < v then α v else if v = v then k else W.n + 1) = k
    rw [if_neg (by omega), if_pos rfl]
  have b3 : ∀ u, v < u → β u = W.n + 1 := fun u hu => by
    show (if u < v then α u else if u = v then k else W.n + 1) = _
    rw [if_neg (by omega), if_neg (by omega)]
  have er : rho W β c = rho W α c := rho_congr hc' b1
  refine ⟨β, ⟨⟨v + 1, hc, up.2⟩, kp.2.2, cl_cons cl, fun u hu => ?_, fun u hu => ?_⟩, ?_, ?_⟩
  · have hu1 : ¬ u = v := fun e => hu ((dom_cons u).mpr (.inl e))
    have hu2 : ¬ Dom (sig c) u := fun e => hu ((dom_cons u).mpr (.inr e))
    by_cases l : u < v
    · rw [b1 u l]
      exact far u l hu2
    · exact b3 u (by omega)
  · by_cases l : u < v
    · rw [b1 u l]
      exact own u hu
    · by_cases e : u = v
      · subst e
        rw [b2, hk4 hu]
        exact own u hu
      · exact b3 u (by omega)
  · show W.val g (upV (rho W β c) v (itN b (fun X => W.val g (upV (rho W β c) v X)) (β v))) s = (!pl)
    rw [er, b2]
    exact hk1
  · obtain ⟨r1, r2⟩ := hk
    unfold lst
    by_cases q : z < 0 ∨ v < z
    · rw [if_pos q]
      have le : ∀ u, u ≤ v → α u ≤ α0 u := fun u hu => r1 u (by omega)
      refine ⟨fun u hu => ?_, fun _ e => ?_⟩
      · have hu' : u ≤ v := by omega
        by_cases l : u < v
        · rw [b1 u l]
          exact le u hu'
        · have : u = v := by omega
          subst this
          rw [b2]
          exact Nat.le_trans hk2 (le u hu')
      · rw [b2]
        exact Nat.lt_of_lt_of_le (hk3 e) (le v (Int.le_refl v))
    · rw [if_neg q]
      have hz : 0 ≤ z ∧ z ≤ v := by omega
      have same : ∀ u, u ≤ z → β u ≤ α u := fun u hu => by
        by_cases l : u < v
        · rw [b1 u l]
          exact Nat.le_refl _
        · have : u = v := by omega
          subst this
          rw [b2]
          exact hk2
      exact ⟨fun u hu => Nat.le_trans (same u (by omega)) (r1 u (by omega)), fun h0 e => Nat.lt_of_le_of_lt (same z (Int.le_refl z)) (r2 h0 e)⟩
/-- the top of a row's part: no variable and no binder -/
theorem head_of {W : Wd} (ok : W.Ok) {κ : Int → Bool} {pl : Bool} {sts : List St2} {s : Nat} (hs : s < W.n) : ∀ (n : Nat) {c : List Fr} {h : F} {z : Int} {r : F} {α α0 : Int → Nat}, RowR sts n (h.subE (sig c)) z r → Good W κ pl c h α → W.val h (rho W α c) s = (!pl) → Rk κ pl α0 α z →
    ∃ n' c' h' z' α', RowR sts n' (h'.subE (sig c')) z' r ∧ Good W κ pl c' h' α' ∧ W.val h' (rho W α' c') s = (!pl) ∧ Rk κ pl α0 α' z' ∧ h'.isVar = false ∧ h'.isFix = false ∧ (z' < 0 → z < 0 ∧ h' = h)
  | 0, _, _, _, _, _, _, R, _, _, _ => R.elim
  | n + 1, c, h, z, r, α, α0, R, G, hv, hk => by
    have binder : ∀ (b : Bool) (v : Int) (g : F) (c' : List Fr), ChOk κ ((b, v, g) :: c') (v + 1) → RowR sts (n + 1) ((F.fix b v g).subE (sig c')) z r → itN b (fun X => W.val g (upV (rho W α c') v X)) (α v) s = (!pl) → (∀ u, u < v → ¬ Dom (sig c') u → α u = W.n + 1) →
        ∃ n' c' h' z' α', RowR sts n' (h'.subE (sig c')) z' r ∧ Good W κ pl c' h' α' ∧ W.val h' (rho W α' c') s = (!pl) ∧ Rk κ pl α0 α' z' ∧ h'.isVar = false ∧ h'.isFix = false ∧ (z' < 0 → z < 0 ∧ h' = h) := fun b v g c' hc R hv far => by
      obtain ⟨β, G', hv', hk'⟩ := unfold_at ok hc hs hv far G.own hk
      have e : ((F.fix b v g).subE (sig c')).unf = g.subE (sig ((b, v, g) :: c')) := unf_subE hc.2.1.2 hc.2.2.2.2.sok
      have R' : RowR sts n ((F.fix b v g).subE (sig c')).unf (lst z v) r := R
      rw [e] at R'
      obtain ⟨n', c2, h', z', α', q1, q2, q3, q4, q5, q6, q7⟩ := head_of ok hs n R' G' hv' hk'
      refine ⟨n', c2, h', z', α', q1, q2, q3, q4, q5, q6, fun hz => ?_⟩
      have := (q7 hz).1
      have v0 : 0 ≤ v := hc.2.2.1.2.1
      unfold lst at this
      split at this <;> omega
    obtain ⟨m, hc, hu⟩ := G.ch
    cases h with
    | var x =>
      obtain ⟨b, g, c', h1, h2, h3, h4⟩ := ch_var (W := W) (α := α) hc (show Dom (sig c) x from G.cl)
      rw [h2] at R
      have hv : rho W α c x s = (!pl) := hv
      rw [h3] at hv
      exact binder b x g c' h1 R hv fun u hu hd => G.far u fun z => hd (h4 u hu z)
    | fix b x g =>
      have cx : ChOk κ ((b, x, g) :: c) (x + 1) := ⟨by omega, ⟨Int.le_refl x, hu.2⟩, G.kp, G.cl, hc.le hu.1⟩
      refine binder b x g c cx R ?_ fun u _ hd => G.far u hd
      have e : α x = W.n + 1 := G.far x fun d => by
        have := hc.sok.dom d
        have := hu.1
        omega
      rw [e]
      exact hv
    | const b => exact ⟨_, c, _, z, α, R, G, hv, hk, rfl, rfl, fun hz => ⟨hz, rfl⟩⟩
    | fact b p => exact ⟨_, c, _, z, α, R, G, hv, hk, rfl, rfl, fun hz => ⟨hz, rfl⟩⟩
    | bin b f g => exact ⟨_, c, _, z, α, R, G, hv, hk, rfl, rfl, fun hz => ⟨hz, rfl⟩⟩
    | mod b l f => exact ⟨_, c, _, z, α, R, G, hv, hk, rfl, rfl, fun hz => ⟨hz, rfl⟩⟩
/-- the measure: for each priority what is left; for priority 0 how much of the row (and of the statement) is left -/
def msr (nb : Nat) (α0 : Int → Nat) (m0 : Nat) : Nat → Nat := fun q => if q = 0 then m0 else α0 ((nb : Int) - ((q + 1) / 2 : Nat))
def PV (W : Wd) (κ : Int → Bool) (nb : Nat) (pl : Bool) (sts : List St2) (q : Po) (a : Nat → Nat) : Prop :=
  ∃ (i : Nat) (c : List Fr) (h : F) (z : Int) (α α0 : Int → Nat), q.2 = .var (i : Nat) ∧ sts[i]? = some (h.subE (sig c), z) ∧ Good W κ pl c h α ∧ W.val h (rho W α c) q.1 = (!pl) ∧ Rk κ pl α0 α z ∧ a = msr nb α0 (if z < 0 then 17 * h.size + 16 else 0)
def PR (W : Wd) (κ : Int → Bool) (nb : Nat) (pl : Bool) (sts : List St2) (q : Po) (a : Nat → Nat) : Prop :=
  ∃ (n : Nat) (c : List Fr) (h : F) (z : Int) (α α0 : Int → Nat), RowR sts n (h.subE (sig c)) z q.2 ∧ q.2.size ≤ 15 ∧ Good W κ pl c h α ∧ W.val h (rho W α c) q.1 = (!pl) ∧ Rk κ pl α0 α z ∧ a = msr nb α0 (q.2.size + if z < 0 then 17 * h.size else 0)
def PC (W : Wd) (κ : Int → Bool) (nb : Nat) (pl : Bool) (sts : List St2) (q : Po) (a : Nat → Nat) : Prop := q.1 < W.n ∧ (PV W κ nb pl sts q a ∨ PR W κ nb pl sts q a)
theorem msr_dec {pl : Bool} {nb m m' : Nat} {α0 : Int → Nat} (h : m' < m) : Dec pl 0 (msr nb α0 m) (msr nb α0 m') := by
  refine ⟨fun q _ => ?_, fun _ => ?_⟩
  · unfold msr
    by_cases e : q = 0
    · rw [if_pos e, if_pos e]
      omega
    · rw [if_neg e, if_neg e]
      exact Nat.le_refl _
  · show (if (0 : Nat) = 0 then m' else _) < (if (0 : Nat) = 0 then m else _)
    rw [if_pos rfl, if_pos rfl]
    exact h
theorem size_pos (f : F) : 1 ≤ f.size := by
  cases f <;> simp only [F.size] <;> omega
theorem F.size_bin (b : Bool) (f g : F) : (F.bin b f g).size = f.size + g.size + 1 := rfl
theorem F.size_mod (b : Bool) (l : Int) (f : F) : (F.mod b l f).size = f.size + 1 := rfl
theorem pcert_row {W : Wd} (ok : W.Ok) {κ : Int → Bool} {nb : Nat} {pl : Bool} {sts : List St2} {M : Mc} {q : Po} {a : Nat → Nat} (hs : q.1 < W.n) (h : PR W κ nb pl sts q a) :
    (W.own q = pl → ∃ t ∈ succ W M q, ∃ b, PC W κ nb pl sts t b ∧ Dec pl (M.pri q.2) a b) ∧ (W.own q ≠ pl → ∀ t ∈ succ W M q, ∃ b, PC W κ nb pl sts t b ∧ Dec pl (M.pri q.2) a b) := by
  obtain ⟨s, r⟩ := q
  obtain ⟨n0, c0, h0, z0, α1, α0, R0, h15, G0, hv0, hk0, rfl⟩ := h
  obtain ⟨n, c, h, z, α, R, G, hv, hk, nv, nf, hz⟩ := head_of ok hs n0 R0 G0 hv0 hk0
  dsimp only at hs h15 hv R
  cases n with
  | zero => exact R.elim
  | succ n =>
    have plain : r = h → W.plain s h = (!pl) → (∀ x, h ≠ .var x) → (∀ b f g, h ≠ .bin b f g) → (∀ b l f, h ≠ .mod b l f) → (∀ b x f, h ≠ .fix b x f) →
        (W.own (s, r) = pl → ∃ t ∈ succ W M (s, r), ∃ b, PC W κ nb pl sts t b ∧ Dec pl (M.pri r) (msr nb α0 (r.size + if z0 < 0 then 17 * h0.size else 0)) b) ∧ (W.own (s, r) ≠ pl → ∀ t ∈ succ W M (s, r), ∃ b, PC W κ nb pl sts t b ∧ Dec pl (M.pri r) (msr nb α0 (r.size + if z0 < 0 then 17 * h0.size else 0)) b) := fun e hp n1 n2 n3 n4 => by
      subst e
      cases r with
      | var x => exact absurd rfl (n1 x)
      | bin b f g => exact absurd rfl (n2 b f g)
      | mod b l f => exact absurd rfl (n3 b l f)
      | fix b x f => exact absurd rfl (n4 b x f)
      | const b =>
        refine ⟨fun o => ?_, fun _ t ht => nomatch ht⟩
        have o : W.plain s (.const b) = pl := o
        rw [o] at hp
        exact absurd hp (by cases pl <;> decide)
      | fact b p =>
        refine ⟨fun o => ?_, fun _ t ht => nomatch ht⟩
        have o : W.plain s (.fact b p) = pl := o
        rw [o] at hp
        exact absurd hp (by cases pl <;> decide)
    obtain ⟨m, hc, hu⟩ := G.ch
    cases h with
    | var x => cases nv
    | fix b x g => cases nf
    | const b => exact plain R hv (fun _ z => nomatch z) (fun _ _ _ z => nomatch z) (fun _ _ _ z => nomatch z) fun _ _ _ z => nomatch z
    | fact b p => exact plain R hv (fun _ z => nomatch z) (fun _ _ _ z => nomatch z) (fun _ _ _ z => nomatch z) fun _ _ _ z => nomatch z
    | bin b f g =>
      obtain ⟨r1, r2, R1, R2, e⟩ := R
      subst e
      rw [val_bin] at hv
      rw [F.size_bin] at h15
      have kid : ∀ (f' r' : F), RowR sts n (f'.subE (sig c)) z r' → Good W κ pl c f' α → W.val f' (rho W α c) s = (!pl) → r'.size + 1 ≤ (F.bin b r1 r2).size → f'.size + 1 ≤ (F.bin b f g).size →
          ∃ b', PC W κ nb pl sts (s, r') b' ∧ Dec pl 0 (msr nb α0 ((F.bin b r1 r2).size + if z0 < 0 then 17 * h0.size else 0)) b' := fun f' r' Rr G' hv' l1 l2 => by
        rw [F.size_bin] at l1
        refine ⟨msr nb α0 (r'.size + if z < 0 then 17 * f'.size else 0), ⟨hs, .inr ⟨n, c, f', z, α, α0, Rr, by show r'.size ≤ 15; omega, G', hv', hk, rfl⟩⟩, msr_dec ?_⟩
        rw [F.size_bin]
        by_cases zz : z < 0
        · obtain ⟨z1, z2⟩ := hz zz
          rw [if_pos zz, if_pos z1, ← z2]
          omega
        · rw [if_neg zz]
          omega
      have k1 := fun hv' => kid f r1 R1 ⟨⟨m, hc, hu.1⟩, G.kp.1, G.cl.1, G.far, G.own⟩ hv' (by rw [F.size_bin]; omega) (by rw [F.size_bin]; omega)
      have k2 := fun hv' => kid g r2 R2 ⟨⟨m, hc, hu.2⟩, G.kp.2, G.cl.2, G.far, G.own⟩ hv' (by rw [F.size_bin]; omega) (by rw [F.size_bin]; omega)
      refine ⟨fun o => ?_, fun o t ht => ?_⟩
      · rcases hv.1 o with q | q
        · exact ⟨(s, r1), List.mem_cons_self, k1 q⟩
        · exact ⟨(s, r2), List.mem_cons_of_mem _ List.mem_cons_self, k2 q⟩
      · have q := hv.2 o
        have ht : t ∈ [(s, r1), (s, r2)] := ht
        rcases List.mem_cons.mp ht with rfl | ht
        · exact k1 q.1
        · rw [List.mem_singleton.mp ht]
          exact k2 q.2
    | mod b l f =>
      obtain ⟨i, hi, e⟩ := R
      subst e
      rw [val_mod] at hv
      have kid : ∀ t, t ∈ W.foll s l → W.val f (rho W α c) t = (!pl) → ∃ b', PC W κ nb pl sts (t, .var (i : Nat)) b' ∧ Dec pl 0 (msr nb α0 ((F.mod b l (.var (i : Nat))).size + if z0 < 0 then 17 * h0.size else 0)) b' := fun t ht hv' => by
        refine ⟨msr nb α0 (if z < 0 then 17 * f.size + 16 else 0), ⟨foll_lt ok ht, .inl ⟨i, c, f, z, α, α0, rfl, hi, ⟨⟨m, hc, hu⟩, G.kp, G.cl, G.far, G.own⟩, hv', hk, rfl⟩⟩, msr_dec ?_⟩
        have e2 : (F.mod b l (.var (i : Nat))).size = 2 := rfl
        rw [e2]
        by_cases zz : z < 0
        · obtain ⟨z1, z2⟩ := hz zz
          rw [if_pos zz, if_pos z1, ← z2, F.size_mod]
          omega
        · rw [if_neg zz]
          omega
      refine ⟨fun o => ?_, fun o t ht => ?_⟩
      · obtain ⟨t, ht, q⟩ := hv.1 o
        exact ⟨(t, .var (i : Nat)), List.mem_map.mpr ⟨t, ht, rfl⟩, kid t ht q⟩
      · obtain ⟨u, hu', rfl⟩ := List.mem_map.mp (show t ∈ (W.foll s l).map fun t => (t, F.var (i : Nat)) from ht)
        exact kid u hu' (hv.2 o u hu')
theorem prio_par {nb : Nat} {κ : Int → Bool} {z : Int} (h0 : 0 ≤ z) (h1 : z < nb) : (prio nb κ z % 2 == 1) = !κ z := by
  have e := prio_val (κ := κ) h0 h1
  cases q : κ z with
  | true =>
    rw [q] at e
    have : prio nb κ z % 2 = 0 := by
      have e : ((prio nb κ z : Nat) : Int) = 2 * ((nb : Int) - z) - 0 := e
      omega
    rw [this]
    rfl
  | false =>
    rw [q] at e
    have : prio nb κ z % 2 = 1 := by
      have e : ((prio nb κ z : Nat) : Int) = 2 * ((nb : Int) - z) - 1 := e
      omega
    rw [this]
    rfl
theorem prio_idx {nb : Nat} {κ : Int → Bool} {z : Int} (h0 : 0 ≤ z) (h1 : z < nb) {q : Nat} (hq : prio nb κ z ≤ q) : q ≠ 0 ∧ (nb : Int) - ((q + 1) / 2 : Nat) ≤ z ∧ (q = prio nb κ z → (nb : Int) - ((q + 1) / 2 : Nat) = z) := by
  have e := prio_val (κ := κ) h0 h1
  cases k : κ z
  · rw [k] at e
    have e : ((prio nb κ z : Nat) : Int) = 2 * ((nb : Int) - z) - 1 := e
    omega
  · rw [k] at e
    have e : ((prio nb κ z : Nat) : Int) = 2 * ((nb : Int) - z) - 0 := e
    omega
theorem pcert_var {W : Wd} (ok : W.Ok) {N nb : Nat} {κ : Int → Bool} {f : F} {pl : Bool} {sts : List St2} {rows : List F} (m : MathOk N f nb κ) (B : Built N f sts rows) {q : Po} {a : Nat → Nat} (hs : q.1 < W.n) (h : PV W κ nb pl sts q a) :
    (W.own q = pl → ∃ t ∈ succ W (mcOf sts rows nb κ) q, ∃ b, PC W κ nb pl sts t b ∧ Dec pl ((mcOf sts rows nb κ).pri q.2) a b) ∧ (W.own q ≠ pl → ∀ t ∈ succ W (mcOf sts rows nb κ) q, ∃ b, PC W κ nb pl sts t b ∧ Dec pl ((mcOf sts rows nb κ).pri q.2) a b) := by
  obtain ⟨s, r⟩ := q
  obtain ⟨i, c, h, z, α, α0, e, hi, G, hv, hk, rfl⟩ := h
  dsimp only at hs e hv
  subst e
  have hil := (List.getElem?_eq_some_iff.mp hi).1
  have ei : (((i : Nat) : Int)).toNat = i := by omega
  obtain ⟨r, hr⟩ : ∃ r, rows[i]? = some r := ⟨_, List.getElem?_eq_getElem (by rw [B.len]; exact hil)⟩
  have er : (mcOf sts rows nb κ).rowAt ((i : Nat) : Int) = r := by
    show rows.getD _ _ = r
    rw [ei, List.getD_eq_getElem?_getD, hr]
    rfl
  have ep : (mcOf sts rows nb κ).pri (.var ((i : Nat) : Int)) = prio nb κ z := by
    show (sts.map fun st => prio nb κ st.2).getD _ 0 = _
    rw [ei, List.getD_eq_getElem?_getD, List.getElem?_map, hi]
    rfl
  have R := B.row i _ r hi hr
  have h15 : r.size ≤ 15 := by
    have h3 := (mcOf_ok m B).2 r (List.mem_of_getElem? hr)
    have e1 := F.size_le r
    have e2 : 2 ^ (r.ht + 1) ≤ 2 ^ 4 := Nat.pow_le_pow_right (by decide) (by omega)
    omega
  have zb : z = -1 ∨ (0 ≤ z ∧ z < nb) := by
    rcases (B.un _ (List.mem_of_getElem? hi)).2 with e | ⟨b, g, e⟩
    · exact .inl e
    · exact .inr (m.bnd.of b _ g e).2
  have kid : ∃ b, PC W κ nb pl sts (s, r) b ∧ Dec pl (prio nb κ z) (msr nb α0 (if z < 0 then 17 * h.size + 16 else 0)) b := by
    refine ⟨msr nb α (r.size + 17 * h.size), ⟨hs, .inr ⟨N, c, h, -1, α, α, R, h15, G, hv, ⟨fun u _ => Nat.le_refl _, fun z => absurd z (by decide)⟩, rfl⟩⟩, ?_⟩
    rcases zb with e | ⟨z0, z1⟩
    · subst e
      have e0 : prio nb κ (-1) = 0 := rfl
      rw [e0, if_pos (by decide)]
      refine ⟨fun q _ => ?_, fun _ => ?_⟩
      · unfold msr
        by_cases e : q = 0
        · rw [if_pos e, if_pos e]
          omega
        · rw [if_neg e, if_neg e]
          exact hk.1 _ (.inl (by decide))
      · show (if (0 : Nat) = 0 then _ else _) < (if (0 : Nat) = 0 then _ else _)
        rw [if_pos rfl, if_pos rfl]
        omega
    · refine ⟨fun q hq => ?_, fun hp => ?_⟩
      · obtain ⟨p1, p2, _⟩ := prio_idx z0 z1 hq
        unfold msr
        rw [if_neg p1, if_neg p1]
        exact hk.1 _ (.inr p2)
      · obtain ⟨p1, _, p3⟩ := prio_idx (κ := κ) z0 z1 (Nat.le_refl _)
        unfold msr
        rw [if_neg p1, if_neg p1, p3 rfl]
        refine hk.2 z0 ?_
        rw [prio_par z0 z1] at hp
        revert hp
        cases κ z <;> cases pl <;> simp
  have hsucc : succ W (mcOf sts rows nb κ) (s, .var ((i : Nat) : Int)) = [(s, r)] := by
    show [(s, (mcOf sts rows nb κ).rowAt ((i : Nat) : Int))] = _
    rw [er]
  rw [hsucc]
  dsimp only
  rw [ep]
  exact ⟨fun _ => ⟨(s, r), List.mem_cons_self, kid⟩, fun _ t ht => by rw [List.mem_singleton.mp ht]; exact kid⟩
/-- a certificate where the statement has the player's value -/
theorem cert_of {W : Wd} (ok : W.Ok) {N nb : Nat} {κ : Int → Bool} {f : F} {pl : Bool} {sts : List St2} {rows : List F} (m : MathOk N f nb κ) (kp : f.tidy.Kp κ) (hc : f.Closed) (B : Built N f sts rows) {s : Nat} (hs : s < W.n) (hv : W.val f ev0 s = !pl) :
    ∃ C a, PCert W (mcOf sts rows nb κ) pl C ∧ C (s, .var ((mcOf sts rows nb κ).start : Nat)) a := by
  refine ⟨PC W κ nb pl sts, msr nb (fun _ => W.n + 1) (17 * f.tidy.size + 16), ⟨fun q a h o => ?_, fun q a h o => ?_⟩, hs, .inl ⟨0, [], f.tidy, -1, fun _ => W.n + 1, fun _ => W.n + 1, rfl, ?_, ⟨⟨0, trivial, tidy_up f⟩, kp, (tidy_closed hc).imp fun _ z => z.elim, fun _ _ => rfl, fun _ _ => rfl⟩, ?_, ⟨fun _ _ => Nat.le_refl _, fun z => absurd z (by decide)⟩, rfl⟩⟩
  · rcases h.2 with k | k
    · exact (pcert_var ok m B h.1 k).1 o
    · exact (pcert_row ok h.1 k).1 o
  · rcases h.2 with k | k
    · exact (pcert_var ok m B h.1 k).2 o
    · exact (pcert_row ok h.1 k).2 o
  · rw [B.hd]
    show some (f.tidy, (-1 : Int)) = some (f.tidy.subE [], -1)
    rw [F.subE_nil]
  · show W.val f.tidy ev0 s = !pl
    rw [val_tidy W hc]
    exact hv
end K22

set_option linter.all false
set_option maxHeartbeats 400000
namespace K22
/-! ### a guarded statement's closure: rows are low, binders are numbered -/
theorem F.Sk.mono : ∀ {n h n' h' : Nat} {f : F}, f.Sk n h → n ≤ n' → h ≤ h' → f.Sk n' h'
  | 0, _, _, _, _, q, _, _ => q.elim
  | n + 1, h, 0, h', f, q, a, b => absurd a (Nat.not_succ_le_zero n)
  | n + 1, h, n' + 1, h', .const _, q, a, b => trivial
  | n + 1, h, n' + 1, h', .fact _ _, q, a, b => trivial
  | n + 1, h, n' + 1, h', .var _, q, a, b => q.elim
  | n + 1, h, n' + 1, h', .mod _ _ _, q, a, b => Nat.le_trans (show 1 ≤ h from q) b
  | n + 1, h, n' + 1, h', .bin _ f g, ⟨k, e, q1, q2⟩, a, b => ⟨h' - 1, by omega, F.Sk.mono q1 (by omega) (by omega), F.Sk.mono q2 (by omega) (by omega)⟩
  | n + 1, h, n' + 1, h', .fix b x f, q, a, c => F.Sk.mono (n := n) (f := (F.fix b x f).unf) q (by omega) c
/-- the row at a place -/
theorem sk_at : ∀ {h : F} {σ : Sub} {m : Int} {n J : Nat}, h.Up m → SOk σ m → h.Cl (Dom σ) → h.gd = true → (∀ x, h.opn x = true → ∀ t, σ.lookup x = some t → t.Sk n J) → (h.subE σ).Sk (n + h.ht + 1) (h.ht + J)
  | .const _, _, _, _, _, _, _, _, _, _ => trivial
  | .fact _ _, _, _, _, _, _, _, _, _, _ => trivial
  | .var x, σ, m, n, J, u, s, c, g, q => by
    obtain ⟨t, e⟩ := (show Dom σ x from c)
    show ((σ.lookup x).getD (.var x)).Sk _ _
    rw [e]
    exact (q x (decide_eq_true rfl) t e).mono (by omega) (by omega)
  | .mod b l f, σ, m, n, J, u, s, c, g, q => by
    show 1 ≤ f.ht + 1 + J
    omega
  | .bin b f g, σ, m, n, J, u, s, c, gg, q => by
    have g1 : (f.gd && g.gd) = true := gg
    obtain ⟨ga, gb⟩ := Bool.and_eq_true_iff.mp g1
    have o : ∀ x, (F.bin b f g).opn x = (f.opn x || g.opn x) := fun _ => rfl
    have h1 := sk_at (n := n) (J := J) u.1 s c.1 ga fun x hx => q x (by rw [o, hx]; rfl)
    have h2 := sk_at (n := n) (J := J) u.2 s c.2 gb fun x hx => q x (by rw [o, hx, Bool.or_true])
    show ∃ k, max f.ht g.ht + 1 + J = k + 1 ∧ _
    exact ⟨max f.ht g.ht + J, by omega, h1.mono (by show n + f.ht + 1 ≤ n + (max f.ht g.ht + 1); omega) (by omega), h2.mono (by show n + g.ht + 1 ≤ n + (max f.ht g.ht + 1); omega) (by omega)⟩
  | .fix b v g, σ, m, n, J, u, s, c, gg, q => by
    have g1 : (!g.opn v && g.gd) = true := gg
    obtain ⟨ga, gb⟩ := Bool.and_eq_true_iff.mp g1
    have ga : g.opn v = false := by simpa using ga
    have h1 := sk_at (h := g) (σ := (v, (F.fix b v g).subE σ) :: σ) (n := n) (J := J) u.2 (sok_cons u.1 s c) (cl_cons c) gb fun x hx t e => by
      have ne : ¬ x = v := fun z => by
        rw [z, ga] at hx
        cases hx
      rw [List.lookup_cons, beq_eq_false_iff_ne.mpr ne] at e
      refine q x ?_ t e
      show (!decide (v = x) && g.opn x) = true
      rw [hx, decide_eq_false fun z => ne z.symm]
      rfl
    show ((F.fix b v g).subE σ).unf.Sk (n + (g.ht + 1)) (g.ht + 1 + J)
    rw [unf_subE u.2 (s.le u.1)]
    exact h1.mono (by omega) (by omega)
def lvJ (d : Nat) : Nat := if d ≤ 1 then 0 else d
theorem lvJ_le {a b : Nat} (h : a ≤ b) : lvJ a ≤ lvJ b := by
  unfold lvJ
  split <;> split <;> omega
theorem lvJ_sub (d : Nat) : lvJ d ≤ d := by
  unfold lvJ
  split <;> omega
theorem cl_sk : ∀ {h : F} {σ : Sub} {m : Int} {d d0 : Nat}, h.Up m → SOk σ m → h.Cl (Dom σ) → h.gd = true → d + h.ht ≤ 3 → d0 ≤ d → (∀ x, h.opn x = true → ∀ t, σ.lookup x = some t → t.Sk (4 * d0) (lvJ d0)) → (∀ x t, σ.lookup x = some t → t.Sk (4 * (d + 1)) (lvJ (d + 1))) →
    ∀ y ∈ h.cl σ, y.Sk 16 3
  | h, σ, m, d, d0, u, s, c, g, hd, h0, q, w => by
    have here : (h.subE σ).Sk 16 3 := (sk_at u s c g q).mono (by omega) (by have := lvJ_sub d0; omega)
    cases h with
    | const b =>
      intro y hy
      rw [List.mem_singleton.mp hy]
      exact here
    | fact b p =>
      intro y hy
      rw [List.mem_singleton.mp hy]
      exact here
    | var x =>
      intro y hy
      rw [List.mem_singleton.mp hy]
      exact here
    | bin b f1 f2 =>
      intro y hy
      have g1 : (f1.gd && f2.gd) = true := g
      obtain ⟨ga, gb⟩ := Bool.and_eq_true_iff.mp g1
      have o : ∀ x, (F.bin b f1 f2).opn x = (f1.opn x || f2.opn x) := fun _ => rfl
      have hd' : d + (max f1.ht f2.ht + 1) ≤ 3 := hd
      have w' : ∀ x t, σ.lookup x = some t → t.Sk (4 * (d + 1 + 1)) (lvJ (d + 1 + 1)) := fun x t e => (w x t e).mono (by omega) (lvJ_le (by omega))
      rcases List.mem_cons.mp hy with e | hy
      · rw [e]
        exact here
      · rcases List.mem_append.mp hy with hy | hy
        · exact cl_sk (d := d + 1) (d0 := d0) u.1 s c.1 ga (by omega) (by omega) (fun x hx => q x (by rw [o, hx]; rfl)) w' y hy
        · exact cl_sk (d := d + 1) (d0 := d0) u.2 s c.2 gb (by omega) (by omega) (fun x hx => q x (by rw [o, hx, Bool.or_true])) w' y hy
    | mod b l f =>
      intro y hy
      have hd' : d + (f.ht + 1) ≤ 3 := hd
      rcases List.mem_cons.mp hy with e | hy
      · rw [e]
        exact here
      · exact cl_sk (h := f) (d := d + 1) (d0 := d + 1) u s c g (by omega) (Nat.le_refl _) (fun x _ t e => w x t e) (fun x t e => (w x t e).mono (by omega) (lvJ_le (by omega))) y hy
    | fix b v f =>
      intro y hy
      have hd' : d + (f.ht + 1) ≤ 3 := hd
      have g1 : (!f.opn v && f.gd) = true := g
      obtain ⟨ga, gb⟩ := Bool.and_eq_true_iff.mp g1
      have ga : f.opn v = false := by simpa using ga
      rcases List.mem_cons.mp hy with e | hy
      · rw [e]
        exact here
      · have look : ∀ x t, ((v, (F.fix b v f).subE σ) :: σ).lookup x = some t → (x = v ∧ t = (F.fix b v f).subE σ) ∨ (¬ x = v ∧ σ.lookup x = some t) := fun x t e => by
          rw [List.lookup_cons] at e
          by_cases z : x = v
          · subst z
            rw [beq_self_eq_true] at e
            exact .inl ⟨rfl, (Option.some.inj e).symm⟩
          · rw [beq_eq_false_iff_ne.mpr z] at e
            exact .inr ⟨z, e⟩
        have q' : ∀ x, f.opn x = true → ∀ t, ((v, (F.fix b v f).subE σ) :: σ).lookup x = some t → t.Sk (4 * d0) (lvJ d0) := fun x hx t e => by
          rcases look x t e with ⟨z, _⟩ | ⟨z, e⟩
          · rw [z, ga] at hx
            cases hx
          · refine q x ?_ t e
            show (!decide (v = x) && f.opn x) = true
            rw [hx, decide_eq_false fun k => z k.symm]
            rfl
        have s' := sok_cons u.1 s c
        have c' := cl_cons (t := (F.fix b v f).subE σ) c
        refine cl_sk (h := f) (d := d + 1) (d0 := d0) u.2 s' c' gb (by omega) (by omega) q' (fun x t e => ?_) y hy
        rcases look x t e with ⟨_, e⟩ | ⟨_, e⟩
        · rw [e]
          have r := sk_at (h := f) u.2 s' c' gb q'
          have r2 : ((F.fix b v f).subE σ).Sk (4 * d0 + f.ht + 1 + 1) (f.ht + lvJ d0) := by
            show ((F.fix b v f).subE σ).unf.Sk (4 * d0 + f.ht + 1) (f.ht + lvJ d0)
            rw [unf_subE u.2 (s.le u.1)]
            exact r
          refine r2.mono (by omega) ?_
          unfold lvJ
          split <;> split <;> omega
        · exact (w x t e).mono (by omega) (lvJ_le (by omega))
theorem opn_cl : ∀ {f : F} {D : Int → Prop} {x : Int}, f.Cl D → f.opn x = true → D x
  | .var y, D, x, c, h => by
    have : y = x := of_decide_eq_true h
    rw [← this]
    exact c
  | .bin _ f g, D, x, c, h => (Bool.or_eq_true_iff.mp (show (f.opn x || g.opn x) = true from h)).elim (opn_cl c.1) (opn_cl c.2)
  | .fix _ y f, D, x, c, h => by
    obtain ⟨h1, h2⟩ := Bool.and_eq_true_iff.mp (show (!decide (y = x) && f.opn x) = true from h)
    exact (opn_cl (f := f) c h2).resolve_left fun e => by simp [e] at h1
/-! renaming keeps guards -/
theorem ren_opn : ∀ {f : F} {env : Int → Option Int} {n v : Int}, f.Cl (fun y => ∃ z, env y = some z) → v < n → (f.ren env n).1.opn v = true → ∃ y, f.opn y = true ∧ env y = some v
  | .var y, env, n, v, c, hv, h => by
    obtain ⟨z, hz⟩ := (show ∃ z, env y = some z from c)
    have h : decide ((env y).getD 0 = v) = true := h
    rw [hz] at h
    have e : z = v := of_decide_eq_true h
    exact ⟨y, decide_eq_true rfl, by rw [hz, e]⟩
  | .bin b f g, env, n, v, c, hv, h => by
    rcases Bool.or_eq_true_iff.mp (show ((f.ren env n).1.opn v || (g.ren env (f.ren env n).2).1.opn v) = true from h) with h | h
    · obtain ⟨y, a, e⟩ := ren_opn c.1 hv h
      exact ⟨y, by show (f.opn y || g.opn y) = true; rw [a]; rfl, e⟩
    · obtain ⟨y, a, e⟩ := ren_opn c.2 (by have := ren_le f env n; omega) h
      exact ⟨y, by show (f.opn y || g.opn y) = true; rw [a, Bool.or_true], e⟩
  | .fix b x f, env, n, v, c, hv, h => by
    obtain ⟨_, h2⟩ := Bool.and_eq_true_iff.mp (show (!decide (n = v) && (f.ren (upE env x n) (n + 1)).1.opn v) = true from h)
    obtain ⟨y, a, e⟩ := ren_opn (f := f) (env := upE env x n) (F.Cl.imp (f := f) c fun y hy => by
      unfold upE
      by_cases q : y = x
      · exact ⟨n, if_pos q⟩
      · obtain ⟨z, hz⟩ := hy.resolve_left q
        exact ⟨z, by rw [if_neg q]; exact hz⟩) (by omega) h2
    unfold upE at e
    by_cases q : y = x
    · rw [if_pos q] at e
      have := Option.some.inj e
      omega
    · rw [if_neg q] at e
      refine ⟨y, ?_, e⟩
      show (!decide (x = y) && f.opn y) = true
      rw [a, decide_eq_false fun z => q z.symm]
      rfl
theorem ren_gd : ∀ {f : F} {env : Int → Option Int} {n : Int}, f.Cl (fun y => ∃ z, env y = some z) → (∀ y z, env y = some z → z < n) → f.gd = true → (f.ren env n).1.gd = true
  | .const _, _, _, _, _, _ => rfl
  | .fact _ _, _, _, _, _, _ => rfl
  | .var _, _, _, _, _, _ => rfl
  | .mod _ _ f, env, n, c, k, h => ren_gd (f := f) c k h
  | .bin _ f g, env, n, c, k, h => by
    obtain ⟨a, b⟩ := Bool.and_eq_true_iff.mp (show (f.gd && g.gd) = true from h)
    show ((f.ren env n).1.gd && (g.ren env (f.ren env n).2).1.gd) = true
    rw [ren_gd c.1 k a, ren_gd c.2 (fun y z e => Int.lt_of_lt_of_le (k y z e) (ren_le f env n)) b]
    rfl
  | .fix b x f, env, n, c, k, h => by
    obtain ⟨a1, a2⟩ := Bool.and_eq_true_iff.mp (show (!f.opn x && f.gd) = true from h)
    have a1 : f.opn x = false := by simpa using a1
    have c' : f.Cl fun y => ∃ z, upE env x n y = some z := F.Cl.imp (f := f) c fun y hy => by
      unfold upE
      by_cases q : y = x
      · exact ⟨n, if_pos q⟩
      · obtain ⟨z, hz⟩ := hy.resolve_left q
        exact ⟨z, by rw [if_neg q]; exact hz⟩
    show (!(f.ren (upE env x n) (n + 1)).1.opn n && (f.ren (upE env x n) (n + 1)).1.gd) = true
    rw [ren_gd (f := f) c' (fun y z e => by
      unfold upE at e
      by_cases q : y = x
      · rw [if_pos q] at e
        have := Option.some.inj e
        omega
      · rw [if_neg q] at e
        have := k y z e
        omega) a2]
    cases q : (f.ren (upE env x n) (n + 1)).1.opn n with
    | false => rfl
    | true =>
      obtain ⟨y, b1, b2⟩ := ren_opn c' (by omega) q
      unfold upE at b2
      by_cases z : y = x
      · rw [z, a1] at b1
        cases b1
      · rw [if_neg z] at b2
        have := k y n b2
        omega
theorem clos_sk {f : F} (hc : f.Closed) (h3 : f.ht ≤ 3) (hg : f.gd = true) : ∀ g ∈ f.clos, g.Sk 16 3 := by
  have tc := tidy_closed hc
  refine cl_sk (m := 0) (d := 0) (d0 := 0) (tidy_up f) (sok_nil 0) (tc.imp fun _ z => z.elim) (ren_gd (hc.imp fun _ z => z.elim) (fun _ _ z => nomatch z) hg) (by rw [tidy_ht]; omega) (Nat.le_refl _) (fun x hx => (opn_cl tc hx).elim) fun _ _ z => nomatch z
/-! the binders' numbers -/
def F.bs : F → List Bool
  | .bin _ f g => f.bs ++ g.bs
  | .mod _ _ f => f.bs
  | .fix b _ f => b :: f.bs
  | _ => []
theorem bs_len : ∀ f : F, f.bs.length + 1 ≤ 2 ^ f.ht
  | .bin _ f g => by
    have h1 := bs_len f
    have h2 := bs_len g
    have e1 : 2 ^ f.ht ≤ 2 ^ max f.ht g.ht := Nat.pow_le_pow_right (by decide) (by omega)
    have e2 : 2 ^ g.ht ≤ 2 ^ max f.ht g.ht := Nat.pow_le_pow_right (by decide) (by omega)
    show (f.bs ++ g.bs).length + 1 ≤ 2 ^ (max f.ht g.ht + 1)
    rw [Nat.pow_succ, List.length_append]
    omega
  | .mod _ _ f => by
    have h1 := bs_len f
    show f.bs.length + 1 ≤ 2 ^ (f.ht + 1)
    rw [Nat.pow_succ]
    omega
  | .fix _ _ f => by
    have h1 := bs_len f
    have : 1 ≤ 2 ^ f.ht := Nat.one_le_two_pow
    show f.bs.length + 1 + 1 ≤ 2 ^ (f.ht + 1)
    rw [Nat.pow_succ]
    omega
  | .const _ => (show 1 ≤ 1 by decide)
  | .fact _ _ => (show 1 ≤ 1 by decide)
  | .var _ => (show 1 ≤ 1 by decide)
theorem ren_bs : ∀ (f : F) (env : Int → Option Int) (n : Int), (f.ren env n).2 = n + (f.bs.length : Nat)
  | .bin _ f g, env, n => by
    show (g.ren env (f.ren env n).2).2 = n + ((f.bs ++ g.bs).length : Nat)
    rw [ren_bs g, ren_bs f, List.length_append]
    omega
  | .mod _ _ f, env, n => ren_bs f env n
  | .fix _ x f, env, n => by
    show (f.ren (upE env x n) (n + 1)).2 = n + ((f.bs.length + 1 : Nat) : Int)
    rw [ren_bs f]
    omega
  | .const _, _, n => (Int.add_zero n).symm
  | .fact _ _, _, n => (Int.add_zero n).symm
  | .var _, _, n => (Int.add_zero n).symm
/-- kinds and numbers of the binders -/
def F.Kq (κ : Int → Bool) (nb : Nat) : F → Prop
  | .bin _ f g => f.Kq κ nb ∧ g.Kq κ nb
  | .mod _ _ f => f.Kq κ nb
  | .fix b x f => (b = κ x ∧ 0 ≤ x ∧ x < nb) ∧ f.Kq κ nb
  | _ => True
theorem F.Kq.kp {κ : Int → Bool} {nb : Nat} : ∀ {f : F}, f.Kq κ nb → f.Kp κ
  | .bin _ f g, h => ⟨h.1.kp, h.2.kp⟩
  | .mod _ _ f, h => F.Kq.kp (f := f) h
  | .fix b x f, h => ⟨h.1.1, h.1.2.1, h.2.kp⟩
  | .const _, _ => trivial
  | .fact _ _, _ => trivial
  | .var _, _ => trivial
theorem ren_kq {κ : Int → Bool} {nb : Nat} : ∀ (f : F) (env : Int → Option Int) (n : Nat), (∀ i b, f.bs[i]? = some b → κ ((n + i : Nat) : Int) = b) → n + f.bs.length ≤ nb → (f.ren env (n : Nat)).1.Kq κ nb
  | .bin _ f g, env, n, h, l => by
    have l' : n + (f.bs ++ g.bs).length ≤ nb := l
    rw [List.length_append] at l'
    have e : (f.ren env (n : Nat)).2 = ((n + f.bs.length : Nat) : Int) := by
      rw [ren_bs]
      omega
    refine ⟨ren_kq f env n (fun i b q => h i b ?_) (by omega), ?_⟩
    · show (f.bs ++ g.bs)[i]? = some b
      rw [List.getElem?_append_left (List.getElem?_eq_some_iff.mp q).1]
      exact q
    · show ((g.ren env (f.ren env (n : Nat)).2).1).Kq κ nb
      rw [e]
      refine ren_kq g env (n + f.bs.length) (fun i b q => ?_) (by omega)
      rw [Nat.add_assoc]
      refine h (f.bs.length + i) b ?_
      show (f.bs ++ g.bs)[f.bs.length + i]? = some b
      rw [List.getElem?_append_right (by omega), Nat.add_sub_cancel_left]
      exact q
  | .mod _ _ f, env, n, h, l => ren_kq f env n h l
  | .fix b x f, env, n, h, l => by
    have l' : n + (f.bs.length + 1) ≤ nb := l
    have h0 := h 0 b rfl
    refine ⟨⟨h0.symm, by omega, by omega⟩, ?_⟩
    have e : ((n : Nat) : Int) + 1 = ((n + 1 : Nat) : Int) := by omega
    show ((f.ren (upE env x (n : Nat)) ((n : Nat) + 1)).1).Kq κ nb
    rw [e]
    refine ren_kq f _ (n + 1) (fun i c q => ?_) (by omega)
    have := h (i + 1) c q
    rw [show n + 1 + i = n + (i + 1) by omega]
    exact this
  | .const _, _, _, _, _ => trivial
  | .fact _ _, _, _, _, _ => trivial
  | .var _, _, _, _, _ => trivial
def FixK (κ : Int → Bool) (nb : Nat) (x : F) : Prop := ∀ b v g, x = .fix b v g → b = κ v ∧ 0 ≤ v ∧ v < nb
theorem cl_fixK {κ : Int → Bool} {nb : Nat} : ∀ {h : F} {σ : Sub}, h.Kq κ nb → (∀ p ∈ σ, FixK κ nb p.2) → ∀ x ∈ h.cl σ, FixK κ nb x
  | .var v, σ, q, s, x, hx => by
    rw [List.mem_singleton.mp hx]
    show FixK κ nb ((σ.lookup v).getD (.var v))
    cases e : σ.lookup v with
    | none => exact fun _ _ _ z => nomatch z
    | some t => exact s _ (lookup_mem e)
  | .const b, σ, q, s, x, hx => by
    rw [List.mem_singleton.mp hx]
    exact fun _ _ _ z => nomatch z
  | .fact b p, σ, q, s, x, hx => by
    rw [List.mem_singleton.mp hx]
    exact fun _ _ _ z => nomatch z
  | .bin b f g, σ, q, s, x, hx => by
    rcases List.mem_cons.mp hx with e | hx
    · rw [e]
      exact fun _ _ _ z => nomatch z
    · rcases List.mem_append.mp hx with hx | hx
      · exact cl_fixK q.1 s x hx
      · exact cl_fixK q.2 s x hx
  | .mod b l f, σ, q, s, x, hx => by
    rcases List.mem_cons.mp hx with e | hx
    · rw [e]
      exact fun _ _ _ z => nomatch z
    · exact cl_fixK (h := f) q s x hx
  | .fix b v f, σ, q, s, x, hx => by
    have here : FixK κ nb ((F.fix b v f).subE σ) := fun b' v' g' e => by
      cases e
      exact q.1
    rcases List.mem_cons.mp hx with e | hx
    · rw [e]
      exact here
    · refine cl_fixK (h := f) q.2 (fun p hp => ?_) x hx
      rcases List.mem_cons.mp hp with e | hp
      · rw [e]
        exact here
      · exact s p hp
theorem cl_all : ∀ (f : F) (env : Int → Option Int) (n : Int) (σ : Sub) (v : Int), n ≤ v → v < (f.ren env n).2 → ∃ b g, F.fix b v g ∈ (f.ren env n).1.cl σ
  | .bin b f g, env, n, σ, v, h1, h2 => by
    by_cases l : v < (f.ren env n).2
    · obtain ⟨b, g', q⟩ := cl_all f env n σ v h1 l
      exact ⟨b, g', List.mem_cons_of_mem _ (List.mem_append_left _ q)⟩
    · obtain ⟨b, g', q⟩ := cl_all g env (f.ren env n).2 σ v (by omega) h2
      exact ⟨b, g', List.mem_cons_of_mem _ (List.mem_append_right _ q)⟩
  | .mod b l f, env, n, σ, v, h1, h2 => by
    obtain ⟨b, g', q⟩ := cl_all f env n σ v h1 h2
    exact ⟨b, g', List.mem_cons_of_mem _ q⟩
  | .fix b x f, env, n, σ, v, h1, h2 => by
    by_cases e : v = n
    · subst e
      exact ⟨_, _, List.mem_cons_self⟩
    · obtain ⟨b, g', q⟩ := cl_all f (upE env x n) (n + 1) _ v (by omega) h2
      exact ⟨b, g', List.mem_cons_of_mem _ q⟩
  | .const _, _, n, _, v, h1, h2 => absurd h2 (by show ¬ v < n; omega)
  | .fact _ _, _, n, _, v, h1, h2 => absurd h2 (by show ¬ v < n; omega)
  | .var _, _, n, _, v, h1, h2 => absurd h2 (by show ¬ v < n; omega)
def kapp (f : F) (x : Int) : Bool := f.bs.getD x.toNat false
theorem math_ok {f : F} (hc : f.Closed) (h3 : f.ht ≤ 3) (hg : f.gd = true) : MathOk 16 f f.bs.length (kapp f) ∧ f.tidy.Kp (kapp f) := by
  have kq : f.tidy.Kq (kapp f) f.bs.length := ren_kq f env0 0 (fun i b e => by
    unfold kapp
    rw [show (((0 + i : Nat) : Int)).toNat = i by omega, List.getD_eq_getElem?_getD, e]
    rfl) (by omega)
  refine ⟨⟨clos_sk hc h3 hg, fun b v g hm => cl_fixK (σ := []) kq (fun _ z => nomatch z) _ hm b v g rfl, fun v h0 h1 => ?_, ?_⟩, kq.kp⟩
  · refine cl_all f env0 0 [] v h0 ?_
    rw [ren_bs]
    omega
  · have e := bs_len f
    have e2 : 2 ^ f.ht ≤ 2 ^ 3 := Nat.pow_le_pow_right (by decide) h3
    omega
end K22

set_option linter.all false
set_option maxHeartbeats 400000
namespace K22
/-! ### certificates of the other machine, of a joined one -/
theorem succ_pu {W : Wd} {M : Mc} (wok : W.Ok) (ok : M.Ok) {q t : Po} (h : PU W M q) (ht : t ∈ succ W M q) : PU W M t := by
  obtain ⟨s, g⟩ := q
  obtain ⟨h1, h2⟩ := h
  cases g with
  | var x =>
    have ht : t ∈ [(s, M.rowAt x)] := ht
    rw [List.mem_singleton.mp ht]
    exact ⟨h1, puni_row ((puni_ok ok h2).vr x rfl).2⟩
  | mod b l f =>
    obtain ⟨u, hu, rfl⟩ := List.mem_map.mp (show t ∈ (W.foll s l).map fun t => (t, f) from ht)
    exact ⟨foll_lt wok hu, puni_kid h2 List.mem_cons_self⟩
  | bin b f g =>
    have ht : t ∈ [(s, f), (s, g)] := ht
    rcases List.mem_cons.mp ht with rfl | ht
    · exact ⟨h1, puni_kid h2 List.mem_cons_self⟩
    · rw [List.mem_singleton.mp ht]
      exact ⟨h1, puni_kid h2 (List.mem_cons_of_mem _ List.mem_cons_self)⟩
  | const b => cases ht
  | fact b p => cases ht
  | fix b x f => cases ht
theorem PCert.pu {W : Wd} {M : Mc} {pl : Bool} {C : Po → (Nat → Nat) → Prop} (wok : W.Ok) (ok : M.Ok) (c : PCert W M pl C) : PCert W M pl fun q a => C q a ∧ PU W M q := by
  refine ⟨fun q a h o => ?_, fun q a h o t ht => ?_⟩
  · obtain ⟨t, ht, b, hb, d⟩ := c.own q a h.1 o
    exact ⟨t, ht, b, ⟨hb, succ_pu wok ok h.2 ht⟩, d⟩
  · obtain ⟨b, hb, d⟩ := c.opp q a h.1 o t ht
    exact ⟨b, ⟨hb, succ_pu wok ok h.2 ht⟩, d⟩
/-- a certificate for a state -/
def Has (W : Wd) (M : Mc) (pl : Bool) (s : Nat) : Prop := ∃ C a, PCert W M pl C ∧ (∀ q a, C q a → PU W M q) ∧ C (s, .var (M.start : Nat)) a
theorem Has.of {W : Wd} {M : Mc} {pl : Bool} {s : Nat} (wok : W.Ok) (ok : M.Ok) (hs : s < W.n) {C : Po → (Nat → Nat) → Prop} {a : Nat → Nat} (c : PCert W M pl C) (h : C (s, .var (M.start : Nat)) a) : Has W M pl s :=
  ⟨_, a, c.pu wok ok, fun _ _ z => z.2, h, hs, List.mem_append_left _ (List.mem_map.mpr ⟨M.start, List.mem_range.mpr ok.st, rfl⟩)⟩
theorem Has.list {W : Wd} {M : Mc} {acc : List Nat} (h : AccOk W M acc) {p : Nat → Bool} (k : ∀ s, s < W.n → Has W M (!p s) s) : acc = (List.range W.n).filter p := by
  obtain ⟨v, e, hv⟩ := h
  rw [e]
  refine List.filter_congr fun s hs => ?_
  obtain ⟨C, a, c, _, ha⟩ := k s (List.mem_range.mp hs)
  rw [hv _ C c s a (List.mem_range.mp hs) ha, Bool.not_not]
theorem dual_size : ∀ f : F, f.dual.size = f.size
  | .bin _ f g => by simp [F.dual, F.size, dual_size f, dual_size g]
  | .mod _ _ f => by simp [F.dual, F.size, dual_size f]
  | .fix _ _ f => by simp [F.dual, F.size, dual_size f]
  | .const _ => rfl
  | .fact _ _ => rfl
  | .var _ => rfl
def upA (m : Nat) (a : Nat → Nat) : Nat → Nat := fun q => if q = 0 then m else a (q - 1)
theorem upA_dec {pl : Bool} {p : Nat} {a b : Nat → Nat} {m m' : Nat} (d : Dec pl p a b) : Dec (!pl) (p + 1) (upA m a) (upA m' b) := by
  refine ⟨fun q hq => ?_, fun hp => ?_⟩
  · unfold upA
    rw [if_neg (by omega), if_neg (by omega)]
    exact d.1 _ (by omega)
  · unfold upA
    rw [if_neg (by omega), if_neg (by omega)]
    refine d.2 fun e => hp ?_
    rw [← e]
    have : p % 2 = 0 ∨ p % 2 = 1 := by omega
    rcases this with z | z
    · rw [show (p + 1) % 2 = 1 by omega, z]
      rfl
    · rw [show (p + 1) % 2 = 0 by omega, z]
      rfl
theorem upA_dec0 {pl pl' : Bool} {a b : Nat → Nat} {m m' : Nat} (d : Dec pl 0 a b) (h : m' < m) : Dec pl' 0 (upA m a) (upA m' b) := by
  refine ⟨fun q _ => ?_, fun _ => ?_⟩
  · unfold upA
    by_cases e : q = 0
    · rw [if_pos e, if_pos e]
      omega
    · rw [if_neg e, if_neg e]
      exact d.1 _ (by omega)
  · show (if (0 : Nat) = 0 then m' else _) < (if (0 : Nat) = 0 then m else _)
    rw [if_pos rfl, if_pos rfl]
    exact h
theorem getD_map {α β : Type} (f : α → β) (l : List α) (i : Nat) (d : α) (e : β) (h : i < l.length) : (l.map f).getD i e = f (l.getD i d) := by
  rw [List.getD_eq_getElem?_getD, List.getD_eq_getElem?_getD, List.getElem?_map, List.getElem?_eq_getElem h]
  rfl
theorem getD_apL {α : Type} (l m : List α) (i : Nat) (d : α) (h : i < l.length) : (l ++ m).getD i d = l.getD i d := by
  rw [List.getD_eq_getElem?_getD, List.getD_eq_getElem?_getD, List.getElem?_append_left h]
theorem getD_apR {α : Type} (l m : List α) (i : Nat) (d : α) (h : l.length ≤ i) : (l ++ m).getD i d = m.getD (i - l.length) d := by
  rw [List.getD_eq_getElem?_getD, List.getD_eq_getElem?_getD, List.getElem?_append_right h]
theorem Has.oth {W : Wd} {M : Mc} {pl : Bool} {s : Nat} (ok : M.Ok) (h : Has W M pl s) : Has W M.oth (!pl) s := by
  obtain ⟨C, a, c, pu, h0⟩ := h
  have vr : ∀ {s : Nat} {x : Int}, PU W M (s, .var x) → x.toNat < M.rows.length := fun h => ((puni_ok ok h.2).vr _ rfl).2
  have er : ∀ {x : Int}, x.toNat < M.rows.length → M.oth.rowAt x = (M.rowAt x).dual := fun h => getD_map F.dual M.rows _ (.const true) _ h
  have ep : ∀ {x : Int}, x.toNat < M.rows.length → M.oth.pri (.var x) = M.pri (.var x) + 1 := fun h => getD_map (· + 1) M.pr _ 0 0 (by rw [ok.pl]; exact h)
  have memd : ∀ {g : F}, g ∈ M.puni → g.dual ∈ M.oth.puni := fun {g} hg => by
    have key : ∀ f : F, ∀ g ∈ f.parts, g.dual ∈ f.dual.parts := fun f => by
      induction f with
      | bin b f1 f2 i1 i2 =>
        intro g hg
        rcases List.mem_cons.mp hg with e | hg
        · rw [e]
          exact List.mem_cons_self
        · rcases List.mem_append.mp hg with hg | hg
          · exact List.mem_cons_of_mem _ (List.mem_append_left _ (i1 g hg))
          · exact List.mem_cons_of_mem _ (List.mem_append_right _ (i2 g hg))
      | mod b l f1 i1 =>
        intro g hg
        rcases List.mem_cons.mp hg with e | hg
        · rw [e]
          exact List.mem_cons_self
        · exact List.mem_cons_of_mem _ (i1 g hg)
      | fix b x f1 i1 =>
        intro g hg
        rcases List.mem_cons.mp hg with e | hg
        · rw [e]
          exact List.mem_cons_self
        · exact List.mem_cons_of_mem _ (i1 g hg)
      | const b =>
        intro g hg
        rw [List.mem_singleton.mp hg]
        exact List.mem_cons_self
      | fact b p =>
        intro g hg
        rw [List.mem_singleton.mp hg]
        exact List.mem_cons_self
      | var x =>
        intro g hg
        rw [List.mem_singleton.mp hg]
        exact List.mem_cons_self
    rcases List.mem_append.mp hg with hg | hg
    · obtain ⟨i, hi, rfl⟩ := List.mem_map.mp hg
      refine List.mem_append_left _ (List.mem_map.mpr ⟨i, ?_, rfl⟩)
      show i ∈ List.range (M.rows.map F.dual).length
      rw [List.length_map]
      exact hi
    · obtain ⟨r, hr, hg⟩ := List.mem_flatMap.mp hg
      exact List.mem_append_right _ (List.mem_flatMap.mpr ⟨r.dual, List.mem_map.mpr ⟨r, hr, rfl⟩, key r g hg⟩)
  refine ⟨fun q a' => ∃ h b, q.2 = h.dual ∧ C (q.1, h) b ∧ a' = upA h.size b, upA (F.var (M.start : Nat)).size a, ⟨fun q a' h o => ?_, fun q a' h o => ?_⟩, fun q a' ⟨h, b, e, hb, _⟩ => ?_, .var (M.start : Nat), a, rfl, h0, rfl⟩
  · obtain ⟨s, g⟩ := q
    obtain ⟨h, b, e, hb, rfl⟩ := h
    dsimp only at e hb
    subst e
    cases h with
    | var x =>
      have hx := vr (pu _ _ hb)
      have o : false = !pl := o
      have o' : W.own (s, .var x) ≠ pl := fun z => by
        have z : false = pl := z
        rw [← z] at o
        cases o
      obtain ⟨b', hb', d⟩ := c.opp _ _ hb o' _ List.mem_cons_self
      refine ⟨(s, M.oth.rowAt x), List.mem_cons_self, upA (M.rowAt x).size b', ⟨M.rowAt x, b', er hx, hb', rfl⟩, ?_⟩
      show Dec (!pl) (M.oth.pri (.var x)) _ _
      rw [ep hx]
      exact upA_dec d
    | mod b1 l f =>
      have o' : W.own (s, .mod b1 l f) = pl := by
        have o : (!b1) = !pl := o
        show b1 = pl
        revert o
        cases b1 <;> cases pl <;> simp
      obtain ⟨t, ht, b', hb', d⟩ := c.own _ _ hb o'
      obtain ⟨u, hu, rfl⟩ := List.mem_map.mp (show t ∈ (W.foll s l).map fun t => (t, f) from ht)
      exact ⟨(u, f.dual), List.mem_map.mpr ⟨u, hu, rfl⟩, upA f.size b', ⟨f, b', rfl, hb', rfl⟩, upA_dec0 d (by rw [F.size_mod]; omega)⟩
    | bin b1 f g =>
      have o' : W.own (s, .bin b1 f g) = pl := by
        have o : (!b1) = !pl := o
        show b1 = pl
        revert o
        cases b1 <;> cases pl <;> simp
      obtain ⟨t, ht, b', hb', d⟩ := c.own _ _ hb o'
      have ht : t ∈ [(s, f), (s, g)] := ht
      rcases List.mem_cons.mp ht with rfl | ht
      · exact ⟨(s, f.dual), List.mem_cons_self, upA f.size b', ⟨f, b', rfl, hb', rfl⟩, upA_dec0 d (by rw [F.size_bin]; omega)⟩
      · rw [List.mem_singleton.mp ht] at hb'
        exact ⟨(s, g.dual), List.mem_cons_of_mem _ List.mem_cons_self, upA g.size b', ⟨g, b', rfl, hb', rfl⟩, upA_dec0 d (by rw [F.size_bin]; omega)⟩
    | const b1 =>
      have o' : W.own (s, .const b1) = pl := by
        have o : (!b1) = !pl := o
        show b1 = pl
        revert o
        cases b1 <;> cases pl <;> simp
      obtain ⟨t, ht, _⟩ := c.own _ _ hb o'
      cases ht
    | fact b1 p =>
      have o' : W.own (s, .fact b1 p) = pl := by
        have o : (decide (p ∈ W.fc.getD s []) == !b1) = !pl := o
        show (decide (p ∈ W.fc.getD s []) == b1) = pl
        revert o
        generalize decide (p ∈ W.fc.getD s []) = z
        cases b1 <;> cases pl <;> cases z <;> simp
      obtain ⟨t, ht, _⟩ := c.own _ _ hb o'
      cases ht
    | fix b1 x f => exact absurd (puni_ok ok (pu _ _ hb).2).fx (by simp [F.isFix])
  · obtain ⟨s, g⟩ := q
    obtain ⟨h, b, e, hb, rfl⟩ := h
    dsimp only at e hb
    subst e
    intro t ht
    cases h with
    | var x =>
      have hx := vr (pu _ _ hb)
      have o : ¬ false = !pl := o
      have o' : W.own (s, .var x) = pl := by
        show false = pl
        revert o
        cases pl <;> simp
      obtain ⟨t', ht', b', hb', d⟩ := c.own _ _ hb o'
      have ht' : t' ∈ [(s, M.rowAt x)] := ht'
      rw [List.mem_singleton.mp ht'] at hb'
      have ht : t ∈ [(s, M.oth.rowAt x)] := ht
      rw [List.mem_singleton.mp ht]
      refine ⟨upA (M.rowAt x).size b', ⟨M.rowAt x, b', er hx, hb', rfl⟩, ?_⟩
      show Dec (!pl) (M.oth.pri (.var x)) _ _
      rw [ep hx]
      exact upA_dec d
    | mod b1 l f =>
      have o' : W.own (s, .mod b1 l f) ≠ pl := fun z => o (by
        have z : b1 = pl := z
        show (!b1) = !pl
        rw [z])
      obtain ⟨u, hu, rfl⟩ := List.mem_map.mp (show t ∈ (W.foll s l).map fun t => (t, f.dual) from ht)
      obtain ⟨b', hb', d⟩ := c.opp _ _ hb o' (u, f) (List.mem_map.mpr ⟨u, hu, rfl⟩)
      exact ⟨upA f.size b', ⟨f, b', rfl, hb', rfl⟩, upA_dec0 d (by rw [F.size_mod]; omega)⟩
    | bin b1 f g =>
      have o' : W.own (s, .bin b1 f g) ≠ pl := fun z => o (by
        have z : b1 = pl := z
        show (!b1) = !pl
        rw [z])
      have ht : t ∈ [(s, f.dual), (s, g.dual)] := ht
      rcases List.mem_cons.mp ht with rfl | ht
      · obtain ⟨b', hb', d⟩ := c.opp _ _ hb o' (s, f) List.mem_cons_self
        exact ⟨upA f.size b', ⟨f, b', rfl, hb', rfl⟩, upA_dec0 d (by rw [F.size_bin]; omega)⟩
      · rw [List.mem_singleton.mp ht]
        obtain ⟨b', hb', d⟩ := c.opp _ _ hb o' (s, g) (List.mem_cons_of_mem _ List.mem_cons_self)
        exact ⟨upA g.size b', ⟨g, b', rfl, hb', rfl⟩, upA_dec0 d (by rw [F.size_bin]; omega)⟩
    | const b1 => cases ht
    | fact b1 p => cases ht
    | fix b1 x f => cases ht
  · obtain ⟨s, g⟩ := q
    dsimp only at e hb
    subst e
    exact ⟨(pu _ _ hb).1, memd (pu _ _ hb).2⟩
/-- a machine within another one, its states shifted -/
structure Emb (M J : Mc) (k : Int) : Prop where
  row : ∀ x : Int, 0 ≤ x → x.toNat < M.rows.length → J.rowAt (x + k) = (M.rowAt x).shf k
  pri : ∀ x : Int, 0 ≤ x → x.toNat < M.rows.length → J.pri (.var (x + k)) = M.pri (.var x)
theorem PCert.emb {W : Wd} {M J : Mc} {k : Int} {pl : Bool} {C : Po → (Nat → Nat) → Prop} (ok : M.Ok) (e : Emb M J k) (c : PCert W M pl C) (pu : ∀ q a, C q a → PU W M q) : PCert W J pl fun q a => ∃ h, q.2 = h.shf k ∧ C (q.1, h) a := by
  have vr : ∀ {s : Nat} {x : Int}, PU W M (s, .var x) → 0 ≤ x ∧ x.toNat < M.rows.length := fun h => (puni_ok ok h.2).vr _ rfl
  have so : ∀ {s : Nat} {h : F} {a : Nat → Nat}, C (s, h) a → succ W J (s, h.shf k) = (succ W M (s, h)).map fun t => (t.1, t.2.shf k) := fun {s h a} hC => by
    cases h with
    | var x =>
      obtain ⟨h1, h2⟩ := vr (pu _ _ hC)
      show [(s, J.rowAt (x + k))] = [(s, (M.rowAt x).shf k)]
      rw [e.row x h1 h2]
    | mod b l f =>
      show ((W.foll s l).map fun t => (t, f.shf k)) = (((W.foll s l).map fun t => (t, f))).map fun t => (t.1, t.2.shf k)
      rw [List.map_map]
      rfl
    | bin b f g => rfl
    | const b => rfl
    | fact b p => rfl
    | fix b x f => rfl
  have po : ∀ {s : Nat} {h : F} {a : Nat → Nat}, C (s, h) a → J.pri (h.shf k) = M.pri h := fun {s h a} hC => by
    cases h with
    | var x =>
      obtain ⟨h1, h2⟩ := vr (pu _ _ hC)
      exact e.pri x h1 h2
    | mod b l f => rfl
    | bin b f g => rfl
    | const b => rfl
    | fact b p => rfl
    | fix b x f => rfl
  have oo : ∀ (s : Nat) (h : F), W.own (s, h.shf k) = W.own (s, h) := fun s h => by cases h <;> rfl
  refine ⟨fun q a h o => ?_, fun q a h o t ht => ?_⟩
  · obtain ⟨s, g⟩ := q
    obtain ⟨h, e, hC⟩ := h
    dsimp only at e hC
    subst e
    rw [oo] at o
    obtain ⟨t, ht, b, hb, d⟩ := c.own _ _ hC o
    refine ⟨(t.1, t.2.shf k), ?_, b, ⟨t.2, rfl, hb⟩, ?_⟩
    · rw [so hC]
      exact List.mem_map.mpr ⟨t, ht, rfl⟩
    · dsimp only
      rw [po hC]
      exact d
  · obtain ⟨s, g⟩ := q
    obtain ⟨h, e, hC⟩ := h
    dsimp only at e hC
    subst e
    rw [oo] at o
    rw [so hC] at ht
    obtain ⟨u, hu, rfl⟩ := List.mem_map.mp ht
    obtain ⟨b, hb, d⟩ := c.opp _ _ hC o u hu
    refine ⟨b, ⟨u.2, rfl, hb⟩, ?_⟩
    dsimp only
    rw [po hC]
    exact d
theorem PCert.or {W : Wd} {M : Mc} {pl : Bool} {C D : Po → (Nat → Nat) → Prop} (c : PCert W M pl C) (d : PCert W M pl D) : PCert W M pl fun q a => C q a ∨ D q a := by
  refine ⟨fun q a h o => ?_, fun q a h o t ht => ?_⟩
  · rcases h with h | h
    · obtain ⟨t, ht, b, hb, k⟩ := c.own q a h o
      exact ⟨t, ht, b, .inl hb, k⟩
    · obtain ⟨t, ht, b, hb, k⟩ := d.own q a h o
      exact ⟨t, ht, b, .inr hb, k⟩
  · rcases h with h | h
    · obtain ⟨b, hb, k⟩ := c.opp q a h o t ht
      exact ⟨b, .inl hb, k⟩
    · obtain ⟨b, hb, k⟩ := d.opp q a h o t ht
      exact ⟨b, .inr hb, k⟩
def addT (m : Nat) (R : Nat → Nat) : Nat → Nat := fun q => if q = 0 then R 0 + m else R q
theorem addT_dec {pl : Bool} {R b : Nat → Nat} {m : Nat} (h : ∀ q, b q ≤ R q) (hm : 0 < m) : Dec pl 0 (addT m R) b := by
  refine ⟨fun q _ => ?_, fun _ => ?_⟩
  · unfold addT
    by_cases e : q = 0
    · rw [if_pos e, e]
      have := h 0
      omega
    · rw [if_neg e]
      exact h q
  · show b 0 < if (0 : Nat) = 0 then R 0 + m else _
    rw [if_pos rfl]
    have := h 0
    omega
/-- the start of a joined machine -/
theorem Has.top {W : Wd} {J : Mc} {pl b : Bool} {r1 r2 : F} {s : Nat} {D : Po → (Nat → Nat) → Prop} (wok : W.Ok) (ok : J.Ok) (hs : s < W.n) (hst : J.start = 0) (hr : J.rowAt 0 = .bin b r1 r2) (hp : J.pri (.var 0) = 0) (c : PCert W J pl D) {R : Nat → Nat}
    (hor : b = pl → (∃ b1, D (s, r1) b1 ∧ ∀ q, b1 q ≤ R q) ∨ ∃ b1, D (s, r2) b1 ∧ ∀ q, b1 q ≤ R q) (hand : b ≠ pl → (∃ b1, D (s, r1) b1 ∧ ∀ q, b1 q ≤ R q) ∧ ∃ b1, D (s, r2) b1 ∧ ∀ q, b1 q ≤ R q) : Has W J pl s := by
  have key : PCert W J pl fun q a => D q a ∨ (q = (s, .bin b r1 r2) ∧ a = addT 1 R) ∨ (q = (s, .var 0) ∧ a = addT 2 R) := by
    have d0 : Dec pl 0 (addT 2 R) (addT 1 R) := by
      refine ⟨fun q _ => ?_, fun _ => ?_⟩
      · unfold addT
        by_cases e : q = 0
        · rw [if_pos e, if_pos e]
          omega
        · rw [if_neg e, if_neg e]
          exact Nat.le_refl _
      · show (if (0 : Nat) = 0 then R 0 + 1 else _) < (if (0 : Nat) = 0 then R 0 + 2 else _)
        rw [if_pos rfl, if_pos rfl]
        omega
    refine ⟨fun q a h o => ?_, fun q a h o t ht => ?_⟩
    · rcases h with h | ⟨e, e2⟩ | ⟨e, e2⟩
      · obtain ⟨t, ht, b, hb, k⟩ := c.own q a h o
        exact ⟨t, ht, b, .inl hb, k⟩
      · subst e e2
        rcases hor o with ⟨b1, h1, h2⟩ | ⟨b1, h1, h2⟩
        · exact ⟨(s, r1), List.mem_cons_self, b1, .inl h1, addT_dec h2 (by decide)⟩
        · exact ⟨(s, r2), List.mem_cons_of_mem _ List.mem_cons_self, b1, .inl h1, addT_dec h2 (by decide)⟩
      · subst e e2
        refine ⟨(s, J.rowAt 0), List.mem_cons_self, addT 1 R, .inr (.inl ⟨by rw [hr], rfl⟩), ?_⟩
        dsimp only
        rw [hp]
        exact d0
    · rcases h with h | ⟨e, e2⟩ | ⟨e, e2⟩
      · obtain ⟨b, hb, k⟩ := c.opp q a h o t ht
        exact ⟨b, .inl hb, k⟩
      · subst e e2
        obtain ⟨⟨b1, h1, h2⟩, b2, h3, h4⟩ := hand o
        have ht : t ∈ [(s, r1), (s, r2)] := ht
        rcases List.mem_cons.mp ht with e | ht
        · rw [e]
          exact ⟨b1, .inl h1, addT_dec h2 (by decide)⟩
        · rw [List.mem_singleton.mp ht]
          exact ⟨b2, .inl h3, addT_dec h4 (by decide)⟩
      · subst e e2
        have ht : t ∈ [(s, J.rowAt 0)] := ht
        rw [List.mem_singleton.mp ht]
        refine ⟨addT 1 R, .inr (.inl ⟨by rw [hr], rfl⟩), ?_⟩
        dsimp only
        rw [hp]
        exact d0
  refine Has.of wok ok hs key (a := addT 2 R) (.inr (.inr ⟨?_, rfl⟩))
  rw [hst]
  rfl
theorem Has.row {W : Wd} {M : Mc} {pl : Bool} {s : Nat} {C : Po → (Nat → Nat) → Prop} {a : Nat → Nat} (c : PCert W M pl C) (h : C (s, .var (M.start : Nat)) a) : ∃ b, C (s, M.rows.getD M.start (.const true)) b := by
  have e : M.rowAt ((M.start : Nat) : Int) = M.rows.getD M.start (.const true) := by
    show M.rows.getD _ _ = _
    rw [show (((M.start : Nat) : Int)).toNat = M.start by omega]
  by_cases o : W.own (s, .var (M.start : Nat)) = pl
  · obtain ⟨t, ht, b, hb, _⟩ := c.own _ _ h o
    have ht : t ∈ [(s, M.rowAt ((M.start : Nat) : Int))] := ht
    rw [List.mem_singleton.mp ht, e] at hb
    exact ⟨b, hb⟩
  · obtain ⟨b, hb, _⟩ := c.opp _ _ h o (s, M.rowAt ((M.start : Nat) : Int)) List.mem_cons_self
    rw [e] at hb
    exact ⟨b, hb⟩
theorem join_emb1 (b : Bool) {M : Mc} (N : Mc) (ok : M.Ok) : Emb M (M.join b N) 1 := by
  refine ⟨fun x h0 h => ?_, fun x h0 h => ?_⟩
  · show (_ :: (M.rows.map (fun r => r.shf 1) ++ _)).getD (x + 1).toNat _ = (M.rows.getD x.toNat _).shf 1
    rw [show (x + 1).toNat = x.toNat + 1 by omega, List.getD_cons_succ, getD_apL _ _ _ _ (by rw [List.length_map]; exact h)]
    exact getD_map _ _ _ _ _ h
  · show (0 :: (M.pr ++ N.pr)).getD (x + 1).toNat 0 = M.pr.getD x.toNat 0
    rw [show (x + 1).toNat = x.toNat + 1 by omega, List.getD_cons_succ, getD_apL _ _ _ _ (by rw [ok.pl]; exact h)]
theorem join_emb2 (b : Bool) {M N : Mc} (ok : M.Ok) (okN : N.Ok) : Emb N (M.join b N) ((1 + M.rows.length : Nat) : Int) := by
  refine ⟨fun x h0 h => ?_, fun x h0 h => ?_⟩
  · show (_ :: (M.rows.map (fun r => r.shf 1) ++ N.rows.map fun r => r.shf (1 + M.rows.length : Nat))).getD (x + ((1 + M.rows.length : Nat) : Int)).toNat _ = (N.rows.getD x.toNat _).shf _
    rw [show (x + ((1 + M.rows.length : Nat) : Int)).toNat = (M.rows.length + x.toNat) + 1 by omega, List.getD_cons_succ, getD_apR _ _ _ _ (by rw [List.length_map]; omega), List.length_map, Nat.add_sub_cancel_left]
    exact getD_map _ _ _ _ _ h
  · show (0 :: (M.pr ++ N.pr)).getD (x + ((1 + M.rows.length : Nat) : Int)).toNat 0 = N.pr.getD x.toNat 0
    rw [show (x + ((1 + M.rows.length : Nat) : Int)).toNat = (M.rows.length + x.toNat) + 1 by omega, List.getD_cons_succ, getD_apR _ _ _ _ (by rw [ok.pl]; omega), ok.pl, Nat.add_sub_cancel_left]
theorem Has.join {W : Wd} {M N : Mc} {pl b : Bool} {s : Nat} (wok : W.Ok) (ok : M.Ok) (okN : N.Ok) (okJ : (M.join b N).Ok) (hs : s < W.n) (hor : b = pl → Has W M pl s ∨ Has W N pl s) (hand : b ≠ pl → Has W M pl s ∧ Has W N pl s) : Has W (M.join b N) pl s := by
  have hp : (M.join b N).pri (.var 0) = 0 := rfl
  by_cases e : b = pl
  · rcases hor e with h | h
    · obtain ⟨C, a, c, pu, h⟩ := h
      obtain ⟨b1, hb⟩ := Has.row c h
      exact Has.top wok okJ hs rfl rfl hp (PCert.emb ok (join_emb1 b N ok) c pu) (R := b1) (fun _ => .inl ⟨b1, ⟨_, rfl, hb⟩, fun _ => Nat.le_refl _⟩) fun z => absurd e z
    · obtain ⟨C, a, c, pu, h⟩ := h
      obtain ⟨b1, hb⟩ := Has.row c h
      exact Has.top wok okJ hs rfl rfl hp (PCert.emb okN (join_emb2 b ok okN) c pu) (R := b1) (fun _ => .inr ⟨b1, ⟨_, rfl, hb⟩, fun _ => Nat.le_refl _⟩) fun z => absurd e z
  · obtain ⟨⟨C, a, c, pu, h⟩, C', a', c', pu', h'⟩ := hand e
    obtain ⟨b1, hb⟩ := Has.row c h
    obtain ⟨b2, hb'⟩ := Has.row c' h'
    exact Has.top wok okJ hs rfl rfl hp (PCert.or (PCert.emb ok (join_emb1 b N ok) c pu) (PCert.emb okN (join_emb2 b ok okN) c' pu')) (R := fun q => max (b1 q) (b2 q)) (fun z => absurd z e)
      fun _ => ⟨⟨b1, .inl ⟨_, rfl, hb⟩, fun q => Nat.le_max_left _ _⟩, b2, .inr ⟨_, rfl, hb'⟩, fun q => Nat.le_max_right _ _⟩
/-! worlds whose steps stand in another order -/
theorem foll_perm {W V : Wd} (h : V.sp.Perm W.sp) (s : Nat) (l : Int) : (V.foll s l).Perm (W.foll s l) := (h.filter _).map _
theorem val_perm {W V : Wd} (hn : V.n = W.n) (hf : V.fc = W.fc) (h : V.sp.Perm W.sp) : ∀ (f : F) (ρ : Ev), V.val f ρ = W.val f ρ
  | .var x, ρ => rfl
  | .bin b f g, ρ => by
    show (fun s => if b then V.val f ρ s && V.val g ρ s else V.val f ρ s || V.val g ρ s) = _
    rw [val_perm hn hf h f, val_perm hn hf h g]
    rfl
  | .mod b l f, ρ => by
    show (fun s => if b then (V.foll s l).all (V.val f ρ) else (V.foll s l).any (V.val f ρ)) = fun s => if b then (W.foll s l).all (W.val f ρ) else (W.foll s l).any (W.val f ρ)
    rw [val_perm hn hf h f]
    funext s
    have p := foll_perm h s l
    have e1 : (V.foll s l).all (W.val f ρ) = (W.foll s l).all (W.val f ρ) := Bool.eq_iff_iff.mpr (by
      rw [List.all_eq_true, List.all_eq_true]
      exact ⟨fun k x hx => k x (p.mem_iff.mpr hx), fun k x hx => k x (p.mem_iff.mp hx)⟩)
    have e2 : (V.foll s l).any (W.val f ρ) = (W.foll s l).any (W.val f ρ) := Bool.eq_iff_iff.mpr (by
      rw [List.any_eq_true, List.any_eq_true]
      exact ⟨fun ⟨x, hx, k⟩ => ⟨x, p.mem_iff.mp hx, k⟩, fun ⟨x, hx, k⟩ => ⟨x, p.mem_iff.mpr hx, k⟩⟩)
    rw [e1, e2]
  | .fix b x f, ρ => by
    show itN b (fun X => V.val f (upV ρ x X)) (V.n + 1) = itN b (fun X => W.val f (upV ρ x X)) (W.n + 1)
    rw [hn, show (fun X => V.val f (upV ρ x X)) = fun X => W.val f (upV ρ x X) from funext fun X => val_perm hn hf h f _]
  | .const b, ρ => by
    show (fun s => V.plain s (.const b)) = fun s => W.plain s (.const b)
    rfl
  | .fact b p, ρ => by
    show (fun s => V.plain s (.fact b p)) = fun s => W.plain s (.fact b p)
    unfold Wd.plain
    rw [hf]
/-! what the law asks -/
/-- a machine for what is true where p says -/
structure Is (W : Wd) (M : Mc) (p : Nat → Bool) : Prop where
  ok : M.Ok
  has : ∀ s, s < W.n → Has W M (!p s) s
theorem Is.of {W : Wd} (ok : W.Ok) {f : F} (hc : f.Closed) (h3 : f.ht ≤ 3) (hg : f.gd = true) {sts : List St2} {rows : List F} (B : Built 16 f sts rows) : Is W (mcOf sts rows f.bs.length (kapp f)) (W.val f ev0) := by
  obtain ⟨m, kp⟩ := math_ok hc h3 hg
  have mok := (mcOf_ok m B).1
  refine ⟨mok, fun s hs => ?_⟩
  obtain ⟨C, a, c, h⟩ := cert_of (pl := !W.val f ev0 s) ok m kp hc B hs (by rw [Bool.not_not])
  exact Has.of ok mok hs c h
theorem Is.oth {W : Wd} {M : Mc} {p : Nat → Bool} (h : Is W M p) (hp : ∀ p ∈ M.pr, p < 200) : Is W M.oth fun s => !p s :=
  ⟨h.ok.oth hp, fun s hs => Has.oth h.ok (h.has s hs)⟩
theorem Is.join {W : Wd} {M N : Mc} {p q : Nat → Bool} {b : Bool} (wok : W.Ok) (h : Is W M p) (k : Is W N q) (okJ : (M.join b N).Ok) : Is W (M.join b N) fun s => if b then p s && q s else p s || q s := by
  refine ⟨okJ, fun s hs => ?_⟩
  have h1 := h.has s hs
  have h2 := k.has s hs
  revert h1 h2
  generalize p s = x
  generalize q s = y
  intro h1 h2
  refine Has.join wok h.ok k.ok okJ hs (fun e => ?_) (fun e => ?_)
  · cases b <;> cases x <;> cases y <;> first | exact .inl h1 | exact .inr h2 | cases e
  · cases b <;> cases x <;> cases y <;> first | exact ⟨h1, h2⟩ | exact absurd rfl e
end K22

set_option Elab.async false
set_option linter.all false
set_option maxRecDepth 100000
set_option maxHeartbeats 1000000
namespace K22
open PySem PySem.Spec PyProof.Rows L2
local macro_rules | `(tactic| walk_at "go1") => `(tactic| with_reducible first
  | refine g_seq ?_ | refine g_asg ?_ | refine g_name ?_ | refine g_c ?_ | refine g_op ?_ | refine g_cons ?_ | refine g_nil ?_ | refine g_cb ?_ | refine g_call ?_ | refine g_meth ?_
  | refine g_I0 ?_ | refine g_ret ?_ | refine g_retN ?_ | refine g_drop ?_ | refine g_if ?_ | refine g_test ?_ | refine g_tB ?_ | refine g_bool ?_
  | refine g_not ?_ | refine g_and ?_ | refine g_or ?_ | refine g_yes ?_ | refine g_tup ?_ | refine g_lst ?_ | refine g_slice ?_ | refine g_part ?_ | refine g_nopart ?_ | refine g_int ?_ | refine g_fld ?_ | refine g_dget ?_
  | refine g_din ?_ | refine g_dnotin ?_ | refine g_bm0 ?_ | refine g_bm ?_ | refine g_ifexp ?_ | refine g_andv ?_ | refine g_orv ?_ | refine g_notv ?_ | refine g_chain ?_ | refine g_U ?_ | refine g_next ?_ | refine g_brk ?_ | refine g_cont ?_
  | refine g_sfld ?_ | refine g_sdput ?_ | refine g_gtup ?_ | refine g_gcons ?_ | refine g_gnil ?_ | refine g_gsub ?_ | refine g_forT ?_ | refine g_forL ?_ | refine g_forR ?_ | refine g_lcT ?_ | refine g_lcL ?_ | refine g_lcR ?_ | refine g_un ?_ | refine g_sfa ?_ | refine g_ip ?_ | refine g_nin ?_ | refine g_nnot ?_ | refine g_nget ?_ | refine g_nput ?_ | refine g_ndisp ?_ | refine g_addI ?_ | refine g_subI ?_
  | (show Ends.nx _ _ _; refine g_nxm ?_) | (show Ends.rt _ _ _; refine g_rtm ?_) | (show Ends.bk _ _ _; refine g_bkm ?_) | (show Ends.ct _ _ _; refine g_ctm ?_))
local macro_rules | `(tactic| walk_at "go2") => `(tactic| first
  | ((with_reducible show tVar _ _ _ _); refine g_var rfl ?_)
  | ((with_reducible show rEq _ _ _ _); refine g_eq rfl ?_)
  | ((with_reducible show rNe _ _ _ _); refine g_ne rfl ?_)
  | ((with_reducible show tAug _ _ _ _ _ _); refine g_aug rfl ?_))
local macro_rules | `(tactic| walk_at "go") => `(tactic| repeat (first | walk_at "go1" | walk_at "go2"))
section
variable {P : Program} {w : World} {K : PySem.W.Frag} {mg : Str → Option Value} {base : Heap}
section
variable {σ : L2.St} {H : Hp} {Q : VK} {tt : TT} {ta : TA} {te : TE} {vs : List Nat} {i : Nat}
/-- a filter whose test may make objects -/
theorem g_filtS {l : Addr} {ms : List Nat} (hl : H l = some (.lst (ms.map nI))) (hn : ms.length ≤ 51200) (p : Nat → Bool) (hw : ∀ y, wipe ((wipe σ vs).set i (some y)) vs = wipe σ vs) (hi : ∀ y : V, ((wipe σ vs).set i (some y))[i]? = some (some y))
    (ht : ∀ x ∈ ms, ∀ H', Same H H' → ∀ Qb : Bool → Hp → Prop, (∀ H'', Same H' H'' → Qb (p x) H'') → tt ((wipe σ vs).set i (some (nI x))) H' Qb) (k : ∀ E H', H E = none → Same H H' → H' E = some (.lst ((ms.filter p).map nI)) → Q (.ref E) H') : rLcL K (gName i) tt (tVar i) vs σ (.ref l) H Q := by
  refine g_rlcL (SqL.of hl) fun E hE => ⟨fun j H' => Same H H' ∧ H' E = some (.lst (((ms.take j).filter p).map nI)), ⟨same_new hE, upd_same⟩, fun j H' _ ⟨s0, _⟩ => SqL.of (s0 _ _ hl), fun j y H' hy ⟨s0, hE0⟩ => ?_, fun H' ⟨s0, hE0⟩ => ?_⟩
  · rw [List.getElem?_map] at hy
    obtain ⟨t, h, rfl⟩ := Option.map_eq_some_iff.mp hy
    refine g_turn (hw _) (ht t (List.mem_of_getElem? h) H' s0 _ fun H'' s1 => ?_)
    cases e : p t with
    | false =>
      refine iteF ⟨s0.trans s1, ?_⟩
      rw [take_snoc h, List.filter_append, List.filter_cons_of_neg (by rw [e]; exact Bool.false_ne_true), List.filter_nil, List.append_nil]
      exact s1 _ _ hE0
    | true =>
      refine iteT (g_var (hi _) ?_)
      refine g_add (s1 _ _ hE0) (lt_line (by rw [List.length_map]; have := List.length_filter_le p (ms.take j); rw [List.length_take] at this; omega)) ⟨(s0.trans s1).mut hE, ?_⟩
      rw [upd_same, take_snoc h, List.filter_append, List.filter_cons_of_pos e, List.filter_nil, List.map_append]
      rfl
  · rw [List.length_map, List.take_length] at hE0
    exact k E H' hE s0 hE0
def rLR (x : V) (H1 : Hp) (Q : VK) : Prop := ∃ n : Int, x = .int n ∧ (RgOk 0 n ∧ ∀ q, H1 q = none → Q (.ref q) (upd H1 q (.lst (rgV 0 n))))
theorem g_lstRg (q : te σ H fun x H1 => rLR x H1 Q) : tLstRg (tRg1 te) σ H Q := q
theorem g_rLR {n : Nat} (h : n ≤ 1000) (q : ∀ p, H p = none → Q (.ref p) (upd H p (.lst ((List.range n).map nI)))) : rLR (.int (n : Nat)) H Q := by
  refine ⟨n, rfl, RgOk.of_le (Int.le_refl 0) (by omega) (by decide) (by omega), fun p hp => ?_⟩
  have e : rgV 0 (n : Nat) = (List.range n).map nI := by
    unfold rgV
    rw [Int.sub_zero, show ((n : Nat) : Int).toNat = n by omega]
    refine List.map_congr_left fun x _ => ?_
    show V.int (0 + (x : Nat)) = V.int (x : Nat)
    rw [Int.zero_add]
  rw [e]
  exact q p hp
end
theorem inV_nat (k : Nat) (ms : List Nat) : inV (nI k) (ms.map nI) = decide (k ∈ ms) := by
  have e : ms.map nI = (ms.map fun (n : Nat) => (n : Int)).map V.int := by
    rw [List.map_map]
    rfl
  rw [e]
  show inV (V.int (k : Nat)) _ = _
  rw [inV_int]
  by_cases h : k ∈ ms
  · rw [decide_eq_true h, decide_eq_true (List.mem_map.mpr ⟨k, h, rfl⟩)]
  · rw [decide_eq_false h, decide_eq_false fun z => h (by
      obtain ⟨m, hm, e⟩ := List.mem_map.mp z
      have : m = k := by omega
      rw [← this]
      exact hm)]
theorem flat_nats (ms : List Nat) : (ms.map nI).all flatV = true := List.all_eq_true.mpr fun v hv => by
  obtain ⟨n, _, rfl⟩ := List.mem_map.mp hv
  rfl
theorem mem_rf {n k : Nat} {p : Nat → Bool} (h : k < n) : decide (k ∈ (List.range n).filter p) = p k := by
  cases e : p k with
  | true => exact decide_eq_true (List.mem_filter.mpr ⟨List.mem_range.mpr h, e⟩)
  | false =>
    refine decide_eq_false fun z => ?_
    have := (List.mem_filter.mp z).2
    rw [e] at this
    cases this
theorem any_len {l : List Nat} {n : Nat} {p : Nat → Bool} (h : ∀ k ∈ l, k < n) : decide ((((l.filter fun k => decide (k ∈ (List.range n).filter p)).length : Nat) : Int) > 0) = l.any p := by
  rw [List.filter_congr (q := p) fun k hk => mem_rf (h k hk)]
  cases e : l.any p with
  | true =>
    obtain ⟨k, h1, h2⟩ := List.any_eq_true.mp e
    have := List.length_pos_of_mem (List.mem_filter.mpr ⟨h1, h2⟩)
    exact decide_eq_true (by omega)
  | false =>
    have : l.filter p = [] := List.filter_eq_nil_iff.mpr fun k hk z => by
      have := List.any_eq_false.mp e k hk
      exact this z
    rw [this]
    rfl
theorem all_len {l : List Nat} {n : Nat} {p : Nat → Bool} (h : ∀ k ∈ l, k < n) : decide (V.int (((l.filter fun k => !decide (k ∈ (List.range n).filter p)).length : Nat) : Int) = V.int 0) = l.all p := by
  rw [List.filter_congr (q := fun k => !p k) fun k hk => by rw [mem_rf (h k hk)], show decide (V.int (((l.filter fun k => !p k).length : Nat) : Int) = V.int 0) = decide ((l.filter fun k => !p k).length = 0) from nat_dec _ 0]
  cases e : l.all p with
  | true =>
    have : (l.filter fun k => !p k) = [] := List.filter_eq_nil_iff.mpr fun k hk z => by
      have := List.all_eq_true.mp e k hk
      rw [this] at z
      cases z
    rw [this]
    rfl
  | false =>
    refine decide_eq_false fun z => ?_
    have z := List.length_eq_zero_iff.mp z
    have : l.all p = true := List.all_eq_true.mpr fun k hk => by
      have := List.filter_eq_nil_iff.mp z k hk
      revert this
      cases p k <;> simp
    rw [this] at e
    cases e
theorem facts_at {H : Hp} {fcs : List (List Int)} {as : List Addr} (h : Paired (FcL H) fcs as) {x : Nat} (hx : x < fcs.length) : ∃ u, atI (as.map V.ref) (x : Nat) = some (.ref u) ∧ H u = some (.lst ((fcs.getD x []).map V.int)) := by
  obtain ⟨u, hu, q⟩ := Pd.get' h (List.getElem?_eq_getElem hx)
  refine ⟨u, atI_nat (by rw [List.getElem?_map, hu]; rfl), ?_⟩
  rw [List.getD_eq_getElem?_getD, List.getElem?_eq_getElem hx]
  exact q
theorem iteT' {c : Bool} {A B : Prop} (h : c = true) (q : A) : if c = true then A else B := by
  subst h
  exact iteT q
theorem iteF' {c : Bool} {A B : Prop} (h : c = false) (q : B) : if c = true then A else B := by
  subst h
  exact iteF q
theorem kk_rest : ∀ b : Bool, (decide (V.str (kB b) = V.str "true") = false ∧ decide (V.str (kB b) = V.str "false") = false ∧ decide (V.str (kB b) = V.str "has") = false ∧ decide (V.str (kB b) = V.str "lacks") = false ∧ decide (V.str (kB b) = V.str "var") = false) ∧
    (decide (V.str (kM b) = V.str "true") = false ∧ decide (V.str (kM b) = V.str "false") = false ∧ decide (V.str (kM b) = V.str "has") = false ∧ decide (V.str (kM b) = V.str "lacks") = false ∧ decide (V.str (kM b) = V.str "var") = false) ∧
    decide (V.str (kX b) = V.str "true") = false ∧ decide (V.str (kX b) = V.str "false") = false ∧ decide (V.str (kX b) = V.str "has") = false ∧ decide (V.str (kX b) = V.str "lacks") = false ∧ decide (V.str (kX b) = V.str "var") = false := by decide +kernel
theorem k_rest {f : F} (h : f.isBin = true ∨ f.isMod = true ∨ f.isFix = true) : decide (V.str f.kind = V.str "true") = false ∧ decide (V.str f.kind = V.str "false") = false ∧ decide (V.str f.kind = V.str "has") = false ∧ decide (V.str f.kind = V.str "lacks") = false ∧ decide (V.str f.kind = V.str "var") = false := by
  cases f with
  | bin b f g => exact (kk_rest b).1
  | mod b l f => exact (kk_rest b).2.1
  | fix b x f => exact (kk_rest b).2.2
  | const b => simp [F.isBin, F.isMod, F.isFix] at h
  | fact b p => simp [F.isBin, F.isMod, F.isFix] at h
  | var x => simp [F.isBin, F.isMod, F.isFix] at h
theorem kk_most : ∀ b : Bool, decide (V.str (kX b) = V.str "most") = b := by decide +kernel
theorem kk_and : ∀ b : Bool, decide (V.str (kB b) = V.str "and") = b := by decide +kernel
/-! ### the value of a statement -/
def StsAt (H : Hp) (sd : Addr) (n : Nat) (ρ : Ev) (D : Int → Prop) (z : Nat) (Z : Addr → Prop) : Prop := ∃ kvs : List (Key × V), H sd = some (.dK kvs) ∧ (∀ x, D x → ∃ l, valV kvs (Sum.inl x) = some (.ref l) ∧ H l = some (.lst (((List.range n).filter (ρ x)).map nI)) ∧ Z l) ∧ kvs.length ≤ z
theorem StsAt.mono {H H' : Hp} {sd : Addr} {n : Nat} {ρ : Ev} {D : Int → Prop} {z : Nat} {Z : Addr → Prop} (h : StsAt H sd n ρ D z Z) (s : Same H H') : StsAt H' sd n ρ D z Z := by
  obtain ⟨kvs, h1, h2, h3⟩ := h
  exact ⟨kvs, s _ _ h1, fun x hx => let ⟨l, a, b, c⟩ := h2 x hx; ⟨l, a, s _ _ b, c⟩, h3⟩
def spVal (n : Nat) : Sp := fun vs H Q _ => ∃ (d r a sd : Addr) (W : Wd) (f : F) (ρ : Ev) (D : Int → Prop) (z : Nat) (Z : Addr → Prop), vs = [.ref r, .ref a, .ref sd] ∧ LW H d r W ∧ FA H f a ∧ StsAt H sd W.n ρ D z Z ∧ f.Cl D ∧ z + f.ht ≤ 1000 ∧ f.ht < n ∧ (∀ b, H b = none → Z b) ∧
  ∀ p H', Same H H' → Z p → H' p = some (.lst (((List.range W.n).filter (W.val f ρ)).map nI)) → Q (.ref p) H'
-- slots of _law_value: 0:_law_world_here* 1:_law_statement_here* 2:_law_sets 3:_law_states 4:_law_kind 5:_law_state 6:_law_now 7:_law_turn 8:_law_inner_here 9:_law_name 10:_law_first* 11:_law_k* 12:_law_second*
abbrev n_law_value : List Str := ["_law_world_here", "_law_statement_here", "_law_sets", "_law_states", "_law_kind", "_law_state", "_law_now", "_law_turn", "_law_inner_here", "_law_name", "_law_first", "_law_k", "_law_second"]
theorem sc_law_value : FnScope n_law_value p_law_value (defScope s_law_value) := ⟨rfl, rfl, rfl, by decide +kernel, rfl, by decide +kernel, by decide +kernel⟩
theorem ok_law_value (T : Top w K mg) (n : Nat) : Ok P w K mg base (n + 1) a_law_value p_law_value (spVal n) := by
  induction n with
  | zero => exact ok_none fun vs H Q E ⟨_, _, _, _, _, _, _, _, _, _, _, _, _, _, _, _, h, _⟩ => absurd h (Nat.not_lt_zero _)
  | succ n G_law_value =>
    have G_law_behind := ok_law_behind (P := P) (base := base) T
    refine T.F_law_value.ok sc_law_value (fun vs H Q E h => ?_) (fun cdv A outer s H vs Q E hr h => ?_)
    · obtain ⟨_, _, _, _, _, _, _, _, _, _, rfl, _⟩ := h
      rfl
    · obtain ⟨d, r, a, sd, W, f, ρ, D, z, Z, rfl, hW, hf, hsd, hc, hz, hn, hZ, k⟩ := h
      have hu := hu_of hr
      refine ⟨_, PSs.nox (pss_cons (ps_set (i := 3) sc_law_value.nd rfl (Or.inl rfl) (pe_listRg rfl (by rfl) T.z_list (prg_1 (by rfl) T.z_range (pe_callB (kc_len K) (by rfl) T.z_len bt_len (pa_cons (pe_ix (ki_tup K) (pv 0) pe_int (fun _ _ => rfl)) pa_nil)))))
    (pss_cons (ps_set (i := 4) sc_law_value.nd rfl (Or.inl rfl) (pe_ix (ki_tup K) (pv 1) pe_int (fun _ _ => rfl)))
    (pss_cons (ps_if (pt_cmpR op_eq (pv 4) pe_str (nomark _)) (pss_one (ps_ret (pv 3))) pss_nil)
    (pss_cons (ps_if (pt_cmpR op_eq (pv 4) pe_str (nomark _)) (pss_one (ps_ret (pe_lst pa_nil))) pss_nil)
    (pss_cons (ps_if (pt_cmpR op_eq (pv 4) pe_str (nomark _)) (pss_one (ps_ret (pe_lc (own := [("_law_state", 5)]) (g := gName 5) rfl sc_law_value.nd (kpi_list K (pv 3)) (blkOk_by (N := n_law_value) (sc := (defScope s_law_value)) (by decide +kernel)) (fun _ _ _ _ _ => (pg_name (i := 5) sc_law_value.nd rfl (Or.inl rfl))) (fun _ _ _ _ _ => (pts_one (pt_cmpR (ko_in K) (pe_ix (ki_tup K) (pv 1) pe_int (fun _ _ => rfl)) (pe_ix (ki_list K) (pe_ix (ki_tup K) (pv 0) pe_int (fun _ _ => rfl)) (pv 5) (fun _ _ => rfl)) (by rfl)))) (fun _ _ _ _ _ => (pv 5))))) pss_nil)
    (pss_cons (ps_if (pt_cmpR op_eq (pv 4) pe_str (nomark _)) (pss_one (ps_ret (pe_lc (own := [("_law_state", 5)]) (g := gName 5) rfl sc_law_value.nd (kpi_list K (pv 3)) (blkOk_by (N := n_law_value) (sc := (defScope s_law_value)) (by decide +kernel)) (fun _ _ _ _ _ => (pg_name (i := 5) sc_law_value.nd rfl (Or.inl rfl))) (fun _ _ _ _ _ => (pts_one (pt_cmpR (ko_notIn K) (pe_ix (ki_tup K) (pv 1) pe_int (fun _ _ => rfl)) (pe_ix (ki_list K) (pe_ix (ki_tup K) (pv 0) pe_int (fun _ _ => rfl)) (pv 5) (fun _ _ => rfl)) (by rfl)))) (fun _ _ _ _ _ => (pv 5))))) pss_nil)
    (pss_cons (ps_if (pt_cmpR op_eq (pv 4) pe_str (nomark _)) (pss_one (ps_ret (pe_dget hu (pv 2) (pe_ix (ki_tup K) (pv 1) pe_int (fun _ _ => rfl)) (fun _ _ => rfl)))) pss_nil)
    (pss_cons (ps_if (pt_cmpR (ko_in K) (pv 4) (pe_tup (pa_cons pe_str (pa_cons pe_str pa_nil))) (by rfl)) (pss_cons (ps_set (i := 6) sc_law_value.nd rfl (Or.inl rfl) (pe_lst pa_nil))
      (pss_cons (ps_if (pt_cmpR op_eq (pv 4) pe_str (nomark _)) (pss_one (ps_set (i := 6) sc_law_value.nd rfl (Or.inl rfl) (pe_callTy (kc_list K) (by rfl) T.z_list bt_list (pa_cons (pv 3) pa_nil)))) pss_nil)
      (pss_cons (ps_for PassesOwn.never rfl (pi_range1 (by rfl) T.z_range (pa_cons (pe_op op_add (pe_callB (kc_len K) (by rfl) T.z_len bt_len (pa_cons (pe_ix (ki_tup K) (pv 0) pe_int (fun _ _ => rfl)) pa_nil)) pe_int) pa_nil)) (pg_name (i := 7) sc_law_value.nd rfl (Or.inl rfl)) (pss_cons (ps_set (i := 8) sc_law_value.nd rfl (Or.inl rfl) pe_dnewK)
        (pss_cons (ps_lock (ps_for PassesOwn.never rfl (pi_keys (pv 2)) (pg_name (i := 9) sc_law_value.nd rfl (Or.inl rfl)) (pss_one (ps_dput hu (pv 8) (pv 9) (pe_dget hu (pv 2) (pv 9) (fun _ _ => rfl)) rfl))))
        (pss_cons (ps_dput hu (pv 8) (pe_ix (ki_tup K) (pv 1) pe_int (fun _ _ => rfl)) (pv 6) rfl)
        (pss_one (ps_set (i := 6) sc_law_value.nd rfl (Or.inl rfl) (pe_call G_law_value (hr.mono (by omega)) rfl T.g_law_value T.F_law_value.kp T.b_law_value .nil pass0 (pa_cons (pv 0) (pa_cons (pe_ix (ki_tup K) (pv 1) pe_int (fun _ _ => rfl)) (pa_cons (pv 8) pa_nil))))))))))
      (pss_one (ps_ret (pv 6)))))) pss_nil)
    (pss_cons (ps_set (i := 10) sc_law_value.nd rfl (Or.inr rfl) (pe_call G_law_value (hr.mono (by omega)) rfl T.g_law_value T.F_law_value.kp T.b_law_value .nil pass0 (pa_cons (pv 0) (pa_cons (pe_ix (ki_tup K) (pv 1) (pe_op op_sub (pe_callB (kc_len K) (by rfl) T.z_len bt_len (pa_cons (pv 1) pa_nil)) pe_int) (fun _ _ => rfl)) (pa_cons (pv 2) pa_nil)))))
    (pss_cons (ps_if (pt_cmpR op_eq (pv 4) pe_str (nomark _)) (pss_one (ps_ret (pe_lc (own := [("_law_state", 5)]) (g := gName 5) rfl sc_law_value.nd (kpi_list K (pv 3)) (blkOk_by (N := n_law_value) (sc := (defScope s_law_value)) (by decide +kernel)) (fun _ _ _ _ _ => (pg_name (i := 5) sc_law_value.nd rfl (Or.inl rfl))) (fun _ _ _ _ _ => (pts_one (pt_cmpR op_gt (pe_callB (kc_len K) (by rfl) T.z_len bt_len (pa_cons (pe_lc (own := [("_law_k", 11)]) (g := gName 11) rfl sc_law_value.nd (kpi_list K (pe_call G_law_behind (hr.mono (by omega)) rfl T.g_law_behind T.F_law_behind.kp T.b_law_behind .nil pass0 (pa_cons (pv 0) (pa_cons (pv 5) (pa_cons (pe_ix (ki_tup K) (pv 1) pe_int (fun _ _ => rfl)) pa_nil))))) (blkOk_by (N := n_law_value) (sc := { kind := .function, names := [(".0", .local), ("_law_state", .local), ("len", .globalImplicit), ("_law_behind", .globalImplicit), ("_law_first", .cell), ("_law_statement_here", .cell), ("_law_world_here", .cell)], isGenerator := false, isCoroutine := false }) (by decide +kernel)) (fun _ _ _ _ _ => (pg_name (i := 11) sc_law_value.nd rfl (Or.inl rfl))) (fun _ _ _ _ _ => (pts_one (pt_cmpR (ko_in K) (pv 11) (pv 10) (by rfl)))) (fun _ _ _ _ _ => (pv 11))) pa_nil)) pe_int (nomark _)))) (fun _ _ _ _ _ => (pv 5))))) pss_nil)
    (pss_cons (ps_if (pt_cmpR op_eq (pv 4) pe_str (nomark _)) (pss_one (ps_ret (pe_lc (own := [("_law_state", 5)]) (g := gName 5) rfl sc_law_value.nd (kpi_list K (pv 3)) (blkOk_by (N := n_law_value) (sc := (defScope s_law_value)) (by decide +kernel)) (fun _ _ _ _ _ => (pg_name (i := 5) sc_law_value.nd rfl (Or.inl rfl))) (fun _ _ _ _ _ => (pts_one (pt_cmpR op_eq (pe_callB (kc_len K) (by rfl) T.z_len bt_len (pa_cons (pe_lc (own := [("_law_k", 11)]) (g := gName 11) rfl sc_law_value.nd (kpi_list K (pe_call G_law_behind (hr.mono (by omega)) rfl T.g_law_behind T.F_law_behind.kp T.b_law_behind .nil pass0 (pa_cons (pv 0) (pa_cons (pv 5) (pa_cons (pe_ix (ki_tup K) (pv 1) pe_int (fun _ _ => rfl)) pa_nil))))) (blkOk_by (N := n_law_value) (sc := { kind := .function, names := [(".0", .local), ("_law_state", .local), ("len", .globalImplicit), ("_law_behind", .globalImplicit), ("_law_first", .cell), ("_law_statement_here", .cell), ("_law_world_here", .cell)], isGenerator := false, isCoroutine := false }) (by decide +kernel)) (fun _ _ _ _ _ => (pg_name (i := 11) sc_law_value.nd rfl (Or.inl rfl))) (fun _ _ _ _ _ => (pts_one (pt_cmpR (ko_notIn K) (pv 11) (pv 10) (by rfl)))) (fun _ _ _ _ _ => (pv 11))) pa_nil)) pe_int (nomark _)))) (fun _ _ _ _ _ => (pv 5))))) pss_nil)
    (pss_cons (ps_set (i := 12) sc_law_value.nd rfl (Or.inr rfl) (pe_call G_law_value (hr.mono (by omega)) rfl T.g_law_value T.F_law_value.kp T.b_law_value .nil pass0 (pa_cons (pv 0) (pa_cons (pe_ix (ki_tup K) (pv 1) pe_int (fun _ _ => rfl)) (pa_cons (pv 2) pa_nil)))))
    (pss_cons (ps_if (pt_cmpR op_eq (pv 4) pe_str (nomark _)) (pss_one (ps_ret (pe_lc (own := [("_law_state", 5)]) (g := gName 5) rfl sc_law_value.nd (kpi_list K (pv 3)) (blkOk_by (N := n_law_value) (sc := (defScope s_law_value)) (by decide +kernel)) (fun _ _ _ _ _ => (pg_name (i := 5) sc_law_value.nd rfl (Or.inl rfl))) (fun _ _ _ _ _ => (pts_one (PW.pt (pw_and (pt_cmpR (ko_in K) (pv 5) (pv 10) (by rfl)) (pw_and1 (pt_cmpR (ko_in K) (pv 5) (pv 12) (by rfl))))))) (fun _ _ _ _ _ => (pv 5))))) pss_nil)
    (pss_one (ps_ret (pe_lc (own := [("_law_state", 5)]) (g := gName 5) rfl sc_law_value.nd (kpi_list K (pv 3)) (blkOk_by (N := n_law_value) (sc := (defScope s_law_value)) (by decide +kernel)) (fun _ _ _ _ _ => (pg_name (i := 5) sc_law_value.nd rfl (Or.inl rfl))) (fun _ _ _ _ _ => (pts_one (PW.pt (pw_or (pt_cmpR (ko_in K) (pv 5) (pv 10) (by rfl)) (pw_or1 (pt_cmpR (ko_in K) (pv 5) (pv 12) (by rfl))))))) (fun _ _ _ _ _ => (pv 5)))))))))))))))))), ?_⟩
      obtain ⟨wok, asc, ls, lt, as, bs, h1, h2, h3, h4, h5, _⟩ := id hW
      have hal := Paired.length h3
      have fl := wok.fl
      have n4 := wok.n4
      obtain ⟨ys, e, hi⟩ := hf.tup
      walk_at "go"
      refine g_lstRg ?_
      walk_at "go"
      refine g_ixT (SqT.of h1) at0 ?_
      walk_at "go"
      refine g_len (.inl (SqL.of h2)) ?_
      rw [List.length_map, ← hal, fl]
      refine g_rLR (by omega) fun sl hsl => ?_
      have s1 := same_new (o := .lst ((List.range W.n).map nI)) hsl
      have hl1 : upd H sl (.lst ((List.range W.n).map nI)) sl = some (.lst ((List.range W.n).map nI)) := upd_same
      generalize upd H sl (.lst ((List.range W.n).map nI)) = H1 at s1 hl1 ⊢
      walk_at "go"
      refine g_ixT (SqT.of (s1 _ _ e)) at0 ?_
      walk_at "go"
      have hrl : (List.range W.n).length ≤ 51200 := by rw [List.length_range]; omega
      cases f with
      | const b =>
        cases b with
        | true =>
          refine iteT' (by decide +kernel) ?_
          walk_at "go"
          refine k sl H1 s1 (hZ _ hsl) ?_
          have ef : (List.range W.n).filter (W.val (.const true) ρ) = List.range W.n := List.filter_eq_self.mpr fun s _ => rfl
          rw [hl1, ef]
        | false =>
          refine iteF' (by decide +kernel) ?_
          walk_at "go"
          refine iteT' (by decide +kernel) ?_
          walk_at "go"
          refine g_newL 0 rfl (by decide) fun p hp => ?_
          walk_at "go"
          refine k p _ (s1.new hp) (hZ _ (s1.free hp)) ?_
          have ef : (List.range W.n).filter (W.val (.const false) ρ) = [] := List.filter_eq_nil_iff.mpr fun s _ => (by decide : ¬ false = true)
          rw [upd_same, ef]
          rfl
      | fact b p =>
        have hf : H a = some (.tup [.str (kP b), .int p]) := hf
        cases b with
        | true =>
          refine iteF' (show decide (V.str (kP true) = V.str "true") = false by decide +kernel) ?_
          walk_at "go"
          refine iteF' (show decide (V.str (kP true) = V.str "false") = false by decide +kernel) ?_
          walk_at "go"
          refine iteT' (show decide (V.str (kP true) = V.str "has") = true by decide +kernel) ?_
          walk_at "go"
          refine g_filt hl1 hrl (W.val (.fact true p) ρ) (fun _ => rfl) (fun _ => rfl) (fun x hx H' s0 Qb q => ?_) fun E H' zE s2 hE => ?_
          · obtain ⟨u, hu1, hu2⟩ := facts_at h3 (by rw [fl]; exact List.mem_range.mp hx)
            have s01 := s1.trans s0
            have eq : W.val (.fact true p) ρ x = (decide (p ∈ W.fc.getD x [])) := by
              show (decide (p ∈ W.fc.getD x []) == true) = _
              cases decide (p ∈ W.fc.getD x []) <;> rfl
            rw [eq] at q
            walk_at "go"
            refine g_ixT (SqT.of (s01 _ _ hf)) at1 ?_
            walk_at "go"
            refine g_ixT (SqT.of (s01 _ _ h1)) at0 ?_
            walk_at "go"
            refine g_ixL (SqL.of (s01 _ _ h2)) hu1 ?_
            walk_at "go"
            refine g_inL (SqL.of (s01 _ _ hu2)) rfl (flat_ints _) ?_
            walk_at "go"
            rw [inV_int]
            exact q
          · walk_at "go"
            exact k E H' (s1.trans s2) (hZ _ (s1.free zE)) hE
        | false =>
          refine iteF' (show decide (V.str (kP false) = V.str "true") = false by decide +kernel) ?_
          walk_at "go"
          refine iteF' (show decide (V.str (kP false) = V.str "false") = false by decide +kernel) ?_
          walk_at "go"
          refine iteF' (show decide (V.str (kP false) = V.str "has") = false by decide +kernel) ?_
          walk_at "go"
          refine iteT' (show decide (V.str (kP false) = V.str "lacks") = true by decide +kernel) ?_
          walk_at "go"
          refine g_filt hl1 hrl (W.val (.fact false p) ρ) (fun _ => rfl) (fun _ => rfl) (fun x hx H' s0 Qb q => ?_) fun E H' zE s2 hE => ?_
          · obtain ⟨u, hu1, hu2⟩ := facts_at h3 (by rw [fl]; exact List.mem_range.mp hx)
            have s01 := s1.trans s0
            have eq : W.val (.fact false p) ρ x = (!decide (p ∈ W.fc.getD x [])) := by
              show (decide (p ∈ W.fc.getD x []) == false) = _
              cases decide (p ∈ W.fc.getD x []) <;> rfl
            rw [eq] at q
            walk_at "go"
            refine g_ixT (SqT.of (s01 _ _ hf)) at1 ?_
            walk_at "go"
            refine g_ixT (SqT.of (s01 _ _ h1)) at0 ?_
            walk_at "go"
            refine g_ixL (SqL.of (s01 _ _ h2)) hu1 ?_
            walk_at "go"
            refine g_notInL (SqL.of (s01 _ _ hu2)) rfl (flat_ints _) ?_
            walk_at "go"
            rw [inV_int]
            exact q
          · walk_at "go"
            exact k E H' (s1.trans s2) (hZ _ (s1.free zE)) hE
      | var x =>
        have hf : H a = some (.tup [.str "var", .int x]) := hf
        obtain ⟨kvs, hk1, hk2, hk3⟩ := hsd
        obtain ⟨lx, hv, hlx, zlx⟩ := hk2 x hc
        refine iteF' (show decide (V.str "var" = V.str "true") = false by decide +kernel) ?_
        walk_at "go"
        refine iteF' (show decide (V.str "var" = V.str "false") = false by decide +kernel) ?_
        walk_at "go"
        refine iteF' (show decide (V.str "var" = V.str "has") = false by decide +kernel) ?_
        walk_at "go"
        refine iteF' (show decide (V.str "var" = V.str "lacks") = false by decide +kernel) ?_
        walk_at "go"
        refine iteT' (show decide (V.str "var" = V.str "var") = true by decide +kernel) ?_
        walk_at "go"
        refine g_ixT (SqT.of (s1 _ _ hf)) at1 ?_
        walk_at "go"
        refine g_rdg (k := Sum.inl x) (s1 _ _ hk1) hv ?_
        walk_at "go"
        exact k lx H1 s1 zlx (s1 _ _ hlx)
      | fix b y g =>
        obtain ⟨t1, t2, t3, t4, t5⟩ := k_rest (f := .fix b y g) (.inr (.inr rfl))
        obtain ⟨u, e', hg⟩ := id hf
        obtain ⟨kvs, hk1, hk2, hk3⟩ := id hsd
        have hht : (F.fix b y g).ht = g.ht + 1 := rfl
        refine iteF' t1 ?_
        walk_at "go"
        refine iteF' t2 ?_
        walk_at "go"
        refine iteF' t3 ?_
        walk_at "go"
        refine iteF' t4 ?_
        walk_at "go"
        refine iteF' t5 ?_
        walk_at "go"
        refine g_newT 2 rfl (by decide) fun q2 hq2 => ?_
        have s2 := s1.trans (same_new (o := .tup [.str "least", .str "most"]) hq2)
        have hl2 := (same_new (o := .tup [.str "least", .str "most"]) hq2) _ _ hl1
        refine g_inT (SqT.of upd_same) rfl rfl ?_
        generalize upd H1 q2 (.tup [.str "least", .str "most"]) = H2 at s2 hl2 ⊢
        walk_at "go"
        refine iteT' (k_fix (.fix b y g)) ?_
        refine g_tail2 (fun σ' H' => ∃ nl : Addr, σ' = [some (.ref r), some (.ref a), some (.ref sd), some (.ref sl), some (.str (F.fix b y g).kind), none, some (.ref nl), none, none, none, none, none, none] ∧ Same H H' ∧ Z nl ∧ H' nl = some (.lst (((List.range W.n).filter (itN b (fun X => W.val g (upV ρ y X)) 0)).map nI))) (fun U hU => ?_) (fun σ' H3 hP => ?_)
        · walk_at "go"
          refine g_newL 0 rfl (by decide) fun nl hnl => ?_
          have s3 := s2.new (o := .lst []) hnl
          have hl3 := (same_new (o := .lst []) hnl) _ _ hl2
          walk_at "go"
          refine iteB (kk_most b) (fun hb => ?_) (fun hb => ?_)
          · subst hb
            walk_at "go"
            refine ⟨sl, _, rfl, .inl (SqL.of hl3), fun m hm => ?_⟩
            walk_at "go"
            refine hU _ _ ⟨m, rfl, s3.new hm, hZ _ (s3.free hm), ?_⟩
            have ef : (List.range W.n).filter (itN true (fun X => W.val g (upV ρ y X)) 0) = List.range W.n := List.filter_eq_self.mpr fun s _ => rfl
            rw [upd_same, ef]
          · subst hb
            walk_at "go"
            refine hU _ _ ⟨nl, rfl, s3, hZ _ (s2.free hnl), ?_⟩
            have ef : (List.range W.n).filter (itN false (fun X => W.val g (upV ρ y X)) 0) = [] := List.filter_eq_nil_iff.mpr fun s _ => (by decide : ¬ false = true)
            rw [upd_same, ef]
            rfl
        · obtain ⟨nl, rfl, s3, znl, hnl⟩ := hP
          walk_at "go"
          refine g_ixT (SqT.of (s3 _ _ h1)) at0 ?_
          walk_at "go"
          refine g_len (.inl (SqL.of (s3 _ _ h2))) ?_
          walk_at "go"
          rw [List.length_map, ← hal, fl, show (((W.n : Nat) : Int) + 1) = ((W.n + 1 : Nat) : Int) from rfl]
          refine g_rforR (n := W.n + 1) (by omega) (fun i σ' H' => ∃ (nl : Addr) (v7 v8 v9 : Option V), σ' = [some (.ref r), some (.ref a), some (.ref sd), some (.ref sl), some (.str (F.fix b y g).kind), none, some (.ref nl), v7, v8, v9, none, none, none] ∧ Same H H' ∧ Z nl ∧ H' nl = some (.lst (((List.range W.n).filter (itN b (fun X => W.val g (upV ρ y X)) i)).map nI)))
            ⟨nl, none, none, none, rfl, s3, znl, hnl⟩ ?_ ?_
          · rintro i σ' Hi hi' ⟨nl, v7, v8, v9, rfl, s4, znl, hnl⟩
            walk_at "go"
            intro l hl
            have s5 := same_new (o := .dK []) hl
            have zl := hl
            have nld : l ≠ sd := (ne_of_none (s4 _ _ hk1) zl).symm
            walk_at "go"
            refine g_forK (d := sd) (kvs := kvs) (s5 _ _ (s4 _ _ hk1)) (fun H' Q q => ⟨_, rfl, q⟩) (fun u i' σ' H' => ∃ (kv2 : List (Key × V)) (v9 : Option V), σ' = [some (.ref r), some (.ref a), some (.ref sd), some (.ref sl), some (.str (F.fix b y g).kind), none, some (.ref nl), some (.int (i : Nat)), some (.ref l), v9, none, none, none] ∧ (∀ b o, b ≠ sd → Hi b = some o → H' b = some o) ∧ H' sd = some u ∧ H' l = some (.dK kv2) ∧ kv2.length ≤ i' ∧
                (∀ k : Key, k ∈ (kvs.take i').map (·.1) → valV kv2 k = valV kvs k) ∧ ∀ k : Key, k ∉ (kvs.take i').map (·.1) → valV kv2 k = none)
              (fun u => ⟨[], v9, rfl, fun b o n e => by rw [upd_ne n]; exact s5 _ _ e, upd_same, by rw [upd_ne nld]; exact upd_same, Nat.le_refl _, (fun k h => by simp at h), fun k _ => rfl⟩) (fun u i σ' H' ⟨_, _, _, _, z, _⟩ => z) (fun o i' k v σ' H' hkv ⟨kv2, v4, eσ, sO, hdo, hl2, hlen, hval, hnon⟩ => ?_) (fun uu σ' H' ⟨kv2, v4, eσ, sO, hdo, hl2, hlen, hval, hnon⟩ => ?_)
            · subst eσ
              obtain ⟨w0, hw0⟩ : ∃ w0, valV kvs k = some w0 := by
                have hm := List.mem_of_getElem? hkv
                cases q : valV kvs k with
                | some w0 => exact ⟨w0, rfl⟩
                | none =>
                  unfold valV at q
                  have := List.find?_eq_none.mp (Option.map_eq_none_iff.mp q) _ hm
                  simp at this
              have hil := (List.getElem?_eq_some_iff.mp hkv).1
              walk_at "go"
              refine ⟨sd, w0, rfl, .inl ⟨kvs, k, .inr ⟨o, hdo⟩, rfl, hw0.symm⟩, ?_⟩
              walk_at "go"
              refine g_rdp hl2 (lt_line (by omega)) ?_
              walk_at "go"
              have lp := length_putK kv2 k w0
              refine ⟨_, _, rfl, fun b u n e => by rw [upd_ne (ne_of_none e zl)]; exact sO b u n e, by rw [upd_ne nld.symm]; exact hdo, upd_same, by omega, fun k' h => ?_, fun k' h => ?_⟩
              · rw [valV_put]
                by_cases e : k' = k
                · rw [if_pos e, e, hw0]
                · rw [if_neg e]
                  refine hval k' ?_
                  rw [take_snoc hkv, List.map_append] at h
                  exact (List.mem_append.mp h).resolve_right fun z => e (List.mem_singleton.mp z)
              · rw [take_snoc hkv, List.map_append] at h
                rw [valV_put, if_neg fun e => h (List.mem_append_right _ (List.mem_singleton.mpr e))]
                exact hnon k' fun z => h (List.mem_append_left _ z)
            · subst eσ
              rw [List.take_length] at hval hnon
              have heq : ∀ k : Key, valV kv2 k = valV kvs k := fun k => by
                by_cases h : k ∈ kvs.map (·.1)
                · exact hval k h
                · rw [hnon k h]
                  unfold valV
                  rw [List.find?_eq_none.mpr fun q hq => by
                    have : q.1 ≠ k := fun e => h (List.mem_map.mpr ⟨q, hq, e⟩)
                    simp [this]]
                  rfl
              have s6 : Same Hi (upd H' sd (.dK kvs)) := fun b u' e => by
                by_cases h : b = sd
                · subst h
                  rw [upd_same]
                  rw [s4 _ _ hk1] at e
                  exact e
                · rw [upd_ne h]
                  exact sO b u' h e
              have hl6 : upd H' sd (.dK kvs) l = some (.dK kv2) := by rw [upd_ne nld]; exact hl2
              generalize upd H' sd (.dK kvs) = H6 at s6 hl6 ⊢
              have s46 := s4.trans s6
              walk_at "go"
              refine g_ixT (SqT.of (s46 _ _ e')) at1 ?_
              walk_at "go"
              refine g_rdp (k := Sum.inl y) hl6 (lt_line (by omega)) ?_
              have s7 : Same Hi (upd H6 l (.dK (putK kv2 (Sum.inl y) (.ref nl)))) := s6.mut zl
              have s47 := s4.trans s7
              have hnl7 := s7 _ _ hnl
              have hl7 : upd H6 l (.dK (putK kv2 (Sum.inl y) (.ref nl))) l = some (.dK (putK kv2 (Sum.inl y) (.ref nl))) := upd_same
              generalize upd H6 l (.dK (putK kv2 (Sum.inl y) (.ref nl))) = H7 at s7 s47 hnl7 hl7 ⊢
              walk_at "go"
              refine g_ixT (SqT.of (s47 _ _ e')) at2 ?_
              walk_at "go"
              refine ⟨d, r, u, l, W, g, upV ρ y (itN b (fun X => W.val g (upV ρ y X)) i), fun x => x = y ∨ D x, z + 1, Z, rfl, hW.mono s47, hg.mono s47, ⟨_, hl7, fun x hx => ?_, by have := length_putK kv2 (Sum.inl y) (V.ref nl); omega⟩, hc, by omega, by omega, fun b hb => hZ b (s47.free hb), fun p H8 s8 zp hp => ?_⟩
              · rw [valV_put, heq]
                unfold upV
                by_cases ex : x = y
                · rw [if_pos (by rw [ex]), if_pos ex]
                  exact ⟨nl, rfl, hnl7, znl⟩
                · rw [if_neg fun e => ex (Sum.inl.inj e), if_neg ex]
                  obtain ⟨lx, q1, q2, q3⟩ := hk2 x (hx.resolve_left ex)
                  exact ⟨lx, q1, s47 _ _ q2, q3⟩
              · walk_at "go"
                exact ⟨p, _, _, _, rfl, s47.trans s8, zp, hp⟩
          · rintro σ' H' ⟨nl, v7, v8, v9, rfl, s4, znl, hnl⟩
            walk_at "go"
            exact k nl H' s4 znl hnl
      | mod b l f1 =>
        obtain ⟨t1, t2, t3, t4, t5⟩ := k_rest (f := .mod b l f1) (.inr (.inl rfl))
        obtain ⟨u, e', hg⟩ := id hf
        have hht : (F.mod b l f1).ht = f1.ht + 1 := rfl
        refine iteF' t1 ?_
        walk_at "go"
        refine iteF' t2 ?_
        walk_at "go"
        refine iteF' t3 ?_
        walk_at "go"
        refine iteF' t4 ?_
        walk_at "go"
        refine iteF' t5 ?_
        walk_at "go"
        refine g_newT 2 rfl (by decide) fun q2 hq2 => ?_
        have s2 := s1.trans (same_new (o := .tup [.str "least", .str "most"]) hq2)
        have hl2 := (same_new (o := .tup [.str "least", .str "most"]) hq2) _ _ hl1
        refine g_inT (SqT.of upd_same) rfl rfl ?_
        generalize upd H1 q2 (.tup [.str "least", .str "most"]) = H2 at s2 hl2 ⊢
        walk_at "go"
        refine iteF' (k_fix (.mod b l f1)) ?_
        walk_at "go"
        refine g_len (.inr (SqT.of (s2 _ _ e'))) ?_
        walk_at "go"
        refine g_ixT (SqT.of (s2 _ _ e')) at2 ?_
        walk_at "go"
        refine ⟨d, r, u, sd, W, f1, ρ, D, z, Z, rfl, hW.mono s2, hg.mono s2, hsd.mono s2, hc, by omega, by omega, fun b hb => hZ b (s2.free hb), fun p1 H3 s3 zp1 hp1 => ?_⟩
        have hl1 := hl2
        have s1 := s2
        walk_at "go"
        cases b with
        | false =>
          refine iteT' (k_some (.mod false l f1)) ?_
          walk_at "go"
          refine g_filtS (s3 _ _ hl1) hrl (W.val (.mod false l f1) ρ) (fun _ => rfl) (fun _ => rfl) (fun x hx H' s0 Qb q => ?_) fun E H' zE s4 hE => ?_
          · have s02 := (s1.trans s3).trans s0
            walk_at "go"
            refine g_ixT (SqT.of (s02 _ _ e')) at1 ?_
            walk_at "go"
            refine ⟨d, r, W, x, l, rfl, hW.mono s02, fun bl H5 zb s5 hb => ?_⟩
            have fl32 := foll_len wok x l
            refine g_filt hb (by omega) (fun y => decide (y ∈ (List.range W.n).filter (W.val f1 ρ))) (fun _ => rfl) (fun _ => rfl) (fun y hy H6 s6 Qb' q' => ?_) fun E6 H6 _ s6 hE6 => ?_
            · walk_at "go"
              refine g_inL (SqL.of (s6 _ _ (s5 _ _ (s0 _ _ hp1)))) rfl (flat_nats _) ?_
              walk_at "go"
              rw [inV_nat]
              exact q'
            · walk_at "go"
              refine g_len (.inl (SqL.of hE6)) ?_
              walk_at "go"
              rw [List.length_map]
              rw [any_len fun y hy => foll_lt wok hy]
              exact q H6 (s5.trans s6)
          · walk_at "go"
            exact k E H' ((s1.trans s3).trans s4) (hZ _ ((s1.trans s3).free zE)) hE
        | true =>
          refine iteF' (k_some (.mod true l f1)) ?_
          walk_at "go"
          refine iteT' (k_all (.mod true l f1)) ?_
          walk_at "go"
          refine g_filtS (s3 _ _ hl1) hrl (W.val (.mod true l f1) ρ) (fun _ => rfl) (fun _ => rfl) (fun x hx H' s0 Qb q => ?_) fun E H' zE s4 hE => ?_
          · have s02 := (s1.trans s3).trans s0
            walk_at "go"
            refine g_ixT (SqT.of (s02 _ _ e')) at1 ?_
            walk_at "go"
            refine ⟨d, r, W, x, l, rfl, hW.mono s02, fun bl H5 zb s5 hb => ?_⟩
            have fl32 := foll_len wok x l
            refine g_filt hb (by omega) (fun y => !decide (y ∈ (List.range W.n).filter (W.val f1 ρ))) (fun _ => rfl) (fun _ => rfl) (fun y hy H6 s6 Qb' q' => ?_) fun E6 H6 _ s6 hE6 => ?_
            · walk_at "go"
              refine g_notInL (SqL.of (s6 _ _ (s5 _ _ (s0 _ _ hp1)))) rfl (flat_nats _) ?_
              walk_at "go"
              rw [inV_nat]
              exact q'
            · walk_at "go"
              refine g_len (.inl (SqL.of hE6)) ?_
              walk_at "go"
              rw [List.length_map]
              rw [all_len fun y hy => foll_lt wok hy]
              exact q H6 (s5.trans s6)
          · walk_at "go"
            exact k E H' ((s1.trans s3).trans s4) (hZ _ ((s1.trans s3).free zE)) hE
      | bin b f1 f2 =>
        obtain ⟨t1, t2, t3, t4, t5⟩ := k_rest (f := .bin b f1 f2) (.inl rfl)
        obtain ⟨u1, u2, e', hg1, hg2⟩ := id hf
        have hht : (F.bin b f1 f2).ht = max f1.ht f2.ht + 1 := rfl
        refine iteF' t1 ?_
        walk_at "go"
        refine iteF' t2 ?_
        walk_at "go"
        refine iteF' t3 ?_
        walk_at "go"
        refine iteF' t4 ?_
        walk_at "go"
        refine iteF' t5 ?_
        walk_at "go"
        refine g_newT 2 rfl (by decide) fun q2 hq2 => ?_
        have s2 := s1.trans (same_new (o := .tup [.str "least", .str "most"]) hq2)
        have hl2 := (same_new (o := .tup [.str "least", .str "most"]) hq2) _ _ hl1
        refine g_inT (SqT.of upd_same) rfl rfl ?_
        generalize upd H1 q2 (.tup [.str "least", .str "most"]) = H2 at s2 hl2 ⊢
        walk_at "go"
        refine iteF' (k_fix (.bin b f1 f2)) ?_
        walk_at "go"
        refine g_len (.inr (SqT.of (s2 _ _ e'))) ?_
        walk_at "go"
        refine g_ixT (SqT.of (s2 _ _ e')) at2 ?_
        walk_at "go"
        refine ⟨d, r, u2, sd, W, f2, ρ, D, z, Z, rfl, hW.mono s2, hg2.mono s2, hsd.mono s2, hc.2, by omega, by omega, fun b hb => hZ b (s2.free hb), fun p1 H3 s3 zp1 hp1 => ?_⟩
        walk_at "go"
        refine iteF' (k_some (.bin b f1 f2)) ?_
        walk_at "go"
        refine iteF' (k_all (.bin b f1 f2)) ?_
        walk_at "go"
        have s23 := s2.trans s3
        refine g_ixT (SqT.of (s23 _ _ e')) at1 ?_
        walk_at "go"
        refine ⟨d, r, u1, sd, W, f1, ρ, D, z, Z, rfl, hW.mono s23, hg1.mono s23, hsd.mono s23, hc.1, by omega, by omega, fun b hb => hZ b (s23.free hb), fun p2 H4 s4 zp2 hp2 => ?_⟩
        have s24 := s23.trans s4
        have hl4 := s4 _ _ (s3 _ _ hl2)
        have hp14 := s4 _ _ hp1
        walk_at "go"
        refine iteB (kk_and b) (fun hb => ?_) (fun hb => ?_)
        · subst hb
          walk_at "go"
          refine g_filt hl4 hrl (W.val (.bin true f1 f2) ρ) (fun _ => rfl) (fun _ => rfl) (fun x hx H' s0 Qb q => ?_) fun E H' zE s5 hE => ?_
          · have hx := List.mem_range.mp hx
            have eq : W.val (.bin true f1 f2) ρ x = (W.val f1 ρ x && W.val f2 ρ x) := rfl
            rw [eq] at q
            walk_at "go"
            refine g_inL (SqL.of (s0 _ _ hp14)) rfl (flat_nats _) ?_
            walk_at "go"
            rw [inV_nat, mem_rf hx]
            revert q
            cases W.val f2 ρ x with
            | true =>
              intro q
              refine iteT ?_
              walk_at "go"
              refine g_inL (SqL.of (s0 _ _ hp2)) rfl (flat_nats _) ?_
              walk_at "go"
              rw [inV_nat, mem_rf hx]
              rw [Bool.and_true] at q
              exact q
            | false =>
              intro q
              rw [Bool.and_false] at q
              exact iteF q
          · walk_at "go"
            exact k E H' (s24.trans s5) (hZ _ (s24.free zE)) hE
        · subst hb
          walk_at "go"
          refine g_filt hl4 hrl (W.val (.bin false f1 f2) ρ) (fun _ => rfl) (fun _ => rfl) (fun x hx H' s0 Qb q => ?_) fun E H' zE s5 hE => ?_
          · have hx := List.mem_range.mp hx
            have eq : W.val (.bin false f1 f2) ρ x = (W.val f1 ρ x || W.val f2 ρ x) := rfl
            rw [eq] at q
            walk_at "go"
            refine g_inL (SqL.of (s0 _ _ hp14)) rfl (flat_nats _) ?_
            walk_at "go"
            rw [inV_nat, mem_rf hx]
            revert q
            cases W.val f2 ρ x with
            | true =>
              intro q
              rw [Bool.or_true] at q
              exact iteT q
            | false =>
              intro q
              refine iteF ?_
              walk_at "go"
              refine g_inL (SqL.of (s0 _ _ hp2)) rfl (flat_nats _) ?_
              walk_at "go"
              rw [inV_nat, mem_rf hx]
              rw [Bool.or_false] at q
              exact q
          · walk_at "go"
            exact k E H' (s24.trans s5) (hZ _ (s24.free zE)) hE
end
end K22

set_option Elab.async false
set_option linter.all false
set_option maxRecDepth 100000
set_option maxHeartbeats 1000000
namespace K22
open PySem PySem.Spec PyProof.Rows L2
local macro_rules | `(tactic| walk_at "go1") => `(tactic| with_reducible first
  | refine g_seq ?_ | refine g_asg ?_ | refine g_name ?_ | refine g_c ?_ | refine g_op ?_ | refine g_cons ?_ | refine g_nil ?_ | refine g_cb ?_ | refine g_call ?_ | refine g_meth ?_
  | refine g_I0 ?_ | refine g_ret ?_ | refine g_retN ?_ | refine g_drop ?_ | refine g_if ?_ | refine g_test ?_ | refine g_tB ?_ | refine g_bool ?_
  | refine g_not ?_ | refine g_and ?_ | refine g_or ?_ | refine g_yes ?_ | refine g_tup ?_ | refine g_lst ?_ | refine g_slice ?_ | refine g_part ?_ | refine g_nopart ?_ | refine g_int ?_ | refine g_fld ?_ | refine g_dget ?_
  | refine g_din ?_ | refine g_dnotin ?_ | refine g_bm0 ?_ | refine g_bm ?_ | refine g_ifexp ?_ | refine g_andv ?_ | refine g_orv ?_ | refine g_notv ?_ | refine g_chain ?_ | refine g_U ?_ | refine g_next ?_ | refine g_brk ?_ | refine g_cont ?_
  | refine g_sfld ?_ | refine g_sdput ?_ | refine g_gtup ?_ | refine g_gcons ?_ | refine g_gnil ?_ | refine g_gsub ?_ | refine g_forT ?_ | refine g_forL ?_ | refine g_forR ?_ | refine g_lcT ?_ | refine g_lcL ?_ | refine g_lcR ?_ | refine g_un ?_ | refine g_sfa ?_ | refine g_ip ?_ | refine g_nin ?_ | refine g_nnot ?_ | refine g_nget ?_ | refine g_nput ?_ | refine g_ndisp ?_ | refine g_addI ?_ | refine g_subI ?_
  | (show Ends.nx _ _ _; refine g_nxm ?_) | (show Ends.rt _ _ _; refine g_rtm ?_) | (show Ends.bk _ _ _; refine g_bkm ?_) | (show Ends.ct _ _ _; refine g_ctm ?_))
local macro_rules | `(tactic| walk_at "go2") => `(tactic| first
  | ((with_reducible show tVar _ _ _ _); refine g_var rfl ?_)
  | ((with_reducible show rEq _ _ _ _); refine g_eq rfl ?_)
  | ((with_reducible show rNe _ _ _ _); refine g_ne rfl ?_)
  | ((with_reducible show tAug _ _ _ _ _ _); refine g_aug rfl ?_))
local macro_rules | `(tactic| walk_at "go") => `(tactic| repeat (first | walk_at "go1" | walk_at "go2"))
section
variable {P : Program} {w : World} {K : PySem.W.Frag} {mg : Str → Option Value} {base : Heap}
def spTruth : Sp := fun vs H Q _ => ∃ (d r a : Addr) (W : Wd) (f : F), vs = [.ref r, .ref a] ∧ LW H d r W ∧ FA H f a ∧ f.Closed ∧ f.ht ≤ 3 ∧ ∀ p H', H p = none → Same H H' → H' p = some (.lst (((List.range W.n).filter (W.val f ev0)).map nI)) → Q (.ref p) H'
-- slots of _law_truth: 0:_law_world_here 1:_law_statement_here
abbrev n_law_truth : List Str := ["_law_world_here", "_law_statement_here"]
theorem sc_law_truth : FnScope n_law_truth p_law_truth (defScope s_law_truth) := ⟨rfl, rfl, rfl, by decide +kernel, rfl, by decide +kernel, by decide +kernel⟩
theorem ok_law_truth (T : Top w K mg) : Ok P w K mg base 6 a_law_truth p_law_truth spTruth := by
  have G_law_value := ok_law_value (P := P) (base := base) T 4
  refine T.F_law_truth.ok sc_law_truth (fun vs H Q E h => ?_) (fun cdv A outer s H vs Q E hr h => ?_)
  · obtain ⟨_, _, _, _, _, rfl, _⟩ := h
    rfl
  · obtain ⟨d, r, a, W, f, rfl, hW, hf, hc, h3, k⟩ := h
    refine ⟨_, PSs.nox (pss_one (ps_ret (pe_call G_law_value (hr.mono (by omega)) rfl T.g_law_value T.F_law_value.kp T.b_law_value .nil pass0 (pa_cons (pv 0) (pa_cons (pv 1) (pa_cons pe_dnewK pa_nil)))))), ?_⟩
    walk_at "go"
    intro l hl
    have s1 := same_new (o := .dK []) hl
    walk_at "go"
    exact ⟨d, r, a, l, W, f, ev0, fun _ => False, 0, fun b => H b = none, rfl, hW.mono s1, hf.mono s1, ⟨[], upd_same, fun _ z => z.elim, Nat.le_refl _⟩, hc, by omega, by omega, fun b hb => s1.free hb, fun p H' s2 zp hp => k p H' zp (s1.trans s2) hp⟩
theorem dp_nats {H : Hp} : ∀ ms : List Nat, DpAll K H (ms.map nI) (ms.map fun (n : Nat) => PyData.int n)
  | [] => .nil
  | m :: ms => .cons (.int _) (dp_nats ms)
theorem nats_shaped (ms : List Nat) : SeqAt.shaped (.list (ms.map fun (n : Nat) => PyData.int n)) = true := by
  have h1 : PyData.canLayAll0 (ms.map fun (n : Nat) => PyData.int n) = true := by
    induction ms with
    | nil => simp [PyData.canLayAll0]
    | cons m ms ih => simp [PyData.canLayAll0, PyData.canLay0, ih]
  have h2 : PyData.depthAll (ms.map fun (n : Nat) => PyData.int n) ≤ 5 := by
    induction ms with
    | nil => simp [PyData.depthAll]
    | cons m ms ih =>
      have := ih (by simpa [PyData.canLayAll0, PyData.canLay0] using h1)
      simp [PyData.depthAll, PyData.depth]
      omega
  unfold SeqAt.shaped
  simp only [PyData.canLay0, PyData.depth, h1, Bool.true_and]
  refine decide_eq_true ?_
  omega
theorem eqv_nats (ms : List Nat) : PyData.eqv (.list (ms.map fun (n : Nat) => PyData.int n)) (.list (ms.map fun (n : Nat) => PyData.int n)) = true := by
  have h1 : PyData.eqvAll (ms.map fun (n : Nat) => PyData.int n) (ms.map fun (n : Nat) => PyData.int n) = true := by
    induction ms with
    | nil => simp [PyData.eqvAll]
    | cons m ms ih => simp [PyData.eqvAll, PyData.eqv, ih]
  simp only [PyData.eqv, h1]
def spIsL : Sp := fun vs H Q _ => ∃ (a b : Addr) (ms : List Nat), vs = [.ref a, .ref b] ∧ H a = some (.lst (ms.map nI)) ∧ H b = some (.lst (ms.map nI)) ∧ Q (.bl true) H
-- slots of _law_is_list: 0:_law_actual 1:_law_expected
abbrev n_law_is_list : List Str := ["_law_actual", "_law_expected"]
theorem sc_law_is_list : FnScope n_law_is_list p_law_is_list (defScope s_law_is_list) := ⟨rfl, rfl, rfl, by decide +kernel, rfl, by decide +kernel, by decide +kernel⟩
theorem ok_law_is_list (T : Top w K mg) : Ok P w K mg base 1 a_law_is_list p_law_is_list spIsL := by
  refine T.F_law_is_list.ok sc_law_is_list (fun vs H Q E h => ?_) (fun cdv A outer s H vs Q E hr h => ?_)
  · obtain ⟨_, _, _, rfl, _⟩ := h
    rfl
  · obtain ⟨a, b, ms, rfl, ha, hb, k⟩ := h
    have hu64 : (A.deeper (envOfC "_law_is_list" (defScope s_law_is_list) s.heap.objs.size (He.fAd K a_law_is_list) cdv)).units + 64 < cLine := hr.units
    refine ⟨_, PSs.nox (pss_one (ps_ret (pe_and (pe_callB (kc_isi K) (by rfl) T.z_isinstance bt_isinstance (pa_cons (pv 0) (pa_cons (pe_tyn (by rfl) T.z_list bt_list) pa_nil))) (pe_one (pe_cmpR (ko_eqD K hu64) (pv 0) (pv 1) (nomark _)))))), ?_⟩
    walk_at "go"
    refine ⟨_, _, _, _, true, rfl, .ty _, .base (.lst ha), kit_ty (by decide +kernel), ?_⟩
    walk_at "go"
    refine iteT ?_
    walk_at "go"
    refine ⟨_, _, .lst (SqL.of ha) (dp_nats ms), .lst (SqL.of hb) (dp_nats ms), nats_shaped ms, nats_shaped ms, ?_⟩
    rw [eqv_nats]
    exact k
theorem g_callS {σ : L2.St} {H : Hp} {Q : VK} {sp : Sp} {E : L2.St → XK} {as : TA} (q : as σ H fun vs H1 => sp vs H1 Q (E σ)) : tCallS sp E as σ H Q := q
def spOut (K : PySem.W.Frag) : Sp := fun vs H Q _ => ∃ (a : Addr) (f : F), vs = [.ref a] ∧ FA H f a ∧ f.Closed ∧ f.ht ≤ 3 ∧ (f.gd = false → ∀ H', Same H H' → Q (.str "guard") H') ∧
  (f.gd = true → ∀ b H' sts rows, Same H H' → Built 16 f sts rows → MAt K H' b (mcOf sts rows f.bs.length (kapp f)) → Q (.ref b) H')
-- slots of _law_outcome: 0:_law_statement_here
abbrev n_law_outcome : List Str := ["_law_statement_here"]
theorem sc_law_outcome : FnScope n_law_outcome p_law_outcome (defScope s_law_outcome) := ⟨rfl, rfl, rfl, by decide +kernel, rfl, by decide +kernel, by decide +kernel⟩
theorem ok_law_outcome (T : Top w K mg) : Ok P w K mg base 47 a_law_outcome p_law_outcome (spOut K) := by
  have G_machine_of := ok_machine_of (P := P) (base := base) T 16
  refine T.F_law_outcome.ok sc_law_outcome (fun vs H Q E h => ?_) (fun cdv A outer s H vs Q E hr h => ?_)
  · obtain ⟨_, _, rfl, _⟩ := h
    rfl
  · obtain ⟨a, f, rfl, hf, hc, h3, kn, ky⟩ := h
    refine ⟨_, pss_one (ps_try_many rfl rfl takes_none5 (fun W pn xe tk _ => pss_one (ps_ret (pe_callS G_machine_of (hr.mono (by omega)) rfl T.g_machine_of T.F_machine_of.kp T.b_machine_of (fun σ => passAt tk σ) (pa_cons (pv 0) pa_nil)))) (.cons ⟨rfl, by decide, .inl T.g_NotGuarded⟩ (fun a oe cls d pn _ _ => pss_one (ps_ret pe_str)) (.cons ⟨rfl, by decide, .inl T.g_TooLarge⟩ (fun a oe cls d pn _ _ => pss_one (ps_ret pe_str)) .nil))), ?_⟩
    refine g_callS ?_
    walk_at "go"
    refine ⟨a, f, rfl, hf, hc, h3, fun hg H' s1 => ?_, fun hg => ⟨f.bs.length, kapp f, (math_ok hc h3 hg).1, fun b H' sts rows s1 B M => ?_⟩⟩
    · exact ⟨true, T.e_NotGuarded_NotGuarded, fun _ a ha => kn hg H' s1, fun q => nomatch q⟩
    · exact ky hg b H' sts rows s1 B M
end
end K22

set_option Elab.async false
set_option linter.all false
set_option maxRecDepth 100000
set_option maxHeartbeats 1000000
namespace K22
open PySem PySem.Spec PyProof.Rows L2
local macro_rules | `(tactic| walk_at "go1") => `(tactic| with_reducible first
  | refine g_seq ?_ | refine g_asg ?_ | refine g_name ?_ | refine g_c ?_ | refine g_op ?_ | refine g_cons ?_ | refine g_nil ?_ | refine g_cb ?_ | refine g_call ?_ | refine g_meth ?_
  | refine g_I0 ?_ | refine g_ret ?_ | refine g_retN ?_ | refine g_drop ?_ | refine g_if ?_ | refine g_test ?_ | refine g_tB ?_ | refine g_bool ?_
  | refine g_not ?_ | refine g_and ?_ | refine g_or ?_ | refine g_yes ?_ | refine g_tup ?_ | refine g_lst ?_ | refine g_slice ?_ | refine g_part ?_ | refine g_nopart ?_ | refine g_int ?_ | refine g_fld ?_ | refine g_dget ?_
  | refine g_din ?_ | refine g_dnotin ?_ | refine g_bm0 ?_ | refine g_bm ?_ | refine g_ifexp ?_ | refine g_andv ?_ | refine g_orv ?_ | refine g_notv ?_ | refine g_chain ?_ | refine g_U ?_ | refine g_next ?_ | refine g_brk ?_ | refine g_cont ?_
  | refine g_sfld ?_ | refine g_sdput ?_ | refine g_gtup ?_ | refine g_gcons ?_ | refine g_gnil ?_ | refine g_gsub ?_ | refine g_forT ?_ | refine g_forL ?_ | refine g_forR ?_ | refine g_lcT ?_ | refine g_lcL ?_ | refine g_lcR ?_ | refine g_un ?_ | refine g_sfa ?_ | refine g_ip ?_ | refine g_nin ?_ | refine g_nnot ?_ | refine g_nget ?_ | refine g_nput ?_ | refine g_ndisp ?_ | refine g_addI ?_ | refine g_subI ?_
  | (show Ends.nx _ _ _; refine g_nxm ?_) | (show Ends.rt _ _ _; refine g_rtm ?_) | (show Ends.bk _ _ _; refine g_bkm ?_) | (show Ends.ct _ _ _; refine g_ctm ?_))
local macro_rules | `(tactic| walk_at "go2") => `(tactic| first
  | ((with_reducible show tVar _ _ _ _); refine g_var rfl ?_)
  | ((with_reducible show rEq _ _ _ _); refine g_eq rfl ?_)
  | ((with_reducible show rNe _ _ _ _); refine g_ne rfl ?_)
  | ((with_reducible show tAug _ _ _ _ _ _); refine g_aug rfl ?_))
local macro_rules | `(tactic| walk_at "go") => `(tactic| repeat (first | walk_at "go1" | walk_at "go2"))
section
variable {P : Program} {w : World} {K : PySem.W.Frag} {mg : Str → Option Value} {base : Heap}
/-! ### what stands while the law runs -/
theorem mcOf_pr {N nb : Nat} {κ : Int → Bool} {f : F} {sts : List St2} {rows : List F} (m : MathOk N f nb κ) (B : Built N f sts rows) : ∀ p ∈ (mcOf sts rows nb κ).pr, p < 15 := fun p hp => by
  obtain ⟨st, hst, rfl⟩ := List.mem_map.mp hp
  have hle := m.bnd.le
  rcases (B.un st hst).2 with hz | ⟨b, g, hz⟩
  · unfold prio
    rw [if_pos (by omega)]
    omega
  · have hb := m.bnd.of b _ g hz
    have e := prio_val (κ := κ) hb.2.1 hb.2.2
    have : (if κ st.2 then (0 : Int) else 1) ≥ 0 := by split <;> decide
    omega
theorem SameN.tl {ws : List Addr} {H H' : Hp} (s : SameN ws H H') (h : ∀ b ∈ ws, ∃ ys, H b = some (.lst ys)) : SameT H H' := fun b xs e => s b _ (fun hb => by
  obtain ⟨ys, q⟩ := h b hb
  rw [q] at e
  cases e) e
theorem SameN.of_x {d : Addr} {ws : List Addr} {H H' : Hp} (s : SameX d H H') (h : d ∈ ws) : SameN ws H H' := fun b u n e => s b u (fun z => n (z ▸ h)) e
abbrev I4 : Type := Addr × Addr × Mc × (Nat → Bool)
/-- a machine that was made, the list of the states that it is to accept -/
structure MI (K : PySem.W.Frag) (H : Hp) (ws : List Addr) (Wm : Wd) (t : I4) : Prop where
  mt : MAt K H t.1 t.2.2.1
  is : Is Wm t.2.2.1 t.2.2.2
  gd : H t.2.1 = some (.lst (((List.range Wm.n).filter t.2.2.2).map nI))
  off : t.2.1 ∉ ws
  ht : ∀ r ∈ t.2.2.1.rows, r.ht ≤ 3
  ln : t.2.2.1.rows.length ≤ 120
  pr : ∀ p ∈ t.2.2.1.pr, p < 15
theorem MI.mono {H H' : Hp} {ws : List Addr} {Wm : Wd} {t : I4} (h : MI K H ws Wm t) (s : SameN ws H H') (hl : ∀ b ∈ ws, ∃ ys, H b = some (.lst ys)) : MI K H' ws Wm t := by
  obtain ⟨dx, fs, e⟩ := h.mt.some
  have n : t.1 ∉ ws := fun z => by
    obtain ⟨ys, q⟩ := hl _ z
    rw [e] at q
    cases q
  exact ⟨h.mt.monoS (s.tl hl) (by rw [e, s _ _ n e]), h.is, s _ _ h.off h.gd, h.off, h.ht, h.ln, h.pr⟩
structure LWs (H : Hp) (ws : List Addr) (r : Addr) (W : Wd) : Prop where
  ok : W.Ok
  asc : ∀ fs ∈ W.fc, Asc fs
  at_ : ∃ ls lt as bs, H r = some (.tup [.ref ls, .ref lt]) ∧ H ls = some (.lst (as.map V.ref)) ∧ Paired (FcL H) W.fc as ∧ H lt = some (.lst (bs.map V.ref)) ∧ Paired (StA H) W.sp bs ∧ ls ∉ ws ∧ lt ∉ ws ∧ ∀ a ∈ as, a ∉ ws
theorem LWs.lw {H : Hp} {ws : List Addr} {d r : Addr} {W : Wd} (h : LWs H ws r W) (hd : d ∈ ws) : LW H d r W := by
  obtain ⟨ok, asc, ls, lt, as, bs, h1, h2, h3, h4, h5, n1, n2, n3⟩ := h
  exact ⟨ok, asc, ls, lt, as, bs, h1, h2, h3, h4, h5, fun e => n1 (e ▸ hd), fun e => n2 (e ▸ hd), fun a ha e => n3 a ha (e ▸ hd)⟩
theorem LWs.mono {H H' : Hp} {ws : List Addr} {r : Addr} {W : Wd} (h : LWs H ws r W) (s : SameN ws H H') (hl : ∀ b ∈ ws, ∃ ys, H b = some (.lst ys)) : LWs H' ws r W := by
  obtain ⟨ok, asc, ls, lt, as, bs, h1, h2, h3, h4, h5, n1, n2, n3⟩ := h
  have t := s.tl hl
  exact ⟨ok, asc, ls, lt, as, bs, t _ _ h1, s _ _ n1 h2, Pd.map_mem h3 fun _ a ha q => s _ _ (n3 a ha) q, s _ _ n2 h4, Paired.mapP h5 fun _ _ q => t _ _ q, n1, n2, n3⟩
theorem LWs.of {H : Hp} {d lm lg r : Addr} {W : Wd} (h : LW H d r W) (hm : H lm = none) (hg : H lg = none) : LWs H [d, lm, lg] r W := by
  obtain ⟨ok, asc, ls, lt, as, bs, h1, h2, h3, h4, h5, n1, n2, n3⟩ := h
  have off : ∀ {a : Addr} {o : HO}, H a = some o → a ≠ d → a ∉ [d, lm, lg] := fun {a o} e n z => by
    simp at z
    rcases z with z | z | z
    · exact n z
    · rw [z, hm] at e
      cases e
    · rw [z, hg] at e
      cases e
  refine ⟨ok, asc, ls, lt, as, bs, h1, h2, h3, h4, h5, off h2 n1, off h4 n2, fun a ha => ?_⟩
  obtain ⟨fs, q⟩ := Pd.right h3 ha
  exact off q (n3 a ha)
structure LSt (K : PySem.W.Frag) (H : Hp) (d lm lg r x : Addr) (W Wm : Wd) (its : List I4) (ds : List Int) : Prop where
  dr : DrA H d ds
  hm : H lm = some (.lst (its.map fun t => V.ref t.1))
  hg : H lg = some (.lst (its.map fun t => V.ref t.2.1))
  lw : LWs H [d, lm, lg] r W
  wa : WAt K H x Wm
  mi : ∀ t ∈ its, MI K H [d, lm, lg] Wm t
theorem LSt.ls {H : Hp} {d lm lg r x : Addr} {W Wm : Wd} {its : List I4} {ds : List Int} (S : LSt K H d lm lg r x W Wm its ds) : ∀ b ∈ [d, lm, lg], ∃ ys, H b = some (.lst ys) := fun b hb => by
  simp at hb
  rcases hb with rfl | rfl | rfl
  · exact ⟨_, S.dr.at_⟩
  · exact ⟨_, S.hm⟩
  · exact ⟨_, S.hg⟩
theorem LSt.step {H H' : Hp} {d lm lg r x : Addr} {W Wm : Wd} {its its' : List I4} {ds ds' : List Int} (S : LSt K H d lm lg r x W Wm its ds) (s : SameN [d, lm, lg] H H') (dr : DrA H' d ds') (hm : H' lm = some (.lst (its'.map fun t => V.ref t.1))) (hg : H' lg = some (.lst (its'.map fun t => V.ref t.2.1)))
    (hi : ∀ t ∈ its', t ∈ its ∨ MI K H' [d, lm, lg] Wm t) : LSt K H' d lm lg r x W Wm its' ds' := by
  refine ⟨dr, hm, hg, S.lw.mono s S.ls, ?_, fun t ht => (hi t ht).elim (fun h => (S.mi t h).mono s S.ls) id⟩
  obtain ⟨dx, fs, e⟩ := S.wa.some
  have n : x ∉ [d, lm, lg] := fun z => by
    obtain ⟨ys, q⟩ := S.ls _ z
    rw [e] at q
    cases q
  exact S.wa.monoS (s.tl S.ls) (by rw [e, s _ _ n e])
theorem LSt.same {H H' : Hp} {d lm lg r x : Addr} {W Wm : Wd} {its : List I4} {ds : List Int} (S : LSt K H d lm lg r x W Wm its ds) (s : Same H H') : LSt K H' d lm lg r x W Wm its ds :=
  S.step (SameN.of s) ⟨s _ _ S.dr.at_, S.dr.bd, S.dr.len⟩ (s _ _ S.hm) (s _ _ S.hg) fun _ h => .inl h
theorem LSt.draw {H H' : Hp} {d lm lg r x : Addr} {W Wm : Wd} {its : List I4} {ds ds' : List Int} (S : LSt K H d lm lg r x W Wm its ds) (s : SameX d H H') (h : DrA H' d ds') (n1 : lm ≠ d) (n2 : lg ≠ d) : LSt K H' d lm lg r x W Wm its ds' :=
  S.step (SameN.of_x s (by simp)) h (s _ _ n1 S.hm) (s _ _ n2 S.hg) fun _ h => .inl h
theorem g_neN {q E : Addr} {ms : List Nat} {H : Hp} {Q : VK} (h1 : H q = some (.lst (ms.map nI))) (h2 : H E = some (.lst (ms.map nI))) (k : Q (.bl false) H) : rNeD K (.ref q) (.ref E) H Q := by
  refine ⟨_, _, .lst (SqL.of h1) (dp_nats ms), .lst (SqL.of h2) (dp_nats ms), nats_shaped ms, nats_shaped ms, ?_⟩
  rw [eqv_nats]
  exact k
theorem g_eqN {q E : Addr} {ms : List Nat} {H : Hp} {Q : VK} (h1 : H q = some (.lst (ms.map nI))) (h2 : H E = some (.lst (ms.map nI))) (k : Q (.bl true) H) : rEqD K (.ref q) (.ref E) H Q := by
  refine ⟨_, _, .lst (SqL.of h1) (dp_nats ms), .lst (SqL.of h2) (dp_nats ms), nats_shaped ms, nats_shaped ms, ?_⟩
  rw [eqv_nats]
  exact k
def spLaw (K : PySem.W.Frag) : Sp := fun vs H Q _ => ∃ (a : Addr) (xs : List Int), vs = [.ref a] ∧ SqL K H a (xs.map V.int) ∧ xs.length ≤ 63 ∧ ∀ H', Q (.bl true) H'
-- slots of law: 0:_law_script 1:_law_draws_here 2:_law_world_here 3:_law_made_here 4:_law_machines 5:_law_goods* 6:_law_k 7:_law_statement_here 8:_law_found 9:_law_good 10:_law_row 11:_law_states 12:_law_state 13:_law_both 14:_law_one
abbrev n_law : List Str := ["_law_script", "_law_draws_here", "_law_world_here", "_law_made_here", "_law_machines", "_law_goods", "_law_k", "_law_statement_here", "_law_found", "_law_good", "_law_row", "_law_states", "_law_state", "_law_both", "_law_one"]
theorem sc_law : FnScope n_law p_law (defScope s_law) := ⟨rfl, rfl, rfl, by decide +kernel, rfl, by decide +kernel, by decide +kernel⟩
theorem ok_law (T : Top w K mg) : Ok P w K mg base 48 a_law p_law (spLaw K) := by
  have G_law_draws := ok_law_draws (P := P) (base := base) T
  have G_law_world := ok_law_world (P := P) (base := base) T
  have G_law_made := ok_law_made (P := P) (base := base) T
  have G_law_guarded := ok_law_guarded (P := P) (base := base) T
  have G_law_closed := ok_law_closed (P := P) (base := base) T
  have G_law_take := ok_law_take (P := P) (base := base) T
  have G_law_outcome := ok_law_outcome (P := P) (base := base) T
  have G_law_is_guarded := ok_law_is_guarded (P := P) (base := base) T 4
  have G_law_closure := ok_law_closure (P := P) (base := base) T
  have G_law_truth := ok_law_truth (P := P) (base := base) T
  have G_accepted := ok_accepted (P := P) (base := base) T
  have G_law_is_list := ok_law_is_list (P := P) (base := base) T
  have G_law_size := ok_law_size (P := P) (base := base) T 4
  have G_other_machine := ok_other_machine (P := P) (base := base) T
  have G_joined_machine := ok_joined_machine (P := P) (base := base) T
  refine T.F_law.ok sc_law (fun vs H Q E h => ?_) (fun cdv A outer s H vs Q E hr h => ?_)
  · obtain ⟨_, _, rfl, _⟩ := h
    rfl
  · obtain ⟨a, xs, rfl, hxs, h63, k⟩ := h
    have hu64 : (A.deeper (envOfC "law" (defScope s_law) s.heap.objs.size (He.fAd K a_law) cdv)).units + 64 < cLine := hr.units
    refine ⟨_, PSs.nox (pss_cons (ps_set (i := 1) sc_law.nd rfl (Or.inl rfl) (pe_call G_law_draws (hr.mono (by omega)) rfl T.g_law_draws T.F_law_draws.kp T.b_law_draws .nil pass0 (pa_cons (pv 0) (pa_cons pe_int pa_nil))))
    (pss_cons (ps_set (i := 2) sc_law.nd rfl (Or.inl rfl) (pe_call G_law_world (hr.mono (by omega)) rfl T.g_law_world T.F_law_world.kp T.b_law_world .nil pass0 (pa_cons (pv 1) (pa_cons pe_int (pa_cons pe_int pa_nil)))))
    (pss_cons (ps_set (i := 3) sc_law.nd rfl (Or.inl rfl) (pe_call G_law_made (hr.mono (by omega)) rfl T.g_law_made T.F_law_made.kp T.b_law_made .nil pass0 (pa_cons (pv 2) (pa_cons pe_int (pa_cons pe_int pa_nil)))))
    (pss_cons (ps_set (i := 4) sc_law.nd rfl (Or.inl rfl) (pe_lst pa_nil))
    (pss_cons (ps_set (i := 5) sc_law.nd rfl (Or.inr rfl) (pe_lst pa_nil))
    (pss_cons (ps_for PassesOwn.never rfl (pi_range1 (by rfl) T.z_range (pa_cons pe_int pa_nil)) (pg_name (i := 6) sc_law.nd rfl (Or.inl rfl)) (pss_cons (ps_set (i := 7) sc_law.nd rfl (Or.inl rfl) (pe_call G_law_guarded (hr.mono (by omega)) rfl T.g_law_guarded T.F_law_guarded.kp T.b_law_guarded .nil pass0 (pa_cons (pv 1) (pa_cons pe_int pa_nil))))
      (pss_cons (ps_if (pt_cmpR op_eq (pe_call G_law_take (hr.mono (by omega)) rfl T.g_law_take T.F_law_take.kp T.b_law_take .nil pass0 (pa_cons (pv 1) (pa_cons pe_int pa_nil))) pe_int (nomark _)) (pss_one (ps_set (i := 7) sc_law.nd rfl (Or.inl rfl) (pe_call G_law_closed (hr.mono (by omega)) rfl T.g_law_closed T.F_law_closed.kp T.b_law_closed .nil pass0 (pa_cons (pv 1) (pa_cons pe_int pa_nil))))) pss_nil)
      (pss_cons (ps_set (i := 8) sc_law.nd rfl (Or.inl rfl) (pe_call G_law_outcome (hr.mono (by omega)) rfl T.g_law_outcome T.F_law_outcome.kp T.b_law_outcome .nil pass0 (pa_cons (pv 7) pa_nil)))
      (pss_cons (ps_if (pt_not (pt_val (pe_call G_law_is_guarded (hr.mono (by omega)) rfl T.g_law_is_guarded T.F_law_is_guarded.kp T.b_law_is_guarded .nil pass0 (pa_cons (pv 7) pa_nil)))) (pss_one (ps_ret (pe_cmpR op_eq (pv 8) pe_str (nomark _)))) pss_nil)
      (pss_cons (ps_if (pt_cmpR op_gt (pe_callB (kc_len K) (by rfl) T.z_len bt_len (pa_cons (pe_call G_law_closure (hr.mono (by omega)) rfl T.g_law_closure T.F_law_closure.kp T.b_law_closure .nil pass0 (pa_cons (pv 7) pa_nil)) pa_nil)) pe_int (nomark _)) (pss_one (ps_ret (pe_cmpR op_eq (pv 8) pe_str (nomark _)))) pss_nil)
      (pss_cons (ps_set (i := 9) sc_law.nd rfl (Or.inl rfl) (pe_call G_law_truth (hr.mono (by omega)) rfl T.g_law_truth T.F_law_truth.kp T.b_law_truth .nil pass0 (pa_cons (pv 2) (pa_cons (pv 7) pa_nil))))
      (pss_cons (ps_if (PW.pt (pw_or (pt_not (pt_val (pe_callB (kc_isi K) (by rfl) T.z_isinstance bt_isinstance (pa_cons (pv 8) (pa_cons (pe_gref (by rfl) T.g_Machine) pa_nil))))) (pw_or1 (pt_not (pt_val (pe_call G_law_is_list (hr.mono (by omega)) rfl T.g_law_is_list T.F_law_is_list.kp T.b_law_is_list .nil pass0 (pa_cons (pe_call G_accepted (hr.mono (by omega)) rfl T.g_accepted T.F_accepted.kp T.b_accepted .nil pass0 (pa_cons (pv 8) (pa_cons (pv 3) pa_nil))) (pa_cons (pv 9) pa_nil)))))))) (pss_one (ps_ret pe_bl)) pss_nil)
      (pss_cons (ps_if (pt_cmpR op_gt (pe_callB (kc_max K) (by rfl) T.z_max bt_max (pa_cons (pe_lc (own := [("_law_row", 10)]) (g := gName 10) (tt := tYes) rfl sc_law.nd (kpi_tup K (kpe_fld K (pv 8))) (blkOk_by (N := n_law) (sc := (defScope s_law)) (by decide +kernel)) (fun _ _ _ _ _ => (pg_name (i := 10) sc_law.nd rfl (Or.inl rfl))) (fun _ _ _ _ _ => pts_nil) (fun _ _ _ _ _ => (pe_call G_law_size (hr.mono (by omega)) rfl T.g_law_size T.F_law_size.kp T.b_law_size .nil pass0 (pa_cons (pv 10) pa_nil)))) pa_nil)) (pe_op op_mul pe_int (pe_call G_law_size (hr.mono (by omega)) rfl T.g_law_size T.F_law_size.kp T.b_law_size .nil pass0 (pa_cons (pv 7) pa_nil))) (nomark _)) (pss_one (ps_ret pe_bl)) pss_nil)
      (pss_cons (ps_expr (kpe_app K (pv 4) (pv 8)))
      (pss_one (ps_expr (kpe_app K (pv 5) (pv 9))))))))))))))
    (pss_cons (ps_set (i := 11) sc_law.nd rfl (Or.inl rfl) (pe_listRg rfl (by rfl) T.z_list (prg_1 (by rfl) T.z_range (pe_callB (kc_len K) (by rfl) T.z_len bt_len (pa_cons (pe_ix (ki_tup K) (pv 2) pe_int (fun _ _ => rfl)) pa_nil)))))
    (pss_cons (ps_if (pt_cmpR (ko_neD K hu64) (pe_call G_accepted (hr.mono (by omega)) rfl T.g_accepted T.F_accepted.kp T.b_accepted .nil pass0 (pa_cons (pe_call G_other_machine (hr.mono (by omega)) rfl T.g_other_machine T.F_other_machine.kp T.b_other_machine .nil pass0 (pa_cons (pe_ix (ki_list K) (pv 4) pe_int (fun _ _ => rfl)) pa_nil)) (pa_cons (pv 3) pa_nil))) (pe_lc (own := [("_law_state", 12)]) (g := gName 12) rfl sc_law.nd (kpi_list K (pv 11)) (blkOk_by (N := n_law) (sc := (defScope s_law)) (by decide +kernel)) (fun _ _ _ _ _ => (pg_name (i := 12) sc_law.nd rfl (Or.inl rfl))) (fun _ _ _ _ _ => (pts_one (pt_cmpR (ko_notIn K) (pv 12) (pe_ix (ki_list K) (pv 5) pe_int (fun _ _ => rfl)) (by rfl)))) (fun _ _ _ _ _ => (pv 12))) (nomark _)) (pss_one (ps_ret pe_bl)) pss_nil)
    (pss_cons (ps_set (i := 13) sc_law.nd rfl (Or.inl rfl) (pe_call G_joined_machine (hr.mono (by omega)) rfl T.g_joined_machine T.F_joined_machine.kp T.b_joined_machine .nil pass0 (pa_cons pe_str (pa_cons (pe_ix (ki_list K) (pv 4) pe_int (fun _ _ => rfl)) (pa_cons (pe_ix (ki_list K) (pv 4) pe_int (fun _ _ => rfl)) pa_nil)))))
    (pss_cons (ps_if (pt_cmpR (ko_neD K hu64) (pe_call G_accepted (hr.mono (by omega)) rfl T.g_accepted T.F_accepted.kp T.b_accepted .nil pass0 (pa_cons (pv 13) (pa_cons (pv 3) pa_nil))) (pe_lc (own := [("_law_state", 12)]) (g := gName 12) rfl sc_law.nd (kpi_list K (pv 11)) (blkOk_by (N := n_law) (sc := (defScope s_law)) (by decide +kernel)) (fun _ _ _ _ _ => (pg_name (i := 12) sc_law.nd rfl (Or.inl rfl))) (fun _ _ _ _ _ => (pts_one (PW.pt (pw_and (pt_cmpR (ko_in K) (pv 12) (pe_ix (ki_list K) (pv 5) pe_int (fun _ _ => rfl)) (by rfl)) (pw_and1 (pt_cmpR (ko_in K) (pv 12) (pe_ix (ki_list K) (pv 5) pe_int (fun _ _ => rfl)) (by rfl))))))) (fun _ _ _ _ _ => (pv 12))) (nomark _)) (pss_one (ps_ret pe_bl)) pss_nil)
    (pss_cons (ps_set (i := 14) sc_law.nd rfl (Or.inl rfl) (pe_call G_joined_machine (hr.mono (by omega)) rfl T.g_joined_machine T.F_joined_machine.kp T.b_joined_machine .nil pass0 (pa_cons pe_str (pa_cons (pe_ix (ki_list K) (pv 4) pe_int (fun _ _ => rfl)) (pa_cons (pe_ix (ki_list K) (pv 4) pe_int (fun _ _ => rfl)) pa_nil)))))
    (pss_one (ps_ret (pe_cmpR (ko_eqD K hu64) (pe_call G_accepted (hr.mono (by omega)) rfl T.g_accepted T.F_accepted.kp T.b_accepted .nil pass0 (pa_cons (pv 14) (pa_cons (pv 3) pa_nil))) (pe_lc (own := [("_law_state", 12)]) (g := gName 12) rfl sc_law.nd (kpi_list K (pv 11)) (blkOk_by (N := n_law) (sc := (defScope s_law)) (by decide +kernel)) (fun _ _ _ _ _ => (pg_name (i := 12) sc_law.nd rfl (Or.inl rfl))) (fun _ _ _ _ _ => (pts_one (PW.pt (pw_or (pt_cmpR (ko_in K) (pv 12) (pe_ix (ki_list K) (pv 5) pe_int (fun _ _ => rfl)) (by rfl)) (pw_or1 (pt_cmpR (ko_in K) (pv 12) (pe_ix (ki_list K) (pv 5) pe_int (fun _ _ => rfl)) (by rfl))))))) (fun _ _ _ _ _ => (pv 12))) (nomark _))))))))))))))), ?_⟩
    walk_at "go"
    refine ⟨a, xs, rfl, hxs, h63, fun d H1 ds zd s1 hd1 => ?_⟩
    walk_at "go"
    refine ⟨d, ds, rfl, hd1, fun r W H2 ds2 s2 hd2 hW2 => ?_⟩
    walk_at "go"
    refine ⟨d, r, W, rfl, hW2, fun x H3 Wm s3 en ef ep hx3 => ?_⟩
    have hd3 : DrA H3 d ds2 := ⟨s3 _ _ hd2.at_, hd2.bd, hd2.len⟩
    have hW3 := hW2.mono s3
    walk_at "go"
    refine g_newL 0 rfl (by decide) fun lm hlm => ?_
    have hd4 := hd3.new (o := .lst []) hlm
    have nlm : lm ≠ d := (ne_of_none hd3.at_ hlm).symm
    walk_at "go"
    refine g_newL 0 rfl (by decide) fun lg hlg => ?_
    have hd5 := hd4.new (o := .lst []) hlg
    have nlg : lg ≠ d := (ne_of_none hd4.at_ hlg).symm
    have nmg : lm ≠ lg := ne_of_none upd_same hlg
    have hlg3 : H3 lg = none := (same_new (o := .lst []) hlm).free hlg
    have s35 := (same_new (o := .lst []) hlm).new (o := .lst []) hlg
    have wl : LWs H3 [d, lm, lg] r W := LWs.of hW3 hlm hlg3
    have wl5 : LWs (upd (upd H3 lm (.lst [])) lg (.lst [])) [d, lm, lg] r W := by
      obtain ⟨ok, asc, ls, lt, as, bs, h1, h2, h3, h4, h5, h6⟩ := wl
      exact ⟨ok, asc, ls, lt, as, bs, s35 _ _ h1, s35 _ _ h2, Paired.mapP h3 fun _ _ q => s35 _ _ q, s35 _ _ h4, Paired.mapP h5 fun _ _ q => s35 _ _ q, h6⟩
    have S0 : LSt K (upd (upd H3 lm (.lst [])) lg (.lst [])) d lm lg r x W Wm [] ds2 := ⟨hd5, by rw [upd_ne nmg]; exact upd_same, upd_same, wl5, hx3.mono s35, fun _ h => nomatch h⟩
    generalize upd (upd H3 lm (.lst [])) lg (.lst []) = H5 at S0 ⊢
    have wmok := hx3.ok
    have hval : ∀ f ρ, Wm.val f ρ = W.val f ρ := val_perm en ef ep
    walk_at "go"
    refine g_rforR (n := 2) (by decide) (fun i σ' H' => ∃ (its : List I4) (ds' : List Int) (v6 v7 v8 v9 : Option V), σ' = [some (.ref a), some (.ref d), some (.ref r), some (.ref x), some (.ref lm), some (.ref lg), v6, v7, v8, v9, none, none, none, none, none] ∧ LSt K H' d lm lg r x W Wm its ds' ∧ its.length = i)
      ⟨[], ds2, none, none, none, none, rfl, S0, rfl⟩ ?_ ?_
    · rintro i σ' H' hi ⟨its, ds', v6, v7, v8, v9, rfl, S, hli⟩
      refine g_tail2 (fun σ' H1 => ∃ (p : Addr) (f : F) (ds1 : List Int), σ' = [some (.ref a), some (.ref d), some (.ref r), some (.ref x), some (.ref lm), some (.ref lg), some (.int (i : Nat)), some (.ref p), v8, v9, none, none, none, none, none] ∧ LSt K H1 d lm lg r x W Wm its ds1 ∧ FA H1 f p ∧ f.Closed ∧ f.ht ≤ 3) (fun U hU => ?_) (fun σ' H1 hP => ?_)
      · walk_at "go"
        refine ⟨d, ds', rfl, S.dr, fun p f H1 ds1 s1 hd1 hf h3 hc => ?_⟩
        have S1 := S.draw s1 hd1 nlm nlg
        walk_at "go"
        refine ⟨d, ds1, 4, rfl, hd1, by decide, fun q H2 ds2 s2 hd2 _ _ => ?_⟩
        have S2 := S1.draw s2 hd2 nlm nlg
        walk_at "go"
        rw [int_dec]
        refine iteB rfl (fun _ => ?_) (fun _ => ?_)
        · walk_at "go"
          refine ⟨d, ds2, rfl, hd2, fun p f H3 ds3 s3 hd3 hf h3 hc => ?_⟩
          walk_at "go"
          exact hU _ _ ⟨p, f, ds3, rfl, S2.draw s3 hd3 nlm nlg, hf, hc, h3⟩
        · walk_at "go"
          exact hU _ _ ⟨p, f, ds2, rfl, S2, hf.monoT (hd1.t s2), hc, h3⟩
      · obtain ⟨p, f, ds1, rfl, S1, hf, hc, h3⟩ := hP
        walk_at "go"
        refine ⟨p, f, rfl, hf, hc, h3, fun hg H2 s2 => ?_, fun hg b H2 sts rows s2 B M => ?_⟩
        · walk_at "go"
          refine ⟨p, f, rfl, hf.mono s2, by omega, by omega, fun H3 s3 => ?_⟩
          walk_at "go"
          rw [hg]
          refine iteT ?_
          walk_at "go"
          rw [decide_eq_true rfl]
          exact k H3
        · have S2 := S1.same s2
          have hf2 := hf.mono s2
          walk_at "go"
          refine ⟨p, f, rfl, hf2, by omega, by omega, fun H3 s3 => ?_⟩
          have S3 := S2.same s3
          have hf3 := hf2.mono s3
          have M3 := M.mono s3
          walk_at "go"
          rw [hg]
          refine iteF ?_
          walk_at "go"
          refine ⟨p, f, rfl, hf3, hc, h3, fun q as H4 s4 hq hq15 => ?_⟩
          have S4 := S3.same s4
          have hf4 := hf3.mono s4
          have M4 := M3.mono s4
          walk_at "go"
          refine g_len (.inl (SqL.of hq)) ?_
          walk_at "go"
          rw [List.length_map]
          refine iteF' (decide_eq_false (by omega)) ?_
          walk_at "go"
          refine ⟨d, r, p, W, f, rfl, S4.lw.lw (by simp), hf4, hc, h3, fun g H5 zg s5 hg5 => ?_⟩
          have S5 := S4.same s5
          have hf5 := hf4.mono s5
          have M5 := M4.mono s5
          have math := math_ok hc h3 hg
          have is : Is Wm (mcOf sts rows f.bs.length (kapp f)) (W.val f ev0) := by
            rw [← hval f ev0]
            exact Is.of wmok hc h3 hg B
          have hp15 := mcOf_pr math.1 B
          obtain ⟨dxm, fsm, em⟩ := M5.some
          obtain ⟨ty, kit⟩ := isi_machine T em T.c_Machine
          walk_at "go"
          refine ⟨_, _, _, _, true, rfl, .own _, ty, kit, ?_⟩
          walk_at "go"
          refine iteF ?_
          walk_at "go"
          refine ⟨b, x, Wm, _, rfl, M5, S5.wa, fun p hp => by have := hp15 p hp; omega, fun q2 H6 acc zq2 s6 hq2 acok => ?_⟩
          have S6 := S5.same s6
          have hg6 := s6 _ _ hg5
          have hacc : acc = (List.range Wm.n).filter (W.val f ev0) := Has.list acok fun s hs => is.has s hs
          rw [hacc, en] at hq2
          walk_at "go"
          refine ⟨q2, g, _, rfl, hq2, hg6, ?_⟩
          walk_at "go"
          refine iteF ?_
          have hf6 := hf5.mono s6
          have M6 := M5.mono s6
          obtain ⟨mok, dx6, ps6, pt6, as6, e1, e2, e3, e4⟩ := id M6
          have hal := Paired.length e3
          have hrh : ∀ r ∈ rows, r.ht ≤ 3 := (mcOf_ok math.1 B).2
          have r120 : rows.length ≤ 120 := by rw [B.len]; exact B.l120
          have r1 : 1 ≤ rows.length := mok.n1
          have hsz : ∀ r ∈ rows, r.size ≤ 15 := fun r hr => by
            have a1 := F.size_le r
            have a2 : 2 ^ (r.ht + 1) ≤ 2 ^ 4 := Nat.pow_le_pow_right (by decide) (by have := hrh r hr; omega)
            omega
          walk_at "go"
          refine g_rfld e1 T.c_Machine T.n_Machine_rows rfl ?_
          walk_at "go"
          refine g_rlcT (SqT.of e2) fun E hE => ⟨fun j H' => Same H6 H' ∧ H' E = some (.lst (((rows.take j).map fun g => ((g.size : Nat) : Int)).map V.int)), ⟨same_new hE, upd_same⟩, fun j H' _ ⟨s0, _⟩ => SqT.of (s0 _ _ e2), fun j y H' hy ⟨s0, hE0⟩ => ?_, fun H7 ⟨s7, hE7⟩ => ?_⟩
          · rw [List.getElem?_map] at hy
            obtain ⟨u, hu, rfl⟩ := Option.map_eq_some_iff.mp hy
            obtain ⟨g', hg', hgu⟩ := Pd.get e3 hu
            have hg' : rows[j]? = some g' := hg'
            have := hrh g' (List.mem_of_getElem? hg')
            refine g_turn rfl ?_
            walk_at "go"
            refine iteT ?_
            walk_at "go"
            refine ⟨u, g', rfl, hgu.mono s0, by omega, fun H8 s8 => ?_⟩
            walk_at "go"
            refine g_add (s8 _ _ hE0) (lt_line (by rw [List.length_map, List.length_map, List.length_take]; omega)) ⟨(s0.trans s8).mut hE, ?_⟩
            rw [upd_same, take_snoc hg', List.map_append, List.map_append]
            rfl
          · have hlr : rows.length = as6.length := hal
            rw [List.take_of_length_le (by rw [List.length_map, ← hlr]; exact Nat.le_refl _)] at hE7
            walk_at "go"
            refine ⟨E, _, rfl, SqL.of hE7, by rw [List.length_map]; exact r1, fun mx hmx _ => ?_⟩
            obtain ⟨g', hg', rfl⟩ := List.mem_map.mp hmx
            have h15 := hsz g' hg'
            have S7 := S6.same s7
            walk_at "go"
            refine ⟨p, f, rfl, hf6.mono s7, by omega, fun H8 s8 => ?_⟩
            have fpos := size_pos f
            have S8 := S7.same s8
            have M8 := (M6.mono s7).mono s8
            have hg8 := s8 _ _ (s7 _ _ hg6)
            walk_at "go"
            refine g_I (show CMul 20 ((f.size : Nat) : Int) from .inl (by decide)) ?_
            walk_at "go"
            refine iteF' (decide_eq_false (by omega)) ?_
            walk_at "go"
            refine g_tyL (SqL.of S8.hm) ?_
            walk_at "go"
            refine g_app S8.hm (lt_line (by rw [List.length_map]; omega)) ?_
            walk_at "go"
            have hg9 : upd H8 lm (.lst (its.map (fun t => V.ref t.1) ++ [V.ref b])) lg = some (.lst (its.map fun t => V.ref t.2.1)) := by rw [upd_ne nmg.symm]; exact S8.hg
            refine g_tyL (SqL.of hg9) ?_
            walk_at "go"
            refine g_app hg9 (lt_line (by rw [List.length_map]; omega)) ?_
            walk_at "go"
            have goff : g ∉ [d, lm, lg] := fun z => by
              obtain ⟨ys, q⟩ := S4.ls g z
              rw [zg] at q
              cases q
            have sN : SameN [d, lm, lg] H8 (upd (upd H8 lm (.lst (its.map (fun t => V.ref t.1) ++ [V.ref b]))) lg (.lst (its.map (fun t => V.ref t.2.1) ++ [V.ref g]))) := (SameN.put (by simp)).trans (SameN.put (by simp))
            have mi8 : MI K H8 [d, lm, lg] Wm (b, g, mcOf sts rows f.bs.length (kapp f), W.val f ev0) := ⟨M8, is, by rw [en]; exact hg8, goff, hrh, r120, hp15⟩
            refine ⟨its ++ [(b, g, mcOf sts rows f.bs.length (kapp f), W.val f ev0)], ds1, _, _, _, _, rfl, S8.step sN ⟨by rw [upd_ne nlg.symm, upd_ne nlm.symm]; exact S8.dr.at_, S8.dr.bd, S8.dr.len⟩ (by rw [upd_ne nmg, upd_same, List.map_append]; rfl) (by rw [upd_same, List.map_append]; rfl) fun t ht => ?_, by rw [List.length_append, hli]; rfl⟩
            rcases List.mem_append.mp ht with h | h
            · exact .inl h
            · rw [List.mem_singleton.mp h]
              exact .inr (mi8.mono sN S8.ls)
    · rintro σ' H' ⟨its, ds', v6, v7, v8, v9, rfl, S, hli⟩
      obtain ⟨t0, t1, rfl⟩ : ∃ t0 t1, its = [t0, t1] := by
        match its, hli with
        | [t0, t1], _ => exact ⟨t0, t1, rfl⟩
      obtain ⟨wok, asc, ls, lt, as, bs, h1, h2, h3, h4, h5, _⟩ := id S.lw
      have hal := Paired.length h3
      have fl := wok.fl
      have n4 := wok.n4
      have hrl : (List.range W.n).length ≤ 51200 := by rw [List.length_range]; omega
      walk_at "go"
      refine g_lstRg ?_
      walk_at "go"
      refine g_ixT (SqT.of h1) at0 ?_
      walk_at "go"
      refine g_len (.inl (SqL.of h2)) ?_
      rw [List.length_map, ← hal, fl]
      refine g_rLR (by omega) fun sl hsl => ?_
      have S := S.same (same_new (o := .lst ((List.range W.n).map nI)) hsl)
      have hl1 : upd H' sl (.lst ((List.range W.n).map nI)) sl = some (.lst ((List.range W.n).map nI)) := upd_same
      generalize upd H' sl (.lst ((List.range W.n).map nI)) = H1 at S hl1 ⊢
      -- the other machine
      have mi0 := S.mi t0 (by simp)
      walk_at "go"
      refine g_ixL (SqL.of S.hm) at0 ?_
      walk_at "go"
      refine ⟨t0.1, t0.2.2.1, rfl, mi0.mt, fun p hp => by have := mi0.pr p hp; omega, fun b H2 s2 M2 => ?_⟩
      have S2 := S.same s2
      have is2 := mi0.is.oth fun p hp => by have := mi0.pr p hp; omega
      walk_at "go"
      refine ⟨b, x, Wm, _, rfl, M2, S2.wa, fun p hp => ?_, fun q H3 acc zq s3 hq acok => ?_⟩
      · obtain ⟨p', hp', rfl⟩ := List.mem_map.mp hp
        have := mi0.pr p' hp'
        omega
      have S3 := S2.same s3
      have hacc : acc = (List.range Wm.n).filter fun s => !t0.2.2.2 s := Has.list acok fun s hs => is2.has s hs
      rw [hacc, en] at hq
      walk_at "go"
      refine g_filt (s3 _ _ (s2 _ _ hl1)) hrl (fun s => !t0.2.2.2 s) (fun _ => rfl) (fun _ => rfl) (fun y hy H' s0 Qb q' => ?_) fun E H4 zE s4 hE => ?_
      · have S0 := S3.same s0
        have mi := S0.mi t0 (by simp)
        have hgd := mi.gd
        rw [en] at hgd
        walk_at "go"
        refine g_ixL (SqL.of S0.hg) at0 ?_
        walk_at "go"
        refine g_notInL (SqL.of hgd) rfl (flat_nats _) ?_
        walk_at "go"
        rw [inV_nat, mem_rf (List.mem_range.mp hy)]
        exact q'
      refine g_neN (s4 _ _ hq) hE ?_
      walk_at "go"
      refine iteF ?_
      have S4 := S3.same s4
      have hl4 := s4 _ _ (s3 _ _ (s2 _ _ hl1))
      -- both
      have m0 := S4.mi t0 (by simp)
      have m1 := S4.mi t1 (by simp)
      walk_at "go"
      refine g_ixL (SqL.of S4.hm) at0 ?_
      walk_at "go"
      refine g_ixL (SqL.of S4.hm) at1 ?_
      walk_at "go"
      refine ⟨true, t0.1, t1.1, t0.2.2.1, t1.2.2.1, rfl, m0.mt, m1.mt, by have := m0.ln; have := m1.ln; omega, m0.ht, m1.ht, fun b5 H5 s5 M5 => ?_⟩
      have S5 := S4.same s5
      have is5 := Is.join wmok m0.is m1.is M5.ok
      walk_at "go"
      refine ⟨b5, x, Wm, _, rfl, M5, S5.wa, fun p hp => ?_, fun q6 H6 acc6 zq6 s6 hq6 acok6 => ?_⟩
      · rcases List.mem_cons.mp hp with rfl | hp
        · decide
        · rcases List.mem_append.mp hp with hp | hp
          · have := m0.pr p hp
            omega
          · have := m1.pr p hp
            omega
      have S6 := S5.same s6
      have hacc6 : acc6 = (List.range Wm.n).filter fun s => t0.2.2.2 s && t1.2.2.2 s := Has.list acok6 fun s hs => is5.has s hs
      rw [hacc6, en] at hq6
      walk_at "go"
      refine g_filt (s6 _ _ (s5 _ _ hl4)) hrl (fun s => t0.2.2.2 s && t1.2.2.2 s) (fun _ => rfl) (fun _ => rfl) (fun y hy H' s0 Qb q' => ?_) fun E7 H7 zE7 s7 hE7 => ?_
      · have S0 := S6.same s0
        have hgd0 := (S0.mi t0 (by simp)).gd
        have hgd1 := (S0.mi t1 (by simp)).gd
        rw [en] at hgd0 hgd1
        have hy := List.mem_range.mp hy
        walk_at "go"
        refine g_ixL (SqL.of S0.hg) at0 ?_
        walk_at "go"
        refine g_inL (SqL.of hgd0) rfl (flat_nats _) ?_
        walk_at "go"
        rw [inV_nat, mem_rf hy]
        revert q'
        cases t0.2.2.2 y with
        | true =>
          intro q'
          refine iteT ?_
          walk_at "go"
          refine g_ixL (SqL.of S0.hg) at1 ?_
          walk_at "go"
          refine g_inL (SqL.of hgd1) rfl (flat_nats _) ?_
          walk_at "go"
          rw [inV_nat, mem_rf hy]
          rw [Bool.true_and] at q'
          exact q'
        | false =>
          intro q'
          rw [Bool.false_and] at q'
          exact iteF q'
      refine g_neN (s7 _ _ hq6) hE7 ?_
      walk_at "go"
      refine iteF ?_
      have S7 := S6.same s7
      have hl7 := s7 _ _ (s6 _ _ (s5 _ _ hl4))
      -- one of both
      have m0 := S7.mi t0 (by simp)
      have m1 := S7.mi t1 (by simp)
      walk_at "go"
      refine g_ixL (SqL.of S7.hm) at0 ?_
      walk_at "go"
      refine g_ixL (SqL.of S7.hm) at1 ?_
      walk_at "go"
      refine ⟨false, t0.1, t1.1, t0.2.2.1, t1.2.2.1, rfl, m0.mt, m1.mt, by have := m0.ln; have := m1.ln; omega, m0.ht, m1.ht, fun b8 H8 s8 M8 => ?_⟩
      have S8 := S7.same s8
      have is8 := Is.join wmok m0.is m1.is M8.ok
      walk_at "go"
      refine ⟨b8, x, Wm, _, rfl, M8, S8.wa, fun p hp => ?_, fun q9 H9 acc9 zq9 s9 hq9 acok9 => ?_⟩
      · rcases List.mem_cons.mp hp with rfl | hp
        · decide
        · rcases List.mem_append.mp hp with hp | hp
          · have := m0.pr p hp
            omega
          · have := m1.pr p hp
            omega
      have S9 := S8.same s9
      have hacc9 : acc9 = (List.range Wm.n).filter fun s => t0.2.2.2 s || t1.2.2.2 s := Has.list acok9 fun s hs => is8.has s hs
      rw [hacc9, en] at hq9
      walk_at "go"
      refine g_filt (s9 _ _ (s8 _ _ hl7)) hrl (fun s => t0.2.2.2 s || t1.2.2.2 s) (fun _ => rfl) (fun _ => rfl) (fun y hy H' s0 Qb q' => ?_) fun EA HA zEA sA hEA => ?_
      · have S0 := S9.same s0
        have hgd0 := (S0.mi t0 (by simp)).gd
        have hgd1 := (S0.mi t1 (by simp)).gd
        rw [en] at hgd0 hgd1
        have hy := List.mem_range.mp hy
        walk_at "go"
        refine g_ixL (SqL.of S0.hg) at0 ?_
        walk_at "go"
        refine g_inL (SqL.of hgd0) rfl (flat_nats _) ?_
        walk_at "go"
        rw [inV_nat, mem_rf hy]
        revert q'
        cases t0.2.2.2 y with
        | true =>
          intro q'
          rw [Bool.true_or] at q'
          exact iteT q'
        | false =>
          intro q'
          refine iteF ?_
          walk_at "go"
          refine g_ixL (SqL.of S0.hg) at1 ?_
          walk_at "go"
          refine g_inL (SqL.of hgd1) rfl (flat_nats _) ?_
          walk_at "go"
          rw [inV_nat, mem_rf hy]
          rw [Bool.false_or] at q'
          exact q'
      refine g_eqN (sA _ _ hq9) hEA ?_
      walk_at "go"
      exact k HA
end
end K22

set_option Elab.async false
set_option linter.all false
set_option maxRecDepth 100000
set_option maxHeartbeats 0
namespace K22
open PySem PySem.Spec PyProof.Rows L2
theorem law_facts {P : Program} {w : World} {K : PySem.W.Frag} {h : Heap} {mg : Str → Option Value} {f : Addr} (X : K.In h) (G : h.Ns mainGlobals mg) (hfa : mg ("law" : Str) = some (.ref f)) (c : He.SaysX fa fn ts [] ex w h K) :
    ∃ fd : FuncData, (∀ (s : Shared) (v : Value), BindsTo s fd ⟨[v], []⟩ [("_law_script", v)]) ∧ ∀ base : Heap, K.In base → base.Ns mainGlobals mg → FnOk P w K mg base CX0 48 f fd ["_law_script"] (spLaw K) := by
  have T : Top w K mg := ⟨⟨h, X, G⟩, c.t, c.more⟩
  have e := hfa.symm.trans T.g_law
  cases e
  have b := FunD.bindsA (ps := ["_law_script"]) T.F_law fun _ _ _ _ _ _ us hl => match us, hl with | [_], _ => rfl
  exact ⟨_, fun s v => b s [v] rfl, fun base _ _ => ok_law T⟩
end K22
open PySem PySem.W PySem.Calls PyProof.Rows
theorem PySem.Challenge.cw_fixworlds_k22_whole_machines_of_statemen_holds : PySem.Challenge.rw_fixworlds_k22_whole_machines_of_statemen.Holds := by
  w_on; o_law
  refine HandSHeadRun.head_any (r := OpenLaw.row PySem.Challenge.rw_fixworlds_k22_whole_machines_of_statemen) (q := view (OpenLaw.row PySem.Challenge.rw_fixworlds_k22_whole_machines_of_statemen).prog [70]) (H := K22.hk) (ob := K22.ob) (M := 6000) (loose := K22.loose) (d := HandSHeadRun.topDef (OpenLaw.row PySem.Challenge.rw_fixworlds_k22_whole_machines_of_statemen).prog 70) (kwd := []) K22.ob_eq
    (by kernel_rfl) (fun s => by kernel_rfl) K22.run (by kernel_rfl) (by kernel_rfl) (by kernel_rfl) (by rfl) (by first | assumption | decide +kernel) (by decide +kernel) ⟨rfl, rfl, rfl, rfl, rfl, by decide +kernel⟩ ?hw ?hc
  case hw => w_witness2
  case hc =>
    refine L2.walk_ofE (l := PySem.Challenge.rw_fixworlds_k22_whole_machines_of_statemen) (n := 63) (k := 48) (x := "_law_script") (CX := L2.CX0) rfl (by decide) (by kernel_rfl) ⟨rfl, by decide, by decide⟩ ?F (fun _ _ _ _ z => z)
    intro w mg fa h Y G hmg0
    obtain ⟨K, KX, c⟩ := Y
    have hmg : mg ("law" : PySem.Str) = some (.ref fa) := by
      have e : (HandSHeadRun.topDef (OpenLaw.row PySem.Challenge.rw_fixworlds_k22_whole_machines_of_statemen).prog 70).name = ("law" : PySem.Str) := by kernel_rfl
      rw [← e]
      exact hmg0
    obtain ⟨fd, hb, hF⟩ := K22.law_facts (P := (PySem.Challenge.rw_fixworlds_k22_whole_machines_of_statemen).prog) (w := w) KX G hmg c
    exact ⟨K, fd, K22.spLaw K, KX, hb, fun H a ns hl _ hS => ⟨a, ns, rfl, hS, hl, fun _ => rfl⟩, hF⟩
