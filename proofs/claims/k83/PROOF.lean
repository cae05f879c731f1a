import PyProof.Rows.All
import Wide.All
import OpenK.AllK
import Wide.FinOn
import KE.KStateDown
import HandS.ForMost
import HandS.Exc
import HandS.ExcInit
import HandS.WordsExc
import HandS.Defaults
import HandS.Head0
import HandS.Head1
import HandS.Head2
import HandS.HeadEnd
import HandS.HeadHook1
import HandS.HeadHook2
import HandS.HeadHook3
import HandS.HeadHook4
import KE.GoesMore
import PyProof.Draws
import HandS.TupAny
import HandS.WideBits
import HandS.Deep
import KE.KExcIs
import HandS.ExcOwn
import HandS.ExcField
import HandS.ExcIs
import HandS.IsInst
import HandS.TryMany
import PyProof.InstEq
import HandS.OwnEq
import HandS.Evl
import HandS.Conv
import HandS.NoneIn
import HandS.TupSets
import HandS.Wide
import HandS.Steps
import KE.IntBitsLaws
import PySem.Challenge.RW_lastthrough_k83_whole_sessions_rebuilt
set_option Elab.async false
set_option linter.all false
set_option maxRecDepth 100000
set_option maxHeartbeats 4000000
namespace K83
open PySem PySem.Spec PyProof.Rows L2
/-! ### the text by places -/
def top (i : Nat) : Stmt := PySem.Challenge.pw_lastthrough_k83_whole_sessions_rebuilt.main.body.getD i (.Pass ⟨0, 0, 0, 0⟩)
abbrev S_mb_init : Stmt := inClass (top 9) 0
abbrev S_is_whole : Stmt := top 11
abbrev S_is_index : Stmt := top 12
abbrev S_is_door : Stmt := top 13
abbrev S_first_ring : Stmt := top 14
abbrev S_check_house : Stmt := top 15
abbrev S_require_house : Stmt := top 16
abbrev S_require_room : Stmt := top 17
abbrev S_t_init : Stmt := inClass (top 18) 0
abbrev S_t_door_between : Stmt := inClass (top 18) 3
abbrev S_state_fault : Stmt := top 20
abbrev S_require_state : Stmt := top 21
abbrev S_require_person : Stmt := top 22
abbrev S_is_move : Stmt := top 23
abbrev S_plan_fault : Stmt := top 24
abbrev S_require_plan : Stmt := top 25
abbrev S_s_init : Stmt := inClass (top 26) 0
abbrev S_s_can_go : Stmt := inClass (top 26) 1
abbrev S_s_go : Stmt := inClass (top 26) 2
abbrev S_s_state : Stmt := inClass (top 26) 3
abbrev S_s_block : Stmt := inClass (top 26) 4
abbrev S_play : Stmt := top 27
abbrev S_x_init : Stmt := inClass (top 29) 0
abbrev S_x_advance : Stmt := inClass (top 29) 1
abbrev S_x_go : Stmt := inClass (top 29) 2
abbrev S_x_play : Stmt := inClass (top 29) 3
abbrev S_x_undo : Stmt := inClass (top 29) 4
abbrev S_x_state : Stmt := inClass (top 29) 5
abbrev S_x_moves : Stmt := inClass (top 29) 6
abbrev S_x_len : Stmt := inClass (top 29) 8
abbrev S_x_eq : Stmt := inClass (top 29) 9
abbrev S_l_cell : Stmt := top 31
abbrev S_l_hash : Stmt := top 32
abbrev S_l_generator : Stmt := top 33
abbrev S_l_random : Stmt := top 34
abbrev S_l_shuffled : Stmt := top 35
abbrev S_l_random_house : Stmt := top 36
abbrev S_l_random_state : Stmt := top 37
abbrev S_l_neighbours : Stmt := top 38
abbrev S_l_moved : Stmt := top 39
abbrev S_l_steps : Stmt := top 40
abbrev S_l_random_steps : Stmt := top 41
abbrev S_l_every_step : Stmt := top 42
abbrev S_l_random_action : Stmt := top 43
abbrev S_l_apply_steps : Stmt := top 44
abbrev S_l_apply_action : Stmt := top 45
abbrev S_l_call_action : Stmt := top 46
abbrev S_l_matches : Stmt := top 47
abbrev S_l_rebuilt_right : Stmt := top 48
abbrev S_law : Stmt := top 49
def d_mb_init : He.DefD := ⟨("MoveBlocked", some "__init__"), "__init__", "MoveBlocked.__init__", defArgs S_mb_init, defBody S_mb_init, defScope S_mb_init, [.non, .non], []⟩
def d_is_whole : He.DefD := ⟨("is_whole", none), "is_whole", "is_whole", defArgs S_is_whole, defBody S_is_whole, defScope S_is_whole, [], []⟩
def d_is_index : He.DefD := ⟨("is_index", none), "is_index", "is_index", defArgs S_is_index, defBody S_is_index, defScope S_is_index, [], []⟩
def d_is_door : He.DefD := ⟨("is_door", none), "is_door", "is_door", defArgs S_is_door, defBody S_is_door, defScope S_is_door, [], []⟩
def d_first_ring : He.DefD := ⟨("first_ring", none), "first_ring", "first_ring", defArgs S_first_ring, defBody S_first_ring, defScope S_first_ring, [], []⟩
def d_check_house : He.DefD := ⟨("check_house", none), "check_house", "check_house", defArgs S_check_house, defBody S_check_house, defScope S_check_house, [], []⟩
def d_require_house : He.DefD := ⟨("require_house", none), "require_house", "require_house", defArgs S_require_house, defBody S_require_house, defScope S_require_house, [], []⟩
def d_require_room : He.DefD := ⟨("require_room", none), "require_room", "require_room", defArgs S_require_room, defBody S_require_room, defScope S_require_room, [], []⟩
def d_t_init : He.DefD := ⟨("Tree", some "__init__"), "__init__", "Tree.__init__", defArgs S_t_init, defBody S_t_init, defScope S_t_init, [], []⟩
def d_t_door_between : He.DefD := ⟨("Tree", some "door_between"), "door_between", "Tree.door_between", defArgs S_t_door_between, defBody S_t_door_between, defScope S_t_door_between, [], []⟩
def d_state_fault : He.DefD := ⟨("state_fault", none), "state_fault", "state_fault", defArgs S_state_fault, defBody S_state_fault, defScope S_state_fault, [], []⟩
def d_require_state : He.DefD := ⟨("require_state", none), "require_state", "require_state", defArgs S_require_state, defBody S_require_state, defScope S_require_state, [], []⟩
def d_require_person : He.DefD := ⟨("require_person", none), "require_person", "require_person", defArgs S_require_person, defBody S_require_person, defScope S_require_person, [], []⟩
def d_is_move : He.DefD := ⟨("is_move", none), "is_move", "is_move", defArgs S_is_move, defBody S_is_move, defScope S_is_move, [], []⟩
def d_plan_fault : He.DefD := ⟨("plan_fault", none), "plan_fault", "plan_fault", defArgs S_plan_fault, defBody S_plan_fault, defScope S_plan_fault, [], []⟩
def d_require_plan : He.DefD := ⟨("require_plan", none), "require_plan", "require_plan", defArgs S_require_plan, defBody S_require_plan, defScope S_require_plan, [], []⟩
def d_s_init : He.DefD := ⟨("Simulation", some "__init__"), "__init__", "Simulation.__init__", defArgs S_s_init, defBody S_s_init, defScope S_s_init, [], []⟩
def d_s_can_go : He.DefD := ⟨("Simulation", some "can_go"), "can_go", "Simulation.can_go", defArgs S_s_can_go, defBody S_s_can_go, defScope S_s_can_go, [], []⟩
def d_s_go : He.DefD := ⟨("Simulation", some "go"), "go", "Simulation.go", defArgs S_s_go, defBody S_s_go, defScope S_s_go, [], []⟩
def d_s_state : He.DefD := ⟨("Simulation", some "state"), "state", "Simulation.state", defArgs S_s_state, defBody S_s_state, defScope S_s_state, [], []⟩
def d_s_block : He.DefD := ⟨("Simulation", some "block"), "block", "Simulation.block", defArgs S_s_block, defBody S_s_block, defScope S_s_block, [], []⟩
def d_play : He.DefD := ⟨("play", none), "play", "play", defArgs S_play, defBody S_play, defScope S_play, [], []⟩
def d_x_init : He.DefD := ⟨("Session", some "__init__"), "__init__", "Session.__init__", defArgs S_x_init, defBody S_x_init, defScope S_x_init, [], []⟩
def d_x_advance : He.DefD := ⟨("Session", some "advance"), "advance", "Session.advance", defArgs S_x_advance, defBody S_x_advance, defScope S_x_advance, [], []⟩
def d_x_go : He.DefD := ⟨("Session", some "go"), "go", "Session.go", defArgs S_x_go, defBody S_x_go, defScope S_x_go, [], []⟩
def d_x_play : He.DefD := ⟨("Session", some "play"), "play", "Session.play", defArgs S_x_play, defBody S_x_play, defScope S_x_play, [], []⟩
def d_x_undo : He.DefD := ⟨("Session", some "undo"), "undo", "Session.undo", defArgs S_x_undo, defBody S_x_undo, defScope S_x_undo, [], []⟩
def d_x_state : He.DefD := ⟨("Session", some "state"), "state", "Session.state", defArgs S_x_state, defBody S_x_state, defScope S_x_state, [], []⟩
def d_x_moves : He.DefD := ⟨("Session", some "moves"), "moves", "Session.moves", defArgs S_x_moves, defBody S_x_moves, defScope S_x_moves, [], []⟩
def d_x_len : He.DefD := ⟨("Session", some "__len__"), "__len__", "Session.__len__", defArgs S_x_len, defBody S_x_len, defScope S_x_len, [], []⟩
def d_x_eq : He.DefD := ⟨("Session", some "__eq__"), "__eq__", "Session.__eq__", defArgs S_x_eq, defBody S_x_eq, defScope S_x_eq, [], []⟩
def d_l_cell : He.DefD := ⟨("_law_cell", none), "_law_cell", "_law_cell", defArgs S_l_cell, defBody S_l_cell, defScope S_l_cell, [], []⟩
def d_l_hash : He.DefD := ⟨("_law_hash", none), "_law_hash", "_law_hash", defArgs S_l_hash, defBody S_l_hash, defScope S_l_hash, [], []⟩
def d_l_generator : He.DefD := ⟨("_law_generator", none), "_law_generator", "_law_generator", defArgs S_l_generator, defBody S_l_generator, defScope S_l_generator, [], []⟩
def d_l_random : He.DefD := ⟨("_law_random", none), "_law_random", "_law_random", defArgs S_l_random, defBody S_l_random, defScope S_l_random, [], []⟩
def d_l_shuffled : He.DefD := ⟨("_law_shuffled", none), "_law_shuffled", "_law_shuffled", defArgs S_l_shuffled, defBody S_l_shuffled, defScope S_l_shuffled, [], []⟩
def d_l_random_house : He.DefD := ⟨("_law_random_house", none), "_law_random_house", "_law_random_house", defArgs S_l_random_house, defBody S_l_random_house, defScope S_l_random_house, [], []⟩
def d_l_random_state : He.DefD := ⟨("_law_random_state", none), "_law_random_state", "_law_random_state", defArgs S_l_random_state, defBody S_l_random_state, defScope S_l_random_state, [], []⟩
def d_l_neighbours : He.DefD := ⟨("_law_neighbours", none), "_law_neighbours", "_law_neighbours", defArgs S_l_neighbours, defBody S_l_neighbours, defScope S_l_neighbours, [], []⟩
def d_l_moved : He.DefD := ⟨("_law_moved", none), "_law_moved", "_law_moved", defArgs S_l_moved, defBody S_l_moved, defScope S_l_moved, [], []⟩
def d_l_steps : He.DefD := ⟨("_law_steps", none), "_law_steps", "_law_steps", defArgs S_l_steps, defBody S_l_steps, defScope S_l_steps, [], []⟩
def d_l_random_steps : He.DefD := ⟨("_law_random_steps", none), "_law_random_steps", "_law_random_steps", defArgs S_l_random_steps, defBody S_l_random_steps, defScope S_l_random_steps, [], []⟩
def d_l_every_step : He.DefD := ⟨("_law_every_step", none), "_law_every_step", "_law_every_step", defArgs S_l_every_step, defBody S_l_every_step, defScope S_l_every_step, [], []⟩
def d_l_random_action : He.DefD := ⟨("_law_random_action", none), "_law_random_action", "_law_random_action", defArgs S_l_random_action, defBody S_l_random_action, defScope S_l_random_action, [], []⟩
def d_l_apply_steps : He.DefD := ⟨("_law_apply_steps", none), "_law_apply_steps", "_law_apply_steps", defArgs S_l_apply_steps, defBody S_l_apply_steps, defScope S_l_apply_steps, [], []⟩
def d_l_apply_action : He.DefD := ⟨("_law_apply_action", none), "_law_apply_action", "_law_apply_action", defArgs S_l_apply_action, defBody S_l_apply_action, defScope S_l_apply_action, [], []⟩
def d_l_call_action : He.DefD := ⟨("_law_call_action", none), "_law_call_action", "_law_call_action", defArgs S_l_call_action, defBody S_l_call_action, defScope S_l_call_action, [], []⟩
def d_l_matches : He.DefD := ⟨("_law_matches", none), "_law_matches", "_law_matches", defArgs S_l_matches, defBody S_l_matches, defScope S_l_matches, [], []⟩
def d_l_rebuilt_right : He.DefD := ⟨("_law_rebuilt_right", none), "_law_rebuilt_right", "_law_rebuilt_right", defArgs S_l_rebuilt_right, defBody S_l_rebuilt_right, defScope S_l_rebuilt_right, [], []⟩
def d_law : He.DefD := ⟨("law", none), "law", "law", defArgs S_law, defBody S_law, defScope S_law, [], []⟩
def fn : List He.DefD := ([d_mb_init, d_is_whole, d_is_index, d_is_door, d_first_ring, d_check_house, d_require_house, d_require_room, d_t_init, d_t_door_between, d_state_fault, d_require_state, d_require_person, d_is_move, d_plan_fault, d_require_plan, d_s_init, d_s_can_go, d_s_go, d_s_state, d_s_block, d_play, d_x_init, d_x_advance, d_x_go, d_x_play, d_x_undo, d_x_state, d_x_moves, d_x_len] : List He.DefD) ++ ([d_x_eq, d_l_cell, d_l_hash, d_l_generator, d_l_random, d_l_shuffled, d_l_random_house, d_l_random_state, d_l_neighbours, d_l_moved, d_l_steps, d_l_random_steps, d_l_every_step, d_l_random_action, d_l_apply_steps, d_l_apply_action, d_l_call_action, d_l_matches, d_l_rebuilt_right, d_law] : List He.DefD)
def fa : List He.Fa := ([.glo "is_whole", .glo "is_index", .glo "is_door", .glo "first_ring", .glo "check_house", .glo "require_house", .glo "require_room", .glo "state_fault", .glo "require_state", .glo "require_person", .glo "is_move", .glo "plan_fault", .glo "require_plan", .glo "play", .glo "_law_cell", .glo "_law_hash", .glo "_law_generator", .glo "_law_random", .glo "_law_shuffled", .glo "_law_random_house", .glo "_law_random_state", .glo "_law_neighbours", .glo "_law_moved", .glo "_law_steps", .glo "_law_random_steps", .glo "_law_every_step", .glo "_law_random_action", .glo "_law_apply_steps", .glo "_law_apply_action", .glo "_law_call_action"] : List He.Fa) ++ ([.glo "_law_matches", .glo "_law_rebuilt_right", .glo "law", .glo "Tree", .glo "Simulation", .glo "Session", .glo "MoveBlocked", .glo "NothingToUndo", .glo "LastThroughError", .free "isinstance", .free "len", .free "enumerate", .free "list", .free "range", .free "all", .free "tuple", .free "max", .free "int", .free "sorted", .free "bool", .free "ValueError", .cls "Tree", .mkr "Tree", .noat "Tree" "doors", .noat "Tree" "size", .noat "Tree" "around", .meth "Tree" "__init__", .meth "Tree" "door_between", .cls "Simulation", .mkr "Simulation"] : List He.Fa) ++ ([.noat "Simulation" "tree", .noat "Simulation" "rooms", .noat "Simulation" "barred", .noat "Simulation" "done", .meth "Simulation" "__init__", .meth "Simulation" "can_go", .meth "Simulation" "go", .meth "Simulation" "state", .meth "Simulation" "block", .cls "Session", .mkr "Session", .noat "Session" "house", .noat "Session" "tree", .noat "Session" "current", .noat "Session" "history", .meth "Session" "__init__", .meth "Session" "advance", .meth "Session" "go", .meth "Session" "play", .meth "Session" "undo", .meth "Session" "state", .meth "Session" "moves", .meth "Session" "__len__", .meth "Session" "__eq__", .noat "MoveBlocked" "index", .noat "MoveBlocked" "reason", .exc "NothingToUndo", .exm "MoveBlocked" "MoveBlocked" true, .exm "MoveBlocked" "NothingToUndo" false, .exm "NothingToUndo" "MoveBlocked" false] : List He.Fa) ++ ([.exm "NothingToUndo" "NothingToUndo" true] : List He.Fa)
def loose : List Str := (["_wall", "LastThroughError", "NothingToUndo", "InvalidHouse", "InvalidState", "InvalidPlan", "InvalidPerson", "InvalidRoom", "MoveBlocked", "is_whole", "is_index", "is_door", "first_ring", "check_house", "require_house", "require_room", "Tree", "state_fault", "require_state", "require_person", "is_move", "plan_fault", "require_plan", "Simulation", "play", "Session", "_law_cell", "_law_hash", "_law_generator", "_law_random"] : List Str) ++ (["_law_shuffled", "_law_random_house", "_law_random_state", "_law_neighbours", "_law_moved", "_law_steps", "_law_random_steps", "_law_every_step", "_law_random_action", "_law_apply_steps", "_law_apply_action", "_law_call_action", "_law_matches", "_law_rebuilt_right"] : List Str)
/-! ### more facts of the written part -/
/-- an exception class of the text over ValueError, with an __init__ of its own or not -/
def oexB (K : PySem.W.Frag) (C : Addr) : Bool := match K.lookup C with
  | some ⟨.type "type", _, .cls cd, sl⟩ => (match cd.mro, sl.toList with
    | .ref C' :: bm, [_, _, _, _, some (.builtin n), _] => C' == C && n == "ValueError.__new__" && !cd.hasDel && cd.hasDict && PySem.HandSPX.refsVE bm
    | _, _ => false)
  | _ => false
theorem oexB_ok {K : PySem.W.Frag} {C : Addr} (q : oexB K C = true) :
    ∃ nm q N bs bm sn sub ab col dd k0 k1 k2 k3 k5, K.lookup C = some (excClassObj nm q C N bs bm true sn sub ab col dd k0 k1 k2 k3 k5 "ValueError.__new__") ∧ PySem.HandSPX.refsVE bm = true := by
  unfold oexB at q
  split at q
  · rename_i dd cd sl ho
    split at q
    · rename_i C' bm k0 k1 k2 k3 n k5 hm hs
      simp only [Bool.and_eq_true, beq_iff_eq, Bool.not_eq_true'] at q
      obtain ⟨⟨⟨⟨rfl, rfl⟩, hdel⟩, hdc⟩, hr⟩ := q
      obtain ⟨nm, bs, mro, ns, qn, hd, sn, sub, ab, col, del⟩ := cd
      dsimp only at hm hdel hdc
      subst hm hdel hdc
      have hsl : sl = #[k0, k1, k2, k3, some (.builtin "ValueError.__new__"), k5] := by
        obtain ⟨l⟩ := sl
        simp only at hs
        rw [hs]
      subst hsl
      exact ⟨nm, qn, ns, bs, bm, sn, sub, ab, col, dd, k0, k1, k2, k3, k5, ho, hr⟩
    · cases q
  · cases q
def cfB (c : Option PySem.W.CFound) (n : String) : Bool := match c with
  | some (.val (.builtin m)) => m == n
  | _ => false
theorem cfB_ok {c : Option PySem.W.CFound} {n : String} (h : cfB c n = true) : c = some (.val (.builtin n)) := by
  unfold cfB at h
  split at h
  · rw [beq_iff_eq.mp h]
  · cases h
def exOne (K : PySem.W.Frag) (x : Str) : Bool :=
  oexB K (He.ga K x) && (He.eqO (PySem.W.findIn K (.ref (He.ga K x)) "__setattr__") (some (some (.builtin "object.__setattr__"))) &&
  (decide (PySem.W.subIn K (.ref (He.ga K x)) (.type "BaseException") = some true) && (decide (PySem.W.typeIn K (.ref (He.ga K x)) = some (.type "type")) && (PySem.W.keepIn K (.ref (He.ga K x)) &&
  (He.eqO (PySem.W.findIn K (.ref (He.ga K x)) "__getattribute__") (some (some (.builtin "BaseException.__getattribute__"))) && (He.eqO (PySem.W.findIn K (.ref (He.ga K x)) "__getattr__") (some none) &&
  (PySem.W.hasDictIn K (He.ga K x) && (He.eqO (PySem.W.findIn K (.ref (He.ga K x)) "__class__") (some (some (.builtin "object.__class__"))) &&
  decide (PySem.W.mroIn K (He.ga K x) (.type "object") = some true)))))))))
def exAll (K : PySem.W.Frag) : Bool :=
  exOne K "MoveBlocked" && (exOne K "NothingToUndo" && (exOne K "LastThroughError" &&
  (He.eqO (PySem.W.findIn K (.ref (He.ga K "MoveBlocked")) "__init__") (some (some (.ref (He.ma K (He.ga K "MoveBlocked") "__init__")))) &&
  (decide (PySem.W.typeIn K (.ref (He.ma K (He.ga K "MoveBlocked") "__init__")) = some (.type "function")) &&
  (decide (PySem.W.specialIn K (.builtin "object.__class__") "__get__" = some (some (.builtin "getset_descriptor.__get__"))) && (decide (PySem.W.takesIn K (.builtin "object.__class__") = some true) &&
  (cfB (PySem.W.findCls K (.ref (He.ga K "LastThroughError")) (.type "type") "__init__") "ValueError.__init__" &&
  (PySem.W.readsIn K (He.ga K "LastThroughError") (.type "type") && (decide (PySem.W.specialIn K (.ref (He.ga K "LastThroughError")) "__getattribute__" = some (some (.builtin "type.__getattribute__"))) &&
  (He.eqO (PySem.W.findIn K (.ref (He.ga K "Session")) "__ne__") (some (some (.builtin "object.__ne__"))) &&
  (decide (PySem.W.mroIn K (He.ga K "Session") (.type "object") = some true) && (He.eqO (PySem.W.findIn K (.ref (He.ga K "Session")) "__class__") (some (some (.builtin "object.__class__"))) &&
  (decide (PySem.W.subIn K (.ref (He.ga K "Session")) (.ref (He.ga K "Session")) = some true) &&
  (decide (PySem.W.kitOne K (.ref (He.ga K "Session")) (.ref (He.ga K "Session")) = some true) &&
  (decide (PySem.W.kitOne K (.ref (He.ga K "MoveBlocked")) (.ref (He.ga K "MoveBlocked")) = some true) && (decide (PySem.W.kitOne K (.ref (He.ga K "MoveBlocked")) (.ref (He.ga K "NothingToUndo")) = some false) &&
  (decide (PySem.W.kitOne K (.ref (He.ga K "NothingToUndo")) (.ref (He.ga K "NothingToUndo")) = some true) &&
  (decide (PySem.W.kitOne K (.type "NoneType") (.ref (He.ga K "NothingToUndo")) = some false) && decide (PySem.W.kitOne K (.type "NoneType") (.ref (He.ga K "MoveBlocked")) = some false)))))))))))))))))))
/-! ### the Hook: what the module's names reach, and the statics -/
abbrev AlY : Type := He.AlD × Bool
def obsY (fa : List He.Fa) (fn : List He.DefD) (K : PySem.W.Frag) : AlY := (He.obsD fa fn K, exAll K)
def kY (n : Nat) (g : Addr → Option Obj) : PySem.W.Frag := He.frT g (He.asD g n ++ [cStatics])
structure SaysY (fa : List He.Fa) (fn : List He.DefD) (K : PySem.W.Frag) : Prop where
  d : He.SaysD fa fn K
  x : exAll K = true
def hookY (n : Nat) (fa : List He.Fa) (fn : List He.DefD) : PySem.W.Hook where
  α := AlY
  obs := fun s => obsY fa fn (kY n s.heap.get?)
  val := fun _ => (He.valD fn, true)
  says := fun _ h => ∃ K : PySem.W.Frag, K.In h ∧ SaysY fa fn K
  of := fun _ _ e => ⟨_, He.frT_in, congrArg (fun z : AlY => z.1) e, congrArg (fun z : AlY => z.2) e⟩
  keeps := fun _ _ _ ⟨K, hK, c⟩ k => ⟨K, PySem.W.Frag.In.keeps hK k, c⟩
theorem obsY_eq {n : Nat} {fa : List He.Fa} {fn : List He.DefD} {g : Addr → Option Obj} {s : Shared} (h : ∀ a, g a = s.heap.get? a) : obsY fa fn (kY n g) = (hookY n fa fn).obs s := by
  have e : g = s.heap.get? := funext h
  rw [e] <;> rfl
abbrev R : PySem.W.OpenRow := PySem.W.OpenLaw.row PySem.Challenge.rw_lastthrough_k83_whole_sessions_rebuilt
abbrev hk : PySem.W.Hook := hookY 5 fa fn
def ob (s : PySem.W.SharedT) : AlY := obsY fa fn (kY 5 (HandSHeadRun.getT s))
theorem ob_eq (s : PySem.W.SharedT) : ob s = hk.obs s.abs := obsY_eq (HandSHeadRun.getT_eq s)
theorem run (w : World) : HandSHeadRun.RunEq R (PySem.W.view R.prog [49]) hk ob 8000 loose w := by
  intro os
  kernel_rfl
end K83
/-! rules that the layer lacks: enumerate over a tuple, tuple slices with a step, powers -/
namespace K83
open PySem PySem.Spec PyProof.Rows L2
/-! ### enumerate(tuple) -/
section
theorem meets_enumerate_newT (l : Addr) (items : Array Value) (n : Nat) (dct : Option Addr) (sl : Array (Option Value)) :
    Meets (Builtin.«enumerate.__new__» ⟨[.type "enumerate", .ref l], []⟩) (fun _ R s => s.heap.get? l = some { cls := .type "tuple", dict := dct, data := .seq items n, slots := sl } ∧
      R (.ok (.ret (.ref (s.heap.push { cls := .type "tuple_iterator", data := .fields #[.ref l, .int 0 0] }).objs.size)))
        { s with heap := (s.heap.push { cls := .type "tuple_iterator", data := .fields #[.ref l, .int 0 0] }).push { cls := .type "enumerate", data := .fields #[.none, .bool false, .ref s.heap.objs.size, rawInt 0, .none, .none] } }) :=
  .of_wp fun prog w A R s h => by
    obtain ⟨hp, g, d, tk, os⟩ := s; obtain ⟨hl, h⟩ := h
    have hsub := sub_enumerate
    have hL : Heap.IsTuple (Shared.heap ⟨hp, g, d, tk, os⟩) l items := ⟨_, hl, rfl, n, rfl⟩
    wp_walk using AutoSeq1.wpAny_loadPart' hl
    refine wpAny_stack_any fun st => wpAny_pure ?_
    split
    · rename_i c _ _ _ _ _
      cases (c == Value.type "enumerate")
      · wp_walk using AutoSeq1.wpAny_loadPart' hl, wpAny_pyIter_tuple hL
        exact ⟨_, rfl, h⟩
      · wp_walk using AutoSeq1.wpAny_loadPart' hl, wpAny_pyIter_tuple hL
        exact ⟨_, rfl, h⟩
    · wp_walk using AutoSeq1.wpAny_loadPart' hl, wpAny_pyIter_tuple hL
      exact ⟨_, rfl, h⟩
variable {prog : Program} {w : World} {A : Around} {E : Value → Shared → Prop} {s : Shared}
theorem call_enumerate_tuple {l : Addr} {items : Array Value} {Q : Value → Shared → Prop} (hL : s.heap.IsTuple l items)
    (h : ∀ h', IsEnum h' (s.heap.objs.size + 1) s.heap.objs.size 0 .none → h'.IsTupleIter s.heap.objs.size l 0 → h'.objs.size = s.heap.objs.size + 2 →
      (∀ b o, s.heap.get? b = some o → h'.get? b = some o) → Q (.ref (s.heap.objs.size + 1)) { s with heap := h' }) :
    wpAny (model prog w) A (call (.type "enumerate") [.ref l]) Q E s := by
  obtain ⟨⟨c, dct, dt, sl⟩, hl, hc, n, hd⟩ := hL
  replace hc : c = .type "tuple" := hc
  replace hd : dt = .seq items n := hd
  subst hc hd
  refine callType_new F.called_enumerate (by decide) (F.typeCall_enumerate_1 _) (F.newCall_enumerate_1 _) (fun obj => F.args_object_init_2 obj _) F.entry_enumerate_new
    (meets_enumerate_newT l items n dct sl) ⟨hl, ?_⟩
  have hz : (s.heap.push { cls := .type "tuple_iterator", data := .fields #[.ref l, .int 0 0] }).objs.size = s.heap.objs.size + 1 := Heap.size_push ..
  show _ ∧ _
  rw [hz]
  have he : IsEnum ((s.heap.push { cls := .type "tuple_iterator", data := .fields #[.ref l, .int 0 0] }).push
      { cls := .type "enumerate", data := .fields #[.none, .bool false, .ref s.heap.objs.size, rawInt 0, .none, .none] }) (s.heap.objs.size + 1) s.heap.objs.size 0 .none := by
    have := Heap.get?_push_size (s.heap.push { cls := .type "tuple_iterator", data := .fields #[.ref l, .int 0 0] })
      (o := { cls := .type "enumerate", data := .fields #[.none, .bool false, .ref s.heap.objs.size, rawInt 0, .none, .none] }) rfl
    rw [hz] at this; exact this
  refine ⟨⟨_, he, rfl⟩, h _ he ⟨_, Heap.get?_push_of_some _ (Heap.get?_push_size _ rfl), rfl, rfl⟩ (by rw [Heap.size_push, hz]) fun b o x => Heap.get?_push_of_some _ (Heap.get?_push_of_some _ x)⟩
end
theorem pyNext_enum_endT {prog : Program} {w : World} {A : Around} {E : Value → Shared → Prop} {s : Shared} {e it l : Addr} {i : Nat} {items : Array Value} {old : Value} {Q : Option Value → Shared → Prop} (hh : A.handled = none)
    (he : IsEnum s.heap e it i old) (hit : s.heap.IsTupleIter it l i) (hl : s.heap.IsTuple l items) (hx : items[i]? = none)
    (hQ : ∀ h', Heap.ExtBut it s.heap h' → Q none { s with heap := h' }) : wpAny (model prog w) A (pyNext (.ref e)) Q E s := by
  have hT : s.TypeIs (.ref e) "enumerate" := ⟨_, he, rfl⟩
  unfold pyNext
  refine wpAny_bind (wpAny_attempt (wpAny_callSpecial?_slot (name := Str.ofString "__next__") hT F.slot_enumerate_next
    (wpAny_call_entry F.slot_enumerate_next hT F.entry_enumerate_next ?_ (F.args_enumerate_next_1 _))))
  show wpAny _ _ (field (.ref e) 2 >>= _) _ _ _
  refine wpAny_bind (wpAny_field he rfl (x := .ref it) rfl ?_)
  refine wpAny_bind (wpAny_nextOf_tuple_end hh hit hl hx fun h' x he' hx' => ?_)
  obtain ⟨o, ho, hc⟩ := hx'
  refine wpAny_bind (wpAny_isInstance (T := "StopIteration") (b := true) ⟨o, ho, hc⟩ isSubtype_stop ?_)
  exact wpAny_pure (hQ _ he')
/-- the tuple at a, each item in a new pair -/
def Itet (K : PySem.W.Frag) (a : Addr) : It :=
  ⟨fun i H => ∃ (xs : List V) (x : V), SqT K H a xs ∧ xs[i]? = some x, fun i H v H' => ∃ T x, v = .ref T ∧ H T = none ∧ H' = upd H T (.tup [.int (i : Nat), x]) ∧ ∀ xs, SqT K H a xs → xs[i]? = some x, fun i H => ∃ xs : List V, SqT K H a xs ∧ xs.length ≤ i⟩
theorem ti_ne {h : Heap} {it a : Addr} {i : Nat} {its : Array Value} (x : h.IsTupleIter it a i) (y : IsTup h a its) : a ≠ it := fun z => by
  obtain ⟨o, ho, hc, _⟩ := x
  obtain ⟨o2, ho2, hc2, _⟩ := y
  rw [z, ho] at ho2
  cases ho2
  rw [hc] at hc2
  exact absurd hc2 (by decide)
theorem en_ne {h : Heap} {e it a : Addr} {i : Int} {old : Value} {its : Array Value} (x : IsEnum h e it i old) (y : IsTup h a its) : a ≠ e := fun z => by
  obtain ⟨o2, ho2, hc2, _⟩ := y
  rw [z, show h.get? e = _ from x] at ho2
  cases ho2
  exact absurd (show Value.type "enumerate" = Value.type "tuple" from hc2) (by decide)
theorem turn_enumT {P : Program} {w : World} {K : PySem.W.Frag} {elts : List Expr} {kk : Nat} {tpos : Pos} (a e it : Addr) :
    Turn P w K (.Tuple elts kk tpos) (Itet K a) [e, it] e (fun i h => (∃ old, IsEnum h e it ((i : Nat) : Int) old) ∧ h.IsTupleIter it a i ∧ e ≠ it) where
  mem := by simp
  obj := fun i h st b hb => by
    obtain ⟨⟨old, he⟩, ⟨o, ho, hc, hd⟩, _⟩ := st
    have e' : b = e ∨ b = it := by simpa using hb
    rcases e' with z | z
    · rw [z]; exact ⟨_, he, fun v q => nomatch q⟩
    · rw [z]; exact ⟨o, ho, fun v q => by rw [hd] at q; cases q⟩
  keep := fun i h h' st k => let ⟨⟨old, he⟩, hi, hne⟩ := st; ⟨⟨old, k e (by simp) _ he⟩, hi.at fun o q => k it (by simp) o q, hne⟩
  item := by
    intro X hP hw hK hc i pins s σ H E I hf st hg
    subst hP hw hK
    obtain ⟨⟨old, he⟩, hit, hne⟩ := st
    obtain ⟨xs, x, hq, hx⟩ := hg
    obtain ⟨its, rv, p, hz⟩ := I.tuple hq
    obtain ⟨u, hu, ru⟩ := rv.get hx
    have hel : e < s.heap.objs.size := Heap.lt_size he
    have hil : it < s.heap.objs.size := by obtain ⟨_, q, _⟩ := hit; exact Heap.lt_size q
    have hai : a ≠ it := ti_ne hit p
    have hae : a ≠ e := en_ne he p
    have hlt : i < its.toArray.size := by
      have q := (List.getElem?_eq_some_iff.mp hu).1
      simpa using q
    refine wpAny_pyNext_enum_itemD (Draws.tuple (A := X.A.in1) (I.ok.hd hc) it a hai its.toArray) he ⟨hit, p⟩ hlt hne (by simp [hne, hae.symm]) fun u' h' tk hP ho hit' hT hsz hk => ?_
    have eu : u' = u := by
      have q : its.toArray[i]? = some u := by simpa using hu
      rw [hP] at q
      exact Option.some.inj q
    subst eu
    refine ⟨_, rfl, wpAny_letOwnedTupleGo_enum (s := { s with heap := h', toks := tk + 1 }) ho fun h'' he' sb => ?_⟩
    have hT2 : h''.get? s.heap.objs.size = some { cls := .type "tuple", data := .seq #[.int i tk, u'] } := (sb.2 _ (Nat.ne_of_gt hel)).trans hT
    have new : ObjOk X.prog X.w (upd H s.heap.objs.size (.tup [.int (i : Nat), x])) h'' s.heap.objs.size (.tup [.int (i : Nat), x]) :=
      ⟨by show 2 ≤ sizeLine; decide, [.int i tk, u'], .cons ⟨_, rfl⟩ (.cons ru .nil), ⟨_, hT2, rfl, _, rfl⟩⟩
    have I1 : Inv X pins σ (upd H s.heap.objs.size (.tup [.int (i : Nat), x])) { s with heap := h'', toks := tk + 1 } :=
      I.turnedNew (ch := [e, it]) (fun b ob hb q => (sb.2 b (fun z => hb (by simp [z]))).trans (hk b ob (fun z => hb (by simp [z])) (fun z => hb (by simp [z])) q)) hf (Nat.le_refl _) new
    refine ⟨.ref s.heap.objs.size, _, I1, rfl, ⟨_, x, rfl, I.hok.fresh (Nat.le_refl _), rfl, fun ys hy => by rw [I.tuple_inj hy hq]; exact hx⟩, ⟨⟨u', ?_⟩, hit'.1.at fun o q => (sb.2 it (Ne.symm hne)).trans q, hne⟩, fun b hb => ?_⟩
    · have e1 : ((i + 1 : Nat) : Int) = (i : Int) + 1 := by omega
      rw [e1]; exact he'
    · have hb' : b < s.heap.objs.size := by
        have e' : b = e ∨ b = it := by simpa using hb
        rcases e' with z | z
        · rw [z]; exact hel
        · rw [z]; exact hil
      rw [upd_ne (Nat.ne_of_lt hb')]
      exact (hf b hb).1
  done := by
    intro X hP hw hK hc i pins s σ H E I hf st hg
    subst hP hw hK
    obtain ⟨⟨old, he⟩, hit, hne⟩ := st
    obtain ⟨xs, hq, hx⟩ := hg
    obtain ⟨its, rv, p, hz⟩ := I.tuple hq
    obtain ⟨f0, f1, f2, f3, f4, f5⟩ := hf it (by simp)
    have hl := rv.length
    exact pyNext_enum_endT (I.ok.hd hc) he hit p (by simp; omega) fun h' eb => ⟨rfl, I.turned (t' := s.toks) (fun b o hb q => eb b o hb q) f0 f1 f3 f4 f5⟩
  self := fun A i s Q E st h => let ⟨⟨_, he⟩, _⟩ := st; wpAny_pyIter_enum he h
def iEnumT (K : PySem.W.Frag) (ta : TA) : TI := fun σ H R => ta σ H fun vs H1 => ∃ a xs, vs = [.ref a] ∧ SqT K H1 a xs ∧ R (Itet K a) H1
theorem pi_enumT {X : Cx} {e : Expr} {ta : TA} {p pos tpos : Pos} {elts : List Expr} {kk : Nat} (hg : Gl X "enumerate") (hm : X.mg "enumerate" = none) (ha : PA X [e] ta) (hs : starEach [e] X.env = [(false, eval e X.env)] := by rfl) :
    PI X (.Tuple elts kk tpos) (.Call (.Name "enumerate" p) [e] [] pos) (iEnumT X.K ta) := by
  refine ⟨fun pins s σ H R I h => ?_⟩
  refine Call_ (ld_blt I hg hm boot_enumerate (PyProof.Rows.callWith_type1 (thn (ha.run pos pins s σ H _ I h) fun us s1 ⟨vs, H1, I1, r1, q1⟩ => ?_) hs rfl))
  obtain ⟨a, xs, ex, hq, q⟩ := q1
  subst ex
  cases r1 with
  | cons r rr =>
    cases rr
    cases r
    obtain ⟨its, rv, p', hz⟩ := I1.tuple hq
    refine call_enumerate_tuple p' fun h' he hit hsz hk => wpAny_pyIter_enum he ?_
    have I2 : Inv X pins σ H1 { s1 with heap := h' } := I1.kept (t' := s1.toks) hk
    refine ⟨s1.heap.objs.size + 1, [s1.heap.objs.size + 1, s1.heap.objs.size], _, _, H1, rfl, I2, turn_enumT a (s1.heap.objs.size + 1) s1.heap.objs.size, ⟨⟨.none, he⟩, hit, Nat.succ_ne_self _⟩, fun b hb => ?_, q⟩
    have e' : b = s1.heap.objs.size + 1 ∨ b = s1.heap.objs.size := by simpa using hb
    have hle : s1.heap.objs.size ≤ b := by
      rcases e' with z | z
      · rw [z]; exact Nat.le_add_right _ _
      · rw [z]; exact Nat.le_refl _
    exact I1.fpOk hle (I1.hok.fresh hle)
/-- for i, x in enumerate(t): t is a tuple, so nothing of it changes -/
theorem for_enumT {K : PySem.W.Frag} {a : Addr} {xs : List V} {g : TG} {tb : TS} {D : Ends} {σ : L2.St} {H : Hp} (Pv : Nat → L2.St → Hp → Prop) (h0 : Pv 0 σ H) (hl : ∀ i σ H, i ≤ xs.length → Pv i σ H → SqT K H a xs)
    (hs : ∀ i x σ H, xs[i]? = some x → Pv i σ H → ∀ T, H T = none → g (.ref T) σ (upd H T (.tup [.int (i : Nat), x])) fun σ2 H2 => tb { D with nx := Pv (i + 1), ct := Pv (i + 1), bk := D.nx } σ2 H2) (hd : ∀ σ H, Pv xs.length σ H → D.nx σ H) :
    ∃ W : Nat → Nat → L2.St → Hp → Prop, (∃ m, W 0 m σ H) ∧ ∀ i m σ H, W i m σ H →
      ((Itet K a).stop i H ∧ D.nx σ H) ∨ ((Itet K a).go i H ∧ ∃ N : L2.St → Hp → Prop, (∀ σ' H', N σ' H' → ∃ m', m' < m ∧ W (i + 1) m' σ' H') ∧ ∀ x H', (Itet K a).yld i H x H' → g x σ H' fun σ2 H2 => tb { D with nx := N, ct := N, bk := D.nx } σ2 H2) := by
  refine ⟨fun i m σ H => m = xs.length - i ∧ i ≤ xs.length ∧ Pv i σ H, ⟨xs.length, by simp, Nat.zero_le _, h0⟩, ?_⟩
  rintro i m σ H ⟨rfl, hi, p⟩
  have q := hl i σ H hi p
  by_cases hlt : i < xs.length
  · refine .inr ⟨⟨xs, xs[i], q, by simp [hlt]⟩, Pv (i + 1), fun σ' H' p' => ⟨xs.length - (i + 1), by omega, rfl, hlt, p'⟩, fun x H' y => ?_⟩
    obtain ⟨T, z, ex, hT, eH, hz⟩ := y
    subst ex eH
    exact hs i z σ _ (hz xs q) p T hT
  · have e : i = xs.length := by omega
    subst e
    exact .inl ⟨⟨xs, q, Nat.le_refl _⟩, hd σ H p⟩
/-- for i, x in enumerate(l) -/
theorem for_enumL {K : PySem.W.Frag} {a : Addr} {xs : List V} {g : TG} {tb : TS} {D : Ends} {σ : L2.St} {H : Hp} (Pv : Nat → L2.St → Hp → Prop) (h0 : Pv 0 σ H) (hl : ∀ i σ H, i ≤ xs.length → Pv i σ H → SqL K H a xs)
    (hs : ∀ i x σ H, xs[i]? = some x → Pv i σ H → ∀ T, H T = none → g (.ref T) σ (upd H T (.tup [.int (i : Nat), x])) fun σ2 H2 => tb { D with nx := Pv (i + 1), ct := Pv (i + 1), bk := D.nx } σ2 H2) (hd : ∀ σ H, Pv xs.length σ H → D.nx σ H) :
    ∃ W : Nat → Nat → L2.St → Hp → Prop, (∃ m, W 0 m σ H) ∧ ∀ i m σ H, W i m σ H →
      ((Ite K a).stop i H ∧ D.nx σ H) ∨ ((Ite K a).go i H ∧ ∃ N : L2.St → Hp → Prop, (∀ σ' H', N σ' H' → ∃ m', m' < m ∧ W (i + 1) m' σ' H') ∧ ∀ x H', (Ite K a).yld i H x H' → g x σ H' fun σ2 H2 => tb { D with nx := N, ct := N, bk := D.nx } σ2 H2) := by
  refine ⟨fun i m σ H => m = xs.length - i ∧ i ≤ xs.length ∧ Pv i σ H, ⟨xs.length, by simp, Nat.zero_le _, h0⟩, ?_⟩
  rintro i m σ H ⟨rfl, hi, p⟩
  have q := hl i σ H hi p
  by_cases hlt : i < xs.length
  · refine .inr ⟨⟨xs, xs[i], q, by simp [hlt]⟩, Pv (i + 1), fun σ' H' p' => ⟨xs.length - (i + 1), by omega, rfl, hlt, p'⟩, fun x H' y => ?_⟩
    obtain ⟨T, z, ex, hT, eH, hz⟩ := y
    subst ex eH
    exact hs i z σ _ (hz xs q) p T hT
  · have e : i = xs.length := by omega
    subst e
    exact .inl ⟨⟨xs, q, Nat.le_refl _⟩, hd σ H p⟩
/-! ### powers -/
def CPowX (i j : Int) : Prop := 0 ≤ j ∧ (Builtin.Int.intBits i : Int) * j ≤ 2 ^ 27
theorem op_powX {X : Cx} : OpR X (binaryOp .Pow) (rI CPowX fun i j => .int (i ^ j.toNat)) := opI fun _ _ _ _ _ _ _ hc q => pow_int hc.1 hc.2 q
/-! ### t[lo:hi:step], t a tuple -/
section
variable {prog : Program} {w : World} {A : Around} {E : Value → Shared → Prop} {s : Shared}
theorem sliceApplied_step {sl : Addr} {vl vu vs : Value} {lo hi : Option Int} {k : Int} {n : Nat} {Q : Int × Int × Nat → Shared → Prop} (hs : s.heap.IsSliceOf sl vl vu vs) (pl : IsPart vl lo) (pu : IsPart vu hi) (ps : IsPart vs (some k)) (hk : k ≠ 0)
    (h : Q ((Builtin.Slice.sliceAdjust lo hi k (n : Int)).1, k, Builtin.Slice.slicePlaces (Builtin.Slice.sliceAdjust lo hi k (n : Int)).1 (Builtin.Slice.sliceAdjust lo hi k (n : Int)).2 k) s) :
    wpAny (model prog w) A (Builtin.Slice.sliceApplied (.ref sl) (pure (n : Int))) Q E s := by
  obtain ⟨os, hos, hcs, hds⟩ := id hs
  unfold Builtin.Slice.sliceApplied Builtin.Slice.sliceFields
  refine wpAny_bind (wpAny_bind (wpAny_field hos hds (x := vl) rfl (wpAny_bind (wpAny_field hos hds (x := vu) rfl (wpAny_bind (wpAny_field hos hds (x := vs) rfl (wpAny_pure ?_)))))))
  refine wpAny_bind (HT.slicePart_ ps ?_)
  show wpAny _ _ (if (k == 0) = true then _ else _) _ _ s
  rw [if_neg (by simpa using hk)]
  refine wpAny_bind (HT.slicePart_ pl (wpAny_bind (HT.slicePart_ pu (wpAny_bind (wpAny_pure ?_)))))
  exact wpAny_pure h
/-- the items at lo, lo + k, .. -/
def pickK {α : Type} (xs : List α) (lo k : Int) (n : Nat) : List α := (List.range n).filterMap fun (m : Nat) => xs[(lo + (m : Int) * k).toNat]?
theorem getItem_tuple_step {t sl : Addr} {items : Array Value} {vl vu vs : Value} {lo hi : Option Int} {k : Int} {Q : Value → Shared → Prop} (ht : IsTup s.heap t items) (hs : s.heap.IsSliceOf sl vl vu vs) (pl : IsPart vl lo) (pu : IsPart vu hi) (ps : IsPart vs (some k)) (hk : k ≠ 0)
    (h1 : ((Builtin.Slice.sliceAdjust lo hi k (items.size : Int)).1 == 0 && k == 1 && Builtin.Slice.slicePlaces (Builtin.Slice.sliceAdjust lo hi k (items.size : Int)).1 (Builtin.Slice.sliceAdjust lo hi k (items.size : Int)).2 k == items.size) = true → Q (.ref t) s)
    (h2 : ((Builtin.Slice.sliceAdjust lo hi k (items.size : Int)).1 == 0 && k == 1 && Builtin.Slice.slicePlaces (Builtin.Slice.sliceAdjust lo hi k (items.size : Int)).1 (Builtin.Slice.sliceAdjust lo hi k (items.size : Int)).2 k == items.size) = false →
      (pickK items.toList (Builtin.Slice.sliceAdjust lo hi k (items.size : Int)).1 k (Builtin.Slice.slicePlaces (Builtin.Slice.sliceAdjust lo hi k (items.size : Int)).1 (Builtin.Slice.sliceAdjust lo hi k (items.size : Int)).2 k)).length ≤ sizeLine ∧
      Q (.ref s.heap.objs.size) { s with heap := s.heap.push { cls := .type "tuple", data := .seq (pickK items.toList (Builtin.Slice.sliceAdjust lo hi k (items.size : Int)).1 k (Builtin.Slice.slicePlaces (Builtin.Slice.sliceAdjust lo hi k (items.size : Int)).1 (Builtin.Slice.sliceAdjust lo hi k (items.size : Int)).2 k)).toArray } }) :
    wpAny (model prog w) A (getItem (.ref t) (.ref sl)) Q E s := by
  obtain ⟨os, hos, hcs, hds⟩ := id hs
  have hTs : s.TypeIs (.ref sl) "slice" := ⟨os, hos, hcs⟩
  unfold getItem
  try with_reducible refine wpAny_holding ?_
  first | refine wpAny_bind (wpAny_pure ?_) | skip
  refine wpAny_bind (wpAny_sequenceKey ht.typeIs (by decide) ?_)
  refine wpAny_bind (wpAny_callSpecial?_slot (name := Str.ofString "__getitem__") ht.typeIs PyProof.Rows.slot_tuple_getitem
    (wpAny_call_entry PyProof.Rows.slot_tuple_getitem ht.typeIs entry_tuple_getitem ?_ (args_tuple_getitem _ _)))
  show wpAny _ _ (Builtin.Tuple.tupleItemsOf (.ref t) >>= _) _ _ s
  refine wpAny_bind (tupleItemsOf_ ht ?_)
  refine wpAny_bind (wpAny_typeOf hTs ?_)
  rw [if_pos (by decide)]
  refine wpAny_bind (sliceApplied_step hs pl pu ps hk ?_)
  generalize hLo : (Builtin.Slice.sliceAdjust lo hi k (items.size : Int)).1 = L at *
  generalize hN : Builtin.Slice.slicePlaces L (Builtin.Slice.sliceAdjust lo hi k (items.size : Int)).2 k = N at *
  show wpAny _ _ (if (L == 0 && k == 1 && N == items.size) = true then _ else _) _ _ s
  cases hb : (L == 0 && k == 1 && N == items.size) with
  | true =>
    rw [if_pos rfl]
    have h := h1 hb
    refine wpAny_bind ?_
    show wpAny _ _ (typeOf (.ref t) >>= fun T => pure (T == .type "tuple")) _ _ s
    refine wpAny_bind (wpAny_typeOf ht.typeIs (wpAny_pure ?_))
    first
      | rw [if_pos (by decide)]
      | simp only [beq_self_eq_true, if_true]
    first
      | exact wpAny_bind (wpAny_rule (wpAny_pure ⟨_, rfl, wpAny_pure h⟩))
      | exact wpAny_bind (wpAny_rule (wpAny_bind (wpAny_pure (wpAny_pure ⟨_, rfl, wpAny_pure h⟩))))
  | false =>
    rw [if_neg Bool.false_ne_true]
    obtain ⟨hz, h⟩ := h2 hb
    have htake : sizeOk (.seq (pickK items.toList L k N).toArray) := by
      show (pickK items.toList L k N).toArray.size ≤ sizeLine
      rw [List.size_toArray]
      exact hz
    have e : ((List.range N).filterMap fun (m : Nat) => items[(L + (m : Int) * k).toNat]?) = pickK items.toList L k N := by
      unfold pickK
      congr 1
      funext m
      simp
    rw [e]
    first
      | exact wpAny_bind (m := Builtin.Tuple.tupleExact _) (wpAny_newObj_type (wpAny_pure ⟨_, rfl, wpAny_pure h⟩) htake)
      | exact wpAny_bind (m := Builtin.Tuple.tupleExact _) (wpAny_newObj_type (wpAny_bind (wpAny_pure (wpAny_pure ⟨_, rfl, wpAny_pure h⟩))) htake)
      | exact wpAny_bind (wpAny_bind (m := Builtin.Tuple.tupleExact _) (wpAny_newObj_type (wpAny_pure (wpAny_pure ⟨_, rfl, wpAny_pure h⟩)) htake))
      | exact wpAny_bind (wpAny_bind (m := Builtin.Tuple.tupleExact _) (wpAny_newObj_type (wpAny_pure ⟨_, rfl, wpAny_pure h⟩) htake))
end
theorem Vals.filt {α : Type} {xs : List V} {us : List Value} (r : Vals xs us) (f : α → Nat) : ∀ l : List α, Vals (l.filterMap fun m => xs[f m]?) (l.filterMap fun m => us[f m]?)
  | [] => .nil
  | m :: l => by
    rw [List.filterMap_cons, List.filterMap_cons]
    cases e : xs[f m]? with
    | none =>
      rw [r.none_of e]
      exact Vals.filt r f l
    | some x =>
      obtain ⟨u, hu, ru⟩ := r.get e
      rw [hu]
      exact .cons ru (Vals.filt r f l)
theorem Vals.pickK {xs : List V} {us : List Value} (r : Vals xs us) (lo k : Int) (n : Nat) : Vals (pickK xs lo k n) (K83.pickK us lo k n) := Vals.filt r (fun m : Nat => (lo + (m : Int) * k).toNat) (List.range n)
/-- the slice of a tuple with a step -/
def rSlK (K : PySem.W.Frag) (x : V) (lo hi : Option Int) (k : Int) (H : Hp) (Q : VK) : Prop := ∃ a xs, x = .ref a ∧ SqT K H a xs ∧ k ≠ 0 ∧
  ∃ (L : Int) (N : Nat), (Builtin.Slice.sliceAdjust lo hi k (xs.length : Int)).1 = L ∧ Builtin.Slice.slicePlaces L (Builtin.Slice.sliceAdjust lo hi k (xs.length : Int)).2 k = N ∧ N ≤ 1000 ∧
  ((L == 0 && k == 1 && N == xs.length) = true → Q (.ref a) H) ∧ ((L == 0 && k == 1 && N == xs.length) = false → ∀ p, H p = none → Q (.ref p) (upd H p (.tup (pickK xs L k N))))
def tSl3 (r : V → Option Int → Option Int → Int → Hp → VK → Prop) (te : TE) (tl th : TO) (ts : TE) : TE := fun σ H Q => te σ H fun x H1 => tl σ H1 fun l H2 => th σ H2 fun u H3 => tPart ts σ H3 fun o H4 => ∃ k, o = some k ∧ r x l u k H4 Q
theorem pe_slice3 {X : Cx} {e st : Expr} {te ts : TE} {lo hi : Option Expr} {tl th : TO} {pos p2 : Pos} (he : PE X e te) (hl : PO X lo tl) (hu : PO X hi th) (hst : PE X st ts) : PE X (.Subscript e (.Slice lo hi (some st) p2) pos) (tSl3 (rSlK X.K) te tl th ts) := by
  refine ⟨fun pins s σ H Q I h => ?_⟩
  refine Subscript_ (thn (he.run pins s σ H _ I h) fun v s1 ⟨x, H1, I1, r1, q1⟩ => ?_)
  refine wpAny_Slice (thn (hl.run pins s1 σ H1 _ I1 q1) fun vl s2 ⟨l, H2, I2, pl, q2⟩ => thn (hu.run pins s2 σ H2 _ I2 q2) fun vu s3 ⟨u, H3, I3, pu, q3⟩ => ?_)
  refine thn ((po_some hst).run pins s3 σ H3 _ I3 q3) fun vs s4 ⟨o, H4, I4, ps, k, eo, q4⟩ => ?_
  subst eo
  obtain ⟨a, xs, ex, hx, hk, L, N, eL, eN, hN, h1, h2⟩ := q4
  subst ex
  cases r1
  have I5 : Inv X pins σ H4 { s4 with heap := s4.heap.push { cls := .type "slice", data := .fields #[vl, vu, vs] } } := I4.kept (t' := s4.toks) fun b ob q => Heap.get?_push_of_some _ q
  obtain ⟨its, r, ht, hz⟩ := I5.tuple hx
  have hlen : its.toArray.size = xs.length := by rw [List.size_toArray]; exact r.length.symm
  show wpAny (model X.prog X.w) X.A (subscriptTail e (.Slice lo hi (some st) p2) (.ref a) (.ref s4.heap.objs.size)) (EP X pins σ Q) X.xe { s4 with heap := s4.heap.push { cls := .type "slice", data := .fields #[vl, vu, vs] } }
  refine tail_any (ops := [.ref a, .ref s4.heap.objs.size]) ht.typeIs (PyProof.Rows.slot_tuple_getitem.lookup) ?_ (by with_unfolding_all rfl)
  refine getItem_tuple_step ht (Heap.IsSliceOf.new _ vl vu vs) pl pu ps hk ?_ ?_
  · rw [hlen, eL, eN]
    exact fun hb => ⟨.ref a, H4, I5, rfl, h1 hb⟩
  · rw [hlen, eL, eN]
    intro hb
    have rp := Vals.pickK r L k N
    have hpl : (pickK its L k N).length ≤ sizeLine := by
      have q : (pickK its L k N).length ≤ N := by
        unfold pickK
        exact Nat.le_trans (List.length_filterMap_le _ _) (by rw [List.length_range]; exact Nat.le_refl _)
      rw [sizeLine_eq]
      omega
    refine ⟨hpl, .ref _, _, I5.laid (t' := s4.toks) (o := .tup (pickK xs L k N)) (fun b ob q => Heap.get?_push_of_some _ q) (Nat.le_refl _) ?_, rfl, h2 hb _ (I5.hok.fresh (Nat.le_refl _))⟩
    exact ⟨by rw [rp.length]; exact hpl, _, rp, IsTup.new _ _⟩
end K83
/-! exceptions: an own __init__ that calls its own base's __init__ by name; a kept exception -/
namespace K83
open PySem PySem.Spec PyProof.Rows L2
/-! ### LastThroughError.__init__(self, ..) -/
/-- what the written part says of the base class at L -/
structure BaseC (K : PySem.W.Frag) (L : Addr) : Prop where
  rd : PySem.W.readsIn K L (.type "type") = true
  sp : PySem.W.specialIn K (.ref L) "__getattribute__" = some (some (.builtin "type.__getattribute__"))
  fi : PySem.W.findCls K (.ref L) (.type "type") "__init__" = some (.val (.builtin "ValueError.__init__"))
theorem pe_baseinit {X : Cx} {ta : TA} {e : Expr} {es : List Expr} {x : Str} {L : Addr} {p1 p2 pos : Pos} {pl : Sem Bool} (T : BaseC X.K L) (hg : Gl X x) (hm : X.mg x = some (.ref L)) (ha : PA X (e :: es) ta)
    (hdb : (x == ("__debug__" : Str)) = false := by decide)
    (hc : eval (.Call (.Attribute (.Name x p1) "__init__" p2) (e :: es) [] pos) X.env = (do
      let ov ← eval (.Name x p1) X.env
      standAt p2.atName
      let (f, first) ← holding [ov] (getMethod ov "__init__" pl)
      callWith pos f first (backTo pos (starEach (e :: es) X.env)) (backToKw pos (keywordEach [] X.env))) := by rfl)
    (he : starEach (e :: es) X.env = (false, eval e X.env) :: starEach es X.env := by rfl) (hpl : (backTo pos (starEach es X.env)).any (·.1) = false := by rfl) :
    PE X (.Call (.Attribute (.Name x p1) "__init__" p2) (e :: es) [] pos) (tVeI X.K ta) := by
  refine ⟨fun pins s σ H Q I h => ?_⟩
  refine PySem.W.methodCall_KW (ld_glob I hg hm ?_ hdb) hc
  refine PySem.W.method_cls I.kIn T.sp (PySem.W.cls_value I.kIn T.rd T.fi (by rfl) ?_)
  show wpAny _ _ (callWith pos (Value.builtin "ValueError.__init__") [] (backTo pos (starEach (e :: es) X.env)) []) _ _ _
  refine PyProof.Rows.callWith_method1 (thn (ha.run pos pins _ σ H _ (I.tok _) h) fun us s1 ⟨vs, H1, I1, r1, a, C, ws, ev, hl, T, ea, q⟩ => ?_) he hpl
  subst ev
  cases r1 with
  | @cons _ u0 _ ur ra rw' =>
    obtain rfl : u0 = Value.ref a := ra
    have hlen : ur.length ≤ sizeLine := by
      rw [← Paired.length rw', sizeLine_eq]
      omega
    exact oinit_ok T I1 ea hlen fun s' J => ⟨.non, H1, J, rfl, q⟩
/-! ### raise MoveBlocked(i, r) -/
/-- the promise of MoveBlocked.__init__ -/
def spMB (C : Addr) : Sp := fun vs H Q _ => ∃ (a : Addr) (i r : V), vs = [.ref a, i, r] ∧ H a = some (exo a C none) ∧
  ∀ dx, H dx = none → dx ≠ a → Q .non (upd (upd (upd H dx (exd dx [(("index" : Str), i)])) a (exo a C (some dx))) dx (exd dx [(("reason" : Str), r), (("index" : Str), i)]))
/-- raise C(i, r): its dict is new -/
def tMkMB (C : Addr) (ta : TA) : L2.St → Hp → XK → Prop := fun σ H Q => ta σ H fun vs H1 => ∃ i r, vs = [i, r] ∧ ∀ d, H1 d = none → Q (.ref C) (some d) (upd H1 d (.xd [(("reason" : Str), r), (("index" : Str), i)]))
theorem tMkO_of {C : Addr} {ta : TA} {σ : L2.St} {H : Hp} {Q : XK} (mono : ∀ (Q Q' : List V → Hp → Prop), (∀ vs H1, Q vs H1 → Q' vs H1) → ta σ H Q → ta σ H Q') (h : tMkMB C ta σ H Q) : tMkO C (spMB C) [] ta σ H Q := by
  refine mono _ _ (fun vs H1 q => ?_) h
  obtain ⟨i, r, rfl, q⟩ := q
  refine ⟨by show 2 ≤ 1000; decide, fun a ha => ⟨a, i, r, rfl, upd_same, fun dx hd hne => ⟨rfl, dx, [(("reason" : Str), r), (("index" : Str), i)], ?_, ?_, ?_, ?_⟩⟩⟩
  · rw [upd_ne (Ne.symm hne), upd_same]
  · exact upd_same
  · rw [upd_ne hne] at hd
    exact hd
  · rw [upd_ne hne] at hd
    have e : upd (del (upd (upd (upd (upd H1 a (exo a C none)) dx (exd dx [(("index" : Str), i)])) a (exo a C (some dx))) dx (exd dx [(("reason" : Str), r), (("index" : Str), i)])) a) dx (.xd [(("reason" : Str), r), (("index" : Str), i)]) =
        upd H1 dx (.xd [(("reason" : Str), r), (("index" : Str), i)]) := by
      funext b
      by_cases hb : b = dx
      · rw [hb, upd_same, upd_same]
      · rw [upd_ne hb, upd_ne hb]
        by_cases hba : b = a
        · rw [hba, del_same, ha]
        · rw [del_ne hba, upd_ne hb, upd_ne hba, upd_ne hb, upd_ne hba]
    rw [e]
    exact q dx hd
/-! ### NothingToUndo() -/
theorem pmk_own0 {X : Cx} {C : Addr} {bmB : List Value} {B newId initId : String} {x : Str} {p pos : Pos} (F : ExcBaseFacts B newId initId bmB) (q : PySem.W.excIn X.K C bmB newId = true) (gC : X.mg x = some (.ref C))
    (kC : PySem.W.keepIn X.K (.ref C) = true) (r : Raises X (.ref C)) (hg : Gl X x) (hdb : (x == ("__debug__" : Str)) = false := by decide) :
    PMk X (.Call (.Name x p) [] [] pos) (fun _ H Q => Q (.ref C) none H) := by
  intro pins s σ H Q I h
  refine wpAny_Call_Name_kw (ld_glob I hg gC ?_ hdb)
  refine PySem.W.callWith_K0 I.kIn kC ?_
  show wpAny _ _ (call (.ref C) []) _ _ _
  obtain ⟨bm, N, nm, qn, bs, hdct, sn, sub, ab, col, dd, k0, k1, k2, k3, k5, mN, hC, hN, hni, T⟩ := exc_obj I.kIn q
  refine wpAny_call_exc_subT F T hC hN hni (fun h' e hm => ?_) (by show 0 ≤ sizeLine; exact Nat.zero_le _)
  exact mk_of I hm r h (I.hok.gone hm.new)
/-! ### a kept exception -/
/-- at a: an exception of the class cls, its dict d -/
def exV (a : Addr) (cls : Value) (d : Option Addr) : HO := .ext fun h => ∃ (oe : Obj) (vs : Array Value), h.get? a = some oe ∧ Zc cls d oe ∧ oe.data = .fields vs
theorem exV_ok {P : Program} {w : World} {H : Hp} {h : Heap} {a : Addr} {cls : Value} {d : Option Addr} {oe : Obj} {vs : Array Value} (e : h.get? a = some oe) (z : Zc cls d oe) (hd : oe.data = .fields vs) : ObjOk P w H h a (exV a cls d) :=
  ⟨⟨oe, vs, e, z, hd⟩, ⟨oe, e⟩, fun _ _ ⟨o, v, q, r⟩ k => ⟨o, v, k o q, r⟩⟩
theorem exV_at {P : Program} {w : World} {H : Hp} {h : Heap} {a : Addr} {cls : Value} {d : Option Addr} (hok : HOk P w H h) (e : H a = some (exV a cls d)) : ∃ (oe : Obj) (vs : Array Value), h.get? a = some oe ∧ Zc cls d oe ∧ oe.data = .fields vs := by
  have x : ObjOk P w H h a (.ext fun h => ∃ (oe : Obj) (vs : Array Value), h.get? a = some oe ∧ Zc cls d oe ∧ oe.data = .fields vs) := hok a _ e
  exact x.1
section
variable {X : Cx} {pins : List (Addr × Obj)} {σ : L2.St} {H : Hp} {s : Shared}
theorem Inv.track {a : Addr} {o : HO} (I : L2.Inv X pins σ H s) (na : H a = none) (n0 : X.s_0.heap.get? a = none) (new : ObjOk X.prog X.w (upd H a o) s.heap a o) (hp : ∀ p ∈ X.pn ++ pins, p.1 ≠ a) (hL : a ≠ X.env.locals)
    (hc : ∀ x c, X.env.cells.lookup x = some c → c ≠ a) : L2.Inv X pins σ (upd H a o) s := by
  have ne0 : ∀ b u, X.s_0.heap.get? b = some u → b ≠ a := fun b u e z => by
    rw [z, n0] at e
    cases e
  refine ⟨I.ok, I.os, I.bare, ⟨I.base.keep, I.base.slot, fun b u e n hq => ?_, I.base.there, fun b xs e => ?_, fun b u v e => ?_, fun b ps e => ?_⟩, I.loc, I.cell, ?_, fun x c e => ?_, fun p hq => ?_, fun b u e => ?_, I.len⟩
  · rw [upd_ne (ne0 b u e)]
    exact I.base.free b u e n hq
  · have q := I.base.tups b xs e
    rw [upd_ne (ne_of_none q na)]
    exact q
  · have q := I.base.frzs b u v e
    rw [upd_ne (ne_of_none q na)]
    exact q
  · obtain ⟨m, q⟩ := I.base.tbls b ps e
    exact ⟨m, by rw [upd_ne (ne_of_none q na)]; exact q⟩
  · rw [upd_ne (Ne.symm hL)]
    exact I.free
  · rw [upd_ne (hc x c e)]
    exact I.freeC x c e
  · obtain ⟨e, n, r⟩ := I.pin p hq
    exact ⟨e, by rw [upd_ne (hp p hq)]; exact n, r⟩
  · by_cases hb : b = a
    · subst hb
      rw [upd_same] at e
      cases e
      exact new
    · rw [upd_ne hb] at e
      exact (I.hok b u e).stay (fun c v _ q => q) (fun c q => by rw [upd_ne (ne_of_none q na)]; exact q) fun c xs q => by rw [upd_ne (ne_of_none q na)]; exact q
end
/-! ### try: .. except C1 as e: .. except C2 as e: .., what is caught is tracked behind the suite -/
def wManyA (K : PySem.W.Frag) (Wout : WX) (D : Ends) (i : Nat) : List (Value × (Addr → Value → Option Addr → TS)) → WX
  | [] => Wout
  | (c, ts) :: r => fun cls d σ H => ∃ b, PySem.W.exmOne K cls c = some b ∧ (b = true → ∀ a, H a = none → ts a cls d { nx := fun σ' H' => H' a = none → D.nx (σ'.set i none) (upd H' a (exV a cls d)), rt := fun _ _ => False } (σ.set i (some (.ref a))) H) ∧
      (b = false → wManyA K Wout D i r cls d σ H)
inductive HdsOkA (X : Cx) (n : Str) : List ExceptHandler → List (Value × (Addr → Value → Option Addr → TS)) → Prop
  | nil : HdsOkA X n [] []
  | cons {x : Str} {c : Value} {ts : Addr → Value → Option Addr → TS} {b₀ : Stmt} {suite : List Stmt} {np pos' : Pos} {hds : List ExceptHandler} {l : List (Value × (Addr → Value → Option Addr → TS))} (hc : Names X x c)
      (hsu : ∀ (a : Addr) (oe : Obj) (cls : Value) (d : Option Addr) (pn : List (Addr × Obj)), Zc cls d oe → (∃ vs, oe.data = .fields vs) → PSs (X.suite a ((a, oe) :: pn)) (b₀ :: suite) (ts a cls d)) (r : HdsOkA X n hds l) :
      HdsOkA X n (.ExceptHandler (some (.Name x np)) (some n) (b₀ :: suite) pos' :: hds) ((c, ts) :: l)
section
variable {X : Cx} {n : Str} {i : Nat} {body : List Stmt} {h₀ : ExceptHandler} {hds : List ExceptHandler} {l : List (Value × (Addr → Value → Option Addr → TS))} {pos : Pos} {tb : WX → TS} {Wout : WX}
theorem ps_try_manyA (hs : X.stack = X.env :: X.outer) (hf : X.env.frame = some X.env.locals) (hex : X.ex = []) (hN : X.N.Nodup) (hi : X.N[i]? = some n) (hln : X.env.kindOf n = some .local) (tk : Takes X Wout)
    (hb : ∀ (W : WX) (pn : List (Addr × Obj)) (xe : Value → Shared → Prop), Takes (X.tr pn xe) W → PassesOwn (model X.prog X.w) X.A X.env xe → PSs (X.tr pn xe) body (tb W))
    (hh : HdsOkA X n (h₀ :: hds) l) : PS X (.Try body (h₀ :: hds) [] [] pos) (fun D σ H => tb (wManyA X.K Wout D i l) D σ H) := by
  refine ⟨fun pins s σ H D I h => ?_⟩
  have ok := I.ok
  have hfr : X.A.frames = some (X.env :: X.outer) := by rw [ok.frames, hs]
  have hloc : Loc X.env.scope n := .inl hln
  refine wpAny_Try_except ?_
  refine wpAny_mono ((hb (wManyA X.K Wout D i l) (X.pn ++ pins) (fun e s₁ => wpAny (model X.prog X.w) X.A (noteFrame e X.env) (fun _ s₂ => wpAny (model X.prog X.w) X.A (setFlight e none) (fun _ s₃ =>
    wpAny (model X.prog X.w) X.A (handleBy e X.env (h₀ :: hds)) (SP X pins D) X.xe s₃) X.xe s₂) X.xe s₁) (fun u s' xx => ?_) PassesOwn.looking).run [] s σ H D (I.toTry _) h) (fun f s1 hsp => ?_) (fun e s1 he => he)
  · -- the catch
    obtain ⟨a, B, sI, pins', σ', H', cls, d, rfl, J', nb, up, sky, na, os, ag, w⟩ := xx
    have J : L2.Inv X pins σ' H' sI := J'.ofTry ok
    have sky' : Sky B (X.env :: X.outer) a (Zc cls d) X.env.locals s'.heap := by rw [← hs]; exact sky
    show wpAny (model X.prog X.w) X.A (noteFrame (.ref a) X.env) _ _ _
    refine Sky.land Zc.steady hfr hf sky' fun h3 fl3 up3 => ?_
    have J3 : L2.Inv X pins σ' H' { s' with heap := h3 } := J.landed nb fl3.1 (up.trans up3) os ag
    obtain ⟨oe3, vs3, he3, hz3, hd3⟩ := fl3.there
    have notFr : ∀ {h : Heap} {o : Obj} {vs : Array Value}, h.FunFrames B (X.env :: X.outer) → h.get? a = some o → o.data = .fields vs → a ∉ frs (X.env :: X.outer) := fun {h o vs} ff e dd hm => by
      obtain ⟨_, o', e', hnf⟩ := ff.mem hm
      rw [e] at e'; cases e'
      exact hnf _ dd
    have nfr := notFr fl3.2.2.1 he3 hd3
    have nL : a ≠ X.env.locals := fun z => nfr (List.mem_filterMap.mpr ⟨X.env, List.mem_cons_self, by rw [hf, z]⟩)
    have nF : a ∉ X.fs := fun hm => by
      obtain ⟨e, he, q⟩ := List.mem_filterMap.mp hm
      exact nfr (List.mem_filterMap.mpr ⟨e, List.mem_cons_of_mem _ he, q⟩)
    have nI : sI.heap.get? a = none := by
      cases e : sI.heap.get? a with
      | none => rfl
      | some o =>
        have q := nb a o e (by rw [hs]; exact nfr)
        rw [fl3.2.1] at q
        cases q
    have n0 : X.s_0.heap.get? a = none := by
      cases e : X.s_0.heap.get? a with
      | none => rfl
      | some o =>
        obtain ⟨o', q⟩ := J.base.there a o e (by rw [hex]; exact fun z => nomatch z)
        rw [nI] at q
        cases q
    have nP : ∀ p ∈ X.pn ++ pins, p.1 ≠ a := fun p hp z => by
      have q := (J.pin p hp).1
      rw [z, nI] at q
      cases q
    have nC : ∀ x c, X.env.cells.lookup x = some c → c ≠ a := fun x c e z => by
      obtain ⟨v, o, q, _⟩ := J.cell x c e
      rw [z, nI] at q
      cases q
    have S3 := J3.suite he3 hd3 na nL nF
    have go : ∀ {hds' : List ExceptHandler} {l' : List (Value × (Addr → Value → Option Addr → TS))}, HdsOkA X n hds' l' → wManyA X.K Wout D i l' cls d σ' H' →
        wpAny (model X.prog X.w) X.A (handleBy (.ref a) X.env hds') (SP X pins D) X.xe { s' with heap := h3 } := by
      intro hds' l' hk
      induction hk with
      | nil =>
        intro w
        refine wpAny_handleBy_nil ?_
        obtain ⟨k1, k2, k3, oe, vs, T, oT, ts', he, hz, hd, h1, hr⟩ := id fl3
        unfold PySem.passOn
        refine wpAny_bind (wpAny_field he hd h1 ?_)
        rw [if_neg (show ¬ ((Value.ref T == Value.none) = true) from by simp)]
        have fin : wpAny (model X.prog X.w) X.A (setFlight (.ref a) X.env.frame) (fun _ s4 => wpAny (model X.prog X.w) X.A (throw (.ref a) : Sem Flow) (SP X pins D) X.xe s4) X.xe { s' with heap := h3 } := by
          rw [hf]
          refine HandSPX.setFlight_upZ fl3 fun h4 hh4 up4 => wpAny_throw (tk _ _ ?_)
          exact ⟨a, B, sI, pins, σ', H', cls, d, rfl, J, nb, (up.trans up3).trans up4, .inr (.inr (by rw [hs]; exact hh4)), na, os, ag, w⟩
        first
          | exact wpAny_bind (wpAny_pure (wpAny_bind fin))
          | exact wpAny_bind fin
      | @cons x c ts b₀ suite np pos' hds2 l2 hc hsu r ih =>
        intro w
        obtain ⟨b, hb1, hyes, hno⟩ := w
        refine wpAny_handleBy_cons (codeAny_handlers_test ?_) (by intro q; cases q)
        have LT : PySem.W.Looks (model X.prog X.w) h3 (typeOf (.ref a)) cls := fun A Q E s k q => wpAny_typeOf_ref (k _ _ he3) (by rw [hz3.1]; exact q)
        have LM := PySem.W.exm_one (M := model X.prog X.w) (J3.kIn) LT hb1
        have test : ∀ {Q : Value → Shared → Prop} {E : Value → Shared → Prop}, Q c { s' with heap := h3 } → wpAny (model X.prog X.w) (X.A.mark (some (.ref a))) (eval (.Name x np) X.env) Q E { s' with heap := h3 } := fun {Q E} q => by
          obtain ⟨hg, hdbg, hm | ⟨hm, hv, hnn⟩⟩ := hc
          · exact ld_glob (X := X.suite a ((a, oe3) :: (X.pn ++ pins))) S3 hg hm q hdbg
          · exact ld_blt (X := X.suite a ((a, oe3) :: (X.pn ++ pins))) S3 hg hm hv q hnn hdbg
        refine test (LM.here ?_)
        cases b with
        | true =>
          refine codeAny_handlers_suite_as ?_
          refine HandSPX.lands_againZ fl3 fun h4 fl4 up4 => ?_
          have J4 : L2.Inv X pins σ' H' { s' with heap := h4 } := J.landed nb fl4.1 ((up.trans up3).trans up4) os ag
          obtain ⟨oe4, vs4, he4, hz4, hd4⟩ := fl4.there
          have S4 := J4.suite he4 hd4 na nL nF
          refine store_ok (X := X.suite a ((a, oe4) :: (X.pn ++ pins))) (v := .ref a) S4 hN hi hloc rfl (fun s5 S5 => ?_) (.inr hln)
          refine wpAny_mono ((hsu a oe4 cls d (X.pn ++ pins) hz4 ⟨_, hd4⟩).run [] s5 _ H' _ S5 (hyes rfl a na)) (fun f s6 hsp => ?_) (fun _ _ z => False.elim z)
          cases f with
          | next =>
            obtain ⟨σ6, H6, S6, q6⟩ := hsp
            obtain ⟨ha6, hn6, _⟩ := S6.pin (a, oe4) (List.mem_append_left _ List.mem_cons_self)
            have J6 : L2.Inv X pins σ6 (upd H6 a (exV a cls d)) s6 := Inv.track (S6.unsuite ok) hn6 n0 (exV_ok ha6 hz4 hd4) nP nL nC
            exact gone_ok J6 hN hi hln fun s7 J7 => ⟨_, _, J7, q6 hn6⟩
          | brk =>
            obtain ⟨σ6, H6, S6, q6⟩ := hsp
            exact q6.elim
          | cont =>
            obtain ⟨σ6, H6, S6, q6⟩ := hsp
            exact q6.elim
          | ret u =>
            obtain ⟨v6, σ6, H6, S6, r6, q6⟩ := hsp
            exact q6.elim
        | false =>
          show wpAny _ X.A (handleBy (.ref a) X.env hds2) _ _ _
          exact ih (hno rfl)
    exact go hh w
  · cases f with
    | next =>
      obtain ⟨σ', H', J', q⟩ := hsp
      exact wpAny_execs_nil ⟨σ', H', J'.ofTry ok, q⟩
    | brk =>
      obtain ⟨σ', H', J', q⟩ := hsp
      exact ⟨σ', H', J'.ofTry ok, q⟩
    | cont =>
      obtain ⟨σ', H', J', q⟩ := hsp
      exact ⟨σ', H', J'.ofTry ok, q⟩
    | ret u =>
      obtain ⟨v, σ', H', J', r, q⟩ := hsp
      exact ⟨v, σ', H', J'.ofTry ok, r, q⟩
end
/-! ### isinstance, fields of a kept exception -/
theorem exV_inst {X : Cx} {pins : List (Addr × Obj)} {σ : L2.St} {H : Hp} {s : Shared} {a C : Addr} {d : Option Addr} (I : L2.Inv X pins σ H s) (e : H a = some (exV a (.ref C) d)) (hd : ∀ dd, d = some dd → ∃ fs, H dd = some (.xd fs)) :
    ∃ oe od, PySem.W.InstAt s.heap a oe C od := by
  obtain ⟨oe, vs, ha, hz, hv⟩ := exV_at I.hok e
  have hno : PySem.W.notCls oe = true := by
    unfold PySem.W.notCls
    rw [hv] <;> rfl
  cases d with
  | none => exact ⟨oe, none, ha, hz.1, hno, by rw [hz.2]; trivial⟩
  | some dd =>
    obtain ⟨fs, hx⟩ := hd dd rfl
    have ob : ObjOk X.prog X.w H s.heap dd (.xd fs) := I.hok dd _ hx
    obtain ⟨mA, ⟨o, es, ep, ho, _⟩, _⟩ := ob
    exact ⟨oe, some o, ha, hz.1, hno, by rw [hz.2]; exact ho⟩
/-- isinstance(e, D), e a kept exception of the class at C -/
def rIsV (K : PySem.W.Frag) : List V → Hp → VK → Prop := fun xs H Q => ∃ (a C D : Addr) (d : Option Addr) (b : Bool), xs = [.ref a, .ref D] ∧ H a = some (exV a (.ref C) d) ∧ (∀ dd, d = some dd → ∃ fs, H dd = some (.xd fs)) ∧ ExcC K C ∧ PySem.W.kitOne K (.ref C) (.ref D) = some b ∧ Q (.bl b) H
theorem call_isV {X : Cx} : CallR X (.builtin "isinstance") (rIsV X.K) := by
  intro pins s σ H xs us Q I r h
  obtain ⟨a, C, D, d, b, rfl, ha, hd, T, e, q⟩ := h
  cases r with
  | cons rx rr =>
    cases rr with
    | cons rt rr =>
      cases rr
      cases rx
      cases rt
      obtain ⟨oe, od, J⟩ := exV_inst I ha hd
      exact PySem.W.kia_one (PySem.W.kitx_exc (od := od) (by obtain ⟨cd, hc, _⟩ := PySem.W.any_some T.hd; rw [hc]; rfl) T.hg T.hk T.hs T.ha T.hn T.ht T.hm) I.kIn J e (fun z => nomatch z) fun tk => ⟨.bl b, H, I.kept (t' := tk) fun _ _ z => z, rfl, q⟩
/-- e.n, e a kept exception -/
def tXfV (K : PySem.W.Frag) (n : Str) (te : TE) : TE := fun σ H Q => te σ H fun x H1 => ∃ (a C dd : Addr) (fs : List (Str × V)) (v : V), x = .ref a ∧ XfC K C ∧ PySem.W.findIn K (.ref C) n = some none ∧ H1 a = some (exV a (.ref C) (some dd)) ∧ H1 dd = some (.xd fs) ∧ fs.lookup n = some v ∧ Q v H1
theorem pe_xfV {X : Cx} {e : Expr} {te : TE} {pos : Pos} {n : Str} (he : PE X e te) (hb : attributeBase e n X.env (eval e X.env) = eval e X.env := by rfl) : PE X (.Attribute e n pos) (tXfV X.K n te) := by
  refine ⟨fun pins s σ H Q I h => ?_⟩
  refine attr_of hb (thn (he.run pins s σ H _ I h) fun u s1 hh => ?_)
  obtain ⟨x, H1, I1, rx, a, C, dd, fs, v, ex, T, hno, ha, ea, l, q⟩ := hh
  subst ex
  obtain rfl : u = Value.ref a := rx
  obtain ⟨oe, vs, hget, hz, hd⟩ := exV_at I1.hok ha
  have hx : ObjOk X.prog X.w H1 s1.heap dd (.xd fs) := I1.hok dd _ ea
  obtain ⟨mA, hns, hr⟩ := hx
  obtain ⟨od, ho, hl⟩ := lookIn_ns hns
  obtain ⟨u, hu, ru⟩ := RelO.some_of (v := v) (o := mA n) (by rw [← l]; exact hr n)
  have J : PySem.W.InstAt s1.heap a oe C (some od) := ⟨hget, hz.1, by unfold PySem.W.notCls; rw [hd] <;> rfl, by rw [hz.2]; exact ho⟩
  exact HandSPX.exc_get I1.kIn J T.ga T.gg T.exC (PySem.W.findObj_own T.hdC hno rfl (by rw [hl, hu])) (handed_of ru) ⟨v, H1, I1.tok _, ru, q⟩
end K83
/-! != by an own __eq__; len by an own __len__ -/
namespace K83
open PySem PySem.Spec PyProof.Rows L2
section
open PySem.W
variable {prog : Program} {w : World} {A : Around} {E : Value → Shared → Prop} {s : Shared} {K : Frag} {x C f : Addr} {ox : Obj} {od : Option Obj} {name : Str} {b : Value}
theorem ifBound_slot {M : Model} {args : List Value} {Q : Option Value → Shared → Prop} {B id : String} (X : K.In s.heap) (I : InstAt s.heap x ox C od) (hs : findIn K (.ref C) name = some (some (.builtin id))) (S : Slot B name id)
    (h : wpAny M A (call (.builtin id) (.ref x :: args)) (fun v => Q (some v)) E s) : wpAny M A (callSpecialIfBound? (.ref x) name args) Q E s := by
  simp only [callSpecialIfBound?, bindSpecialIfBound?]
  refine wpAny_holding (wpAny_bind (wpAny_bind (wpAny_bind (I.type.here ((looks_findIn X hs).here ?_)))))
  simp only [S.bind]
  refine wpAny_bind (wpAny_askSetting (wpAny_ite ?_))
  have fin : wpAny M A (call (.builtin id) ([.ref x] ++ args) >>= fun v => pure (some v)) Q E s :=
    wpAny_bind (wpAny_mono h (fun v s' h' => wpAny_pure h') fun _ _ h' => h')
  split
  · exact wpAny_bind (wpAny_pure (wpAny_pure fin))
  · exact wpAny_tryCatch (wpAny_bind (wpAny_pure (wpAny_pure fin)))
/-- what == hands back: True or False -/
def EqBack (Q : Bool → Shared → Prop) (v : Value) (s' : Shared) : Prop := ∃ c, v = .bool c ∧ Q c s'
theorem objNe_own {Q : Fin → Shared → Prop} (hu : A.units < cLine) (X : K.In s.heap) (I : InstAt s.heap x ox C od) (hs : findIn K (.ref C) "__eq__" = some (some (.ref f))) (hf : isFn K (.ref f) = true)
    (h : wpAny (model prog w) A (call (.ref f) [.ref x, b]) (EqBack fun c s' => Q (.done (.ret (.bool (!c)))) s') E s) :
    wpAny (model prog w) A (Builtin.«object.__ne__» ⟨[.ref x, b], []⟩) Q E s := by
  unfold Builtin.«object.__ne__»
  refine wpAny_bind (wpAny_of_eq (a := ((Value.ref x : Value), [b])) (by first | rfl | (simp only [slotArgs]; rfl)) ?_)
  refine wpAny_bind (wpAny_cRoomFor hu ?_)
  refine wpAny_bind (ifBound_K X I hs hf (wpAny_mono h (fun v s' hv => ?_) fun _ _ e => e))
  obtain ⟨c, rfl, q⟩ := hv
  refine wpAny_bind ?_
  exact wpAny_truthy_bool (wpAny_pure q)
theorem ne_own {Q : Value → Shared → Prop} {tb : Value} (hu : A.units + 1 < cLine) (X : K.In s.heap) (I : InstAt s.heap x ox C od) (hb : Looks (model prog w) s.heap (typeOf b) tb) (hn : notFirst K C tb = true)
    (hs : findIn K (.ref C) "__eq__" = some (some (.ref f))) (hf : isFn K (.ref f) = true) (hne : findIn K (.ref C) "__ne__" = some (some (.builtin "object.__ne__"))) (hm : mroIn K C (.type "object") = some true)
    (h : wpAny (model prog w) A.in1 (call (.ref f) [.ref x, b]) (EqBack fun c s' => Q (.bool (!c)) s') E s) : wpAny (model prog w) A (richCompare .NotEq (.ref x) b) Q E s := by
  have sub : Looks (model prog w) s.heap (isInstance (.ref x) (.type "object")) true := I.type.andThen (looks_mroIn X hm)
  have one : wpAny (model prog w) A (tryCompare (.ref x) (cmpInfo .NotEq).2.1 b) (fun r s' => ∃ v, r = some v ∧ Q v s') E s := by
    unfold tryCompare
    refine wpAny_bind (ifBound_slot X I hne F.cmp_object.ne (wpAny_call (codeAny_call_builtin F.cmp_object.ne.plain F.cmpEntry_ne (check_slot F.cmpKind_ne F.cmpSplit_ne sub (F.cmpArgs_ne _ _)
      (objNe_own (A := A.in1) (by show A.units + 1 < cLine; exact hu) X I hs hf (wpAny_mono h (fun v s' hv => ?_) fun _ _ e => e))))))
    obtain ⟨c, rfl, q⟩ := hv
    exact ⟨c, rfl, wpAny_pure ⟨_, rfl, q⟩⟩
  unfold richCompare
  simp only [oneThing_ref]
  refine wpAny_holding (wpAny_bind (wpAny_cRoomFor (by omega) ?_))
  refine wpAny_bind (I.type.here (wpAny_bind (hb.here ?_)))
  split
  · rename_i q
    have e : subIn K tb (.ref C) = some false := by
      rcases Bool.or_eq_true_iff.mp hn with e | e
      · rw [beq_iff_eq.mp e] at q; simp at q
      · exact beq_iff_eq.mp e
    refine wpAny_bind ((looks_subIn X e).here ?_)
    simp only [Bool.false_eq_true, if_false]
    refine wpAny_bind (wpAny_mono one (fun r s' z => ?_) fun _ _ e => e)
    obtain ⟨v, rfl, hq⟩ := z
    exact wpAny_pure hq
  · refine wpAny_bind (wpAny_pure ?_)
    simp only [Bool.false_eq_true, if_false]
    refine wpAny_bind (wpAny_mono one (fun r s' z => ?_) fun _ _ e => e)
    obtain ⟨v, rfl, hq⟩ := z
    exact wpAny_pure hq
end
/-- a != b, both instances of the class at C whose own == keeps sp -/
def rNeI (C : Addr) (sp : Sp) : R2 := fun x y H Q => ∃ (a b dx dy : Addr) (fs gs : List (Str × V)), x = .ref a ∧ y = .ref b ∧ H a = some (.ins C dx fs) ∧ H b = some (.ins C dy gs) ∧
  sp [.ref a, .ref b] H (fun v H' => ∃ c, v = .bl c ∧ Q (.bl (!c)) H') (fun _ _ _ => False)
theorem op_neI {X : Cx} {CX : CXT} {C f : Addr} {fd : FuncData} {ps : List Str} {sp : Sp} {k : Nat} (F : FnOk X.prog X.w X.K X.mg X.base CX k f fd ps sp) (hr : Room (k + 1) X.A)
    (hs : PySem.W.findIn X.K (.ref C) "__eq__" = some (some (.ref f))) (hf : PySem.W.isFn X.K (.ref f) = true) (hne : PySem.W.findIn X.K (.ref C) "__ne__" = some (some (.builtin "object.__ne__"))) (hm : PySem.W.mroIn X.K C (.type "object") = some true)
    (hb : Binds X.K fd ps []) (hx : Passes CX X (fun _ _ _ => False)) : OpR X (compareOp .NotEq) (rNeI C sp) := by
  intro pins s σ H x y v u Q I rx ry hq
  obtain ⟨a, b, dx, dy, fs, gs, rfl, rfl, ha, hb', hsp⟩ := hq
  cases rx
  cases ry
  show wpAny (model X.prog X.w) X.A (richCompare .NotEq (.ref a) (.ref b)) (EP X pins σ Q) X.xe s
  obtain ⟨mA, J, _⟩ := ins_get I.hok ha
  obtain ⟨mB, J', _⟩ := ins_get I.hok hb'
  obtain ⟨od, J, _⟩ := J.look
  obtain ⟨od', J', _⟩ := J'.look
  refine ne_own (tb := .ref C) (by have := hr.units; omega) I.kIn J J'.type (by simp [PySem.W.notFirst]) hs hf hne hm ?_
  have e0 : Env0 X.prog X.w X.K X.mg X.base X.A.in1 X.stack s H := I.env0.in1
  have hl := F.len _ _ _ _ hsp
  have r2 : Vals [V.ref a, V.ref b] [Value.ref a, Value.ref b] := .cons rfl (.cons rfl .nil)
  refine wpAny_call (codeAny_mono (F.run X.A.in1 X.stack s H ⟨[.ref a, .ref b], []⟩ [.ref a, .ref b] [.ref a, .ref b] _ _ hr.in1 e0 (by
    have := hb s [.ref a, .ref b] I.kIn (by simpa using hl)
    simpa using this) r2 hsp) fun r s' hq => ?_)
  cases r with
  | error e => exact hx pins σ H s e s' I hq
  | ok fl =>
    cases fl with
    | ret w =>
      obtain ⟨z, H', I', rz, c, ez, q⟩ := I.after hq
      subst ez
      cases rz
      exact ⟨c, rfl, .bl (!c), H', I', rfl, q⟩
    | next => exact False.elim hq
    | brk => exact False.elim hq
    | cont => exact False.elim hq
/-- len(x), x an instance whose own __len__ keeps sp -/
def rLenI (C : Addr) (sp : Sp) : List V → Hp → VK → Prop := fun xs H Q => ∃ (a dx : Addr) (fs : List (Str × V)), xs = [.ref a] ∧ H a = some (.ins C dx fs) ∧ sp [.ref a] H (fun v H' => ∃ n : Int, v = .int n ∧ 0 ≤ n ∧ n < 2 ^ 63 ∧ Q (.int n) H') (fun _ _ _ => False)
theorem call_lenI {X : Cx} {CX : CXT} {C f : Addr} {fd : FuncData} {ps : List Str} {sp : Sp} {k : Nat} (F : FnOk X.prog X.w X.K X.mg X.base CX k f fd ps sp) (hr : Room (k + 1) X.A)
    (hs : PySem.W.findIn X.K (.ref C) "__len__" = some (some (.ref f))) (hf : PySem.W.isFn X.K (.ref f) = true) (hb : Binds X.K fd ps []) (hx : Passes CX X (fun _ _ _ => False)) : CallR X (.builtin "len") (rLenI C sp) := by
  intro pins s σ H xs us Q I r h
  obtain ⟨a, dx, fs, rfl, ha, hsp⟩ := h
  rw [Vals.ref1 r]
  obtain ⟨mA, J, _⟩ := ins_get I.hok ha
  obtain ⟨od, J, _⟩ := J.look
  obtain ⟨m, hF⟩ := I.fr
  refine PySem.W.len_K hF I.ok.mod.kin J hs hf ?_
  have e0 : Env0 X.prog X.w X.K X.mg X.base X.A.in1 X.stack s H := I.env0.in1
  have hl := F.len _ _ _ _ hsp
  have r2 : Vals [V.ref a] [Value.ref a] := .cons rfl .nil
  refine wpAny_call (codeAny_mono (F.run X.A.in1 X.stack s H ⟨[.ref a], []⟩ [.ref a] [.ref a] _ _ hr.in1 e0 (by
    have := hb s [.ref a] I.kIn (by simpa using hl)
    simpa using this) r2 hsp) fun r s' hq => ?_)
  cases r with
  | error e => exact hx pins σ H s e s' I hq
  | ok fl =>
    cases fl with
    | ret w =>
      obtain ⟨z, H', I', rz, n, ez, h0, h1, q⟩ := I.after hq
      subst ez
      obtain ⟨t, rfl⟩ := rz
      exact ⟨⟨h0, h1⟩, .int n, H', I'.tok _, ⟨_, rfl⟩, q⟩
    | next => exact False.elim hq
    | brk => exact False.elim hq
    | cont => exact False.elim hq
end K83
namespace K83
open PySem PySem.Spec PyProof.Rows L2
/-- what stands behind the top: the written part K, the module's names -/
structure Tx (K : PySem.W.Frag) (mg : Str → Option Value) : Prop where
  ex : ∃ h : Heap, K.In h ∧ h.Ns mainGlobals mg
  c : SaysY fa fn K
def fdAt (K : PySem.W.Frag) (f : Addr) : FuncData := match K.lookup f with
  | some ⟨_, _, .func fd, _⟩ => fd
  | _ => PySem.W.fnOf "" "" ⟨[], [], none, [], [], none, []⟩ [] ⟨.function, [], false, false, []⟩ .none .none .none .none none .none .none
theorem fdAt_eq {K : PySem.W.Frag} {x qual : Str} {params : Arguments} {body : List Stmt} {scope : Scope} {dvs : List V} {kws : List (Str × V)} {f : Addr} {fd : FuncData} (F : FunD K x qual params body scope dvs kws f fd) :
    FunD K x qual params body scope dvs kws f (fdAt K f) := by
  have e : fdAt K f = fd := by
    obtain ⟨oc, od, dV, kV, doc, pm, an, cdv, ct, osl, _, lk, _⟩ := F.ex
    unfold fdAt
    rw [lk]
  rw [e]
  exact F
theorem Tx.glo {K : PySem.W.Frag} {mg : Str → Option Value} (T : Tx K mg) (x : Str) (i : Nat) (h : fa[i]? = some (.glo x)) : mg x = some (.ref (He.ga K x)) := by
  obtain ⟨h0, X, G⟩ := T.ex
  exact He.glo_ok X G (T.c.d.fact i h)
theorem Tx.free {K : PySem.W.Frag} {mg : Str → Option Value} (T : Tx K mg) (x : Str) (i : Nat) (h : fa[i]? = some (.free x)) : mg x = none := by
  obtain ⟨h0, X, G⟩ := T.ex
  exact He.free_ok X G (T.c.d.fact i h)
theorem Tx.def_ {K : PySem.W.Frag} {mg : Str → Option Value} (T : Tx K mg) (i : Nat) (d : He.DefD) (h : fn[i]? = some d) : FunD K d.name d.qual d.params d.body d.scope (d.dvs K) (d.kws K) (He.fAd K d.at_) (fdAt K (He.fAd K d.at_)) := by
  obtain ⟨fd, F⟩ := T.c.d.def_ i h
  exact fdAt_eq F
/-- the def d keeps the promise sp -/
abbrev Ok (P : Program) (w : World) (K : PySem.W.Frag) (mg : Str → Option Value) (base : Heap) (CX : CXT) (k : Nat) (d : He.DefD) (ps : List Str) (sp : Sp) : Prop := FnOk P w K mg base CX k (He.fAd K d.at_) (fdAt K (He.fAd K d.at_)) ps sp
section
variable {K : PySem.W.Frag} {mg : Str → Option Value}
theorem g_is_whole (T : Tx K mg) : mg "is_whole" = some (.ref (He.ga K "is_whole")) := T.glo "is_whole" 0 rfl
theorem g_is_index (T : Tx K mg) : mg "is_index" = some (.ref (He.ga K "is_index")) := T.glo "is_index" 1 rfl
theorem g_is_door (T : Tx K mg) : mg "is_door" = some (.ref (He.ga K "is_door")) := T.glo "is_door" 2 rfl
theorem g_first_ring (T : Tx K mg) : mg "first_ring" = some (.ref (He.ga K "first_ring")) := T.glo "first_ring" 3 rfl
theorem g_check_house (T : Tx K mg) : mg "check_house" = some (.ref (He.ga K "check_house")) := T.glo "check_house" 4 rfl
theorem g_require_house (T : Tx K mg) : mg "require_house" = some (.ref (He.ga K "require_house")) := T.glo "require_house" 5 rfl
theorem g_require_room (T : Tx K mg) : mg "require_room" = some (.ref (He.ga K "require_room")) := T.glo "require_room" 6 rfl
theorem g_state_fault (T : Tx K mg) : mg "state_fault" = some (.ref (He.ga K "state_fault")) := T.glo "state_fault" 7 rfl
theorem g_require_state (T : Tx K mg) : mg "require_state" = some (.ref (He.ga K "require_state")) := T.glo "require_state" 8 rfl
theorem g_require_person (T : Tx K mg) : mg "require_person" = some (.ref (He.ga K "require_person")) := T.glo "require_person" 9 rfl
theorem g_is_move (T : Tx K mg) : mg "is_move" = some (.ref (He.ga K "is_move")) := T.glo "is_move" 10 rfl
theorem g_plan_fault (T : Tx K mg) : mg "plan_fault" = some (.ref (He.ga K "plan_fault")) := T.glo "plan_fault" 11 rfl
theorem g_require_plan (T : Tx K mg) : mg "require_plan" = some (.ref (He.ga K "require_plan")) := T.glo "require_plan" 12 rfl
theorem g_play (T : Tx K mg) : mg "play" = some (.ref (He.ga K "play")) := T.glo "play" 13 rfl
theorem g_l_cell (T : Tx K mg) : mg "_law_cell" = some (.ref (He.ga K "_law_cell")) := T.glo "_law_cell" 14 rfl
theorem g_l_hash (T : Tx K mg) : mg "_law_hash" = some (.ref (He.ga K "_law_hash")) := T.glo "_law_hash" 15 rfl
theorem g_l_generator (T : Tx K mg) : mg "_law_generator" = some (.ref (He.ga K "_law_generator")) := T.glo "_law_generator" 16 rfl
theorem g_l_random (T : Tx K mg) : mg "_law_random" = some (.ref (He.ga K "_law_random")) := T.glo "_law_random" 17 rfl
theorem g_l_shuffled (T : Tx K mg) : mg "_law_shuffled" = some (.ref (He.ga K "_law_shuffled")) := T.glo "_law_shuffled" 18 rfl
theorem g_l_random_house (T : Tx K mg) : mg "_law_random_house" = some (.ref (He.ga K "_law_random_house")) := T.glo "_law_random_house" 19 rfl
theorem g_l_random_state (T : Tx K mg) : mg "_law_random_state" = some (.ref (He.ga K "_law_random_state")) := T.glo "_law_random_state" 20 rfl
theorem g_l_neighbours (T : Tx K mg) : mg "_law_neighbours" = some (.ref (He.ga K "_law_neighbours")) := T.glo "_law_neighbours" 21 rfl
theorem g_l_moved (T : Tx K mg) : mg "_law_moved" = some (.ref (He.ga K "_law_moved")) := T.glo "_law_moved" 22 rfl
theorem g_l_steps (T : Tx K mg) : mg "_law_steps" = some (.ref (He.ga K "_law_steps")) := T.glo "_law_steps" 23 rfl
theorem g_l_random_steps (T : Tx K mg) : mg "_law_random_steps" = some (.ref (He.ga K "_law_random_steps")) := T.glo "_law_random_steps" 24 rfl
theorem g_l_every_step (T : Tx K mg) : mg "_law_every_step" = some (.ref (He.ga K "_law_every_step")) := T.glo "_law_every_step" 25 rfl
theorem g_l_random_action (T : Tx K mg) : mg "_law_random_action" = some (.ref (He.ga K "_law_random_action")) := T.glo "_law_random_action" 26 rfl
theorem g_l_apply_steps (T : Tx K mg) : mg "_law_apply_steps" = some (.ref (He.ga K "_law_apply_steps")) := T.glo "_law_apply_steps" 27 rfl
theorem g_l_apply_action (T : Tx K mg) : mg "_law_apply_action" = some (.ref (He.ga K "_law_apply_action")) := T.glo "_law_apply_action" 28 rfl
theorem g_l_call_action (T : Tx K mg) : mg "_law_call_action" = some (.ref (He.ga K "_law_call_action")) := T.glo "_law_call_action" 29 rfl
theorem g_l_matches (T : Tx K mg) : mg "_law_matches" = some (.ref (He.ga K "_law_matches")) := T.glo "_law_matches" 30 rfl
theorem g_l_rebuilt_right (T : Tx K mg) : mg "_law_rebuilt_right" = some (.ref (He.ga K "_law_rebuilt_right")) := T.glo "_law_rebuilt_right" 31 rfl
theorem g_law (T : Tx K mg) : mg "law" = some (.ref (He.ga K "law")) := T.glo "law" 32 rfl
theorem g_Tree (T : Tx K mg) : mg "Tree" = some (.ref (He.ga K "Tree")) := T.glo "Tree" 33 rfl
theorem g_Simulation (T : Tx K mg) : mg "Simulation" = some (.ref (He.ga K "Simulation")) := T.glo "Simulation" 34 rfl
theorem g_Session (T : Tx K mg) : mg "Session" = some (.ref (He.ga K "Session")) := T.glo "Session" 35 rfl
theorem g_MoveBlocked (T : Tx K mg) : mg "MoveBlocked" = some (.ref (He.ga K "MoveBlocked")) := T.glo "MoveBlocked" 36 rfl
theorem g_NothingToUndo (T : Tx K mg) : mg "NothingToUndo" = some (.ref (He.ga K "NothingToUndo")) := T.glo "NothingToUndo" 37 rfl
theorem g_LastThroughError (T : Tx K mg) : mg "LastThroughError" = some (.ref (He.ga K "LastThroughError")) := T.glo "LastThroughError" 38 rfl
theorem n_isinstance (T : Tx K mg) : mg "isinstance" = none := T.free "isinstance" 39 rfl
theorem n_len (T : Tx K mg) : mg "len" = none := T.free "len" 40 rfl
theorem n_enumerate (T : Tx K mg) : mg "enumerate" = none := T.free "enumerate" 41 rfl
theorem n_list (T : Tx K mg) : mg "list" = none := T.free "list" 42 rfl
theorem n_range (T : Tx K mg) : mg "range" = none := T.free "range" 43 rfl
theorem n_all (T : Tx K mg) : mg "all" = none := T.free "all" 44 rfl
theorem n_tuple (T : Tx K mg) : mg "tuple" = none := T.free "tuple" 45 rfl
theorem n_max (T : Tx K mg) : mg "max" = none := T.free "max" 46 rfl
theorem n_int (T : Tx K mg) : mg "int" = none := T.free "int" 47 rfl
theorem n_sorted (T : Tx K mg) : mg "sorted" = none := T.free "sorted" 48 rfl
theorem n_bool (T : Tx K mg) : mg "bool" = none := T.free "bool" 49 rfl
theorem n_ValueError (T : Tx K mg) : mg "ValueError" = none := T.free "ValueError" 50 rfl
theorem c_Tree (T : Tx K mg) : Cls K (He.ga K "Tree") := He.cls_ok (T.c.d.fact 51 (f := .cls "Tree") rfl)
theorem k_Tree (T : Tx K mg) : Mk K (He.ga K "Tree") (He.ma K (He.ga K "Tree") "__init__") := He.mkr_ok (T.c.d.fact 52 (f := .mkr "Tree") rfl)
theorem a_Tree_doors (T : Tx K mg) : NoAttr K (He.ga K "Tree") "doors" := He.noat_ok (T.c.d.fact 53 (f := .noat "Tree" "doors") rfl)
theorem a_Tree_size (T : Tx K mg) : NoAttr K (He.ga K "Tree") "size" := He.noat_ok (T.c.d.fact 54 (f := .noat "Tree" "size") rfl)
theorem a_Tree_around (T : Tx K mg) : NoAttr K (He.ga K "Tree") "around" := He.noat_ok (T.c.d.fact 55 (f := .noat "Tree" "around") rfl)
theorem m_Tree_init (T : Tx K mg) : Meth K (He.ga K "Tree") "__init__" (He.ma K (He.ga K "Tree") "__init__") := He.meth_ok (T.c.d.fact 56 (f := .meth "Tree" "__init__") rfl)
theorem m_Tree_door_between (T : Tx K mg) : Meth K (He.ga K "Tree") "door_between" (He.ma K (He.ga K "Tree") "door_between") := He.meth_ok (T.c.d.fact 57 (f := .meth "Tree" "door_between") rfl)
theorem c_Simulation (T : Tx K mg) : Cls K (He.ga K "Simulation") := He.cls_ok (T.c.d.fact 58 (f := .cls "Simulation") rfl)
theorem k_Simulation (T : Tx K mg) : Mk K (He.ga K "Simulation") (He.ma K (He.ga K "Simulation") "__init__") := He.mkr_ok (T.c.d.fact 59 (f := .mkr "Simulation") rfl)
theorem a_Simulation_tree (T : Tx K mg) : NoAttr K (He.ga K "Simulation") "tree" := He.noat_ok (T.c.d.fact 60 (f := .noat "Simulation" "tree") rfl)
theorem a_Simulation_rooms (T : Tx K mg) : NoAttr K (He.ga K "Simulation") "rooms" := He.noat_ok (T.c.d.fact 61 (f := .noat "Simulation" "rooms") rfl)
theorem a_Simulation_barred (T : Tx K mg) : NoAttr K (He.ga K "Simulation") "barred" := He.noat_ok (T.c.d.fact 62 (f := .noat "Simulation" "barred") rfl)
theorem a_Simulation_done (T : Tx K mg) : NoAttr K (He.ga K "Simulation") "done" := He.noat_ok (T.c.d.fact 63 (f := .noat "Simulation" "done") rfl)
theorem m_Simulation_init (T : Tx K mg) : Meth K (He.ga K "Simulation") "__init__" (He.ma K (He.ga K "Simulation") "__init__") := He.meth_ok (T.c.d.fact 64 (f := .meth "Simulation" "__init__") rfl)
theorem m_Simulation_can_go (T : Tx K mg) : Meth K (He.ga K "Simulation") "can_go" (He.ma K (He.ga K "Simulation") "can_go") := He.meth_ok (T.c.d.fact 65 (f := .meth "Simulation" "can_go") rfl)
theorem m_Simulation_go (T : Tx K mg) : Meth K (He.ga K "Simulation") "go" (He.ma K (He.ga K "Simulation") "go") := He.meth_ok (T.c.d.fact 66 (f := .meth "Simulation" "go") rfl)
theorem m_Simulation_state (T : Tx K mg) : Meth K (He.ga K "Simulation") "state" (He.ma K (He.ga K "Simulation") "state") := He.meth_ok (T.c.d.fact 67 (f := .meth "Simulation" "state") rfl)
theorem m_Simulation_block (T : Tx K mg) : Meth K (He.ga K "Simulation") "block" (He.ma K (He.ga K "Simulation") "block") := He.meth_ok (T.c.d.fact 68 (f := .meth "Simulation" "block") rfl)
theorem c_Session (T : Tx K mg) : Cls K (He.ga K "Session") := He.cls_ok (T.c.d.fact 69 (f := .cls "Session") rfl)
theorem k_Session (T : Tx K mg) : Mk K (He.ga K "Session") (He.ma K (He.ga K "Session") "__init__") := He.mkr_ok (T.c.d.fact 70 (f := .mkr "Session") rfl)
theorem a_Session_house (T : Tx K mg) : NoAttr K (He.ga K "Session") "house" := He.noat_ok (T.c.d.fact 71 (f := .noat "Session" "house") rfl)
theorem a_Session_tree (T : Tx K mg) : NoAttr K (He.ga K "Session") "tree" := He.noat_ok (T.c.d.fact 72 (f := .noat "Session" "tree") rfl)
theorem a_Session_current (T : Tx K mg) : NoAttr K (He.ga K "Session") "current" := He.noat_ok (T.c.d.fact 73 (f := .noat "Session" "current") rfl)
theorem a_Session_history (T : Tx K mg) : NoAttr K (He.ga K "Session") "history" := He.noat_ok (T.c.d.fact 74 (f := .noat "Session" "history") rfl)
theorem m_Session_init (T : Tx K mg) : Meth K (He.ga K "Session") "__init__" (He.ma K (He.ga K "Session") "__init__") := He.meth_ok (T.c.d.fact 75 (f := .meth "Session" "__init__") rfl)
theorem m_Session_advance (T : Tx K mg) : Meth K (He.ga K "Session") "advance" (He.ma K (He.ga K "Session") "advance") := He.meth_ok (T.c.d.fact 76 (f := .meth "Session" "advance") rfl)
theorem m_Session_go (T : Tx K mg) : Meth K (He.ga K "Session") "go" (He.ma K (He.ga K "Session") "go") := He.meth_ok (T.c.d.fact 77 (f := .meth "Session" "go") rfl)
theorem m_Session_play (T : Tx K mg) : Meth K (He.ga K "Session") "play" (He.ma K (He.ga K "Session") "play") := He.meth_ok (T.c.d.fact 78 (f := .meth "Session" "play") rfl)
theorem m_Session_undo (T : Tx K mg) : Meth K (He.ga K "Session") "undo" (He.ma K (He.ga K "Session") "undo") := He.meth_ok (T.c.d.fact 79 (f := .meth "Session" "undo") rfl)
theorem m_Session_state (T : Tx K mg) : Meth K (He.ga K "Session") "state" (He.ma K (He.ga K "Session") "state") := He.meth_ok (T.c.d.fact 80 (f := .meth "Session" "state") rfl)
theorem m_Session_moves (T : Tx K mg) : Meth K (He.ga K "Session") "moves" (He.ma K (He.ga K "Session") "moves") := He.meth_ok (T.c.d.fact 81 (f := .meth "Session" "moves") rfl)
theorem m_Session_len (T : Tx K mg) : Meth K (He.ga K "Session") "__len__" (He.ma K (He.ga K "Session") "__len__") := He.meth_ok (T.c.d.fact 82 (f := .meth "Session" "__len__") rfl)
theorem m_Session_eq (T : Tx K mg) : Meth K (He.ga K "Session") "__eq__" (He.ma K (He.ga K "Session") "__eq__") := He.meth_ok (T.c.d.fact 83 (f := .meth "Session" "__eq__") rfl)
theorem a_MoveBlocked_index (T : Tx K mg) : NoAttr K (He.ga K "MoveBlocked") "index" := He.noat_ok (T.c.d.fact 84 (f := .noat "MoveBlocked" "index") rfl)
theorem a_MoveBlocked_reason (T : Tx K mg) : NoAttr K (He.ga K "MoveBlocked") "reason" := He.noat_ok (T.c.d.fact 85 (f := .noat "MoveBlocked" "reason") rfl)
theorem e_NothingToUndo (T : Tx K mg) : PySem.W.excIn K (He.ga K "NothingToUndo") He.veBase "ValueError.__new__" = true ∧ PySem.W.keepIn K (.ref (He.ga K "NothingToUndo")) = true ∧ PySem.W.subIn K (.ref (He.ga K "NothingToUndo")) (.type "BaseException") = some true ∧ PySem.W.typeIn K (.ref (He.ga K "NothingToUndo")) = some (.type "type") := He.exc_ok (T.c.d.fact 86 (f := .exc "NothingToUndo") rfl)
theorem x_MoveBlocked_MoveBlocked (T : Tx K mg) : PySem.W.exmOne K (.ref (He.ga K "MoveBlocked")) (.ref (He.ga K "MoveBlocked")) = some true := He.exm_ok (T.c.d.fact 87 (f := .exm "MoveBlocked" "MoveBlocked" true) rfl)
theorem x_MoveBlocked_NothingToUndo (T : Tx K mg) : PySem.W.exmOne K (.ref (He.ga K "MoveBlocked")) (.ref (He.ga K "NothingToUndo")) = some false := He.exm_ok (T.c.d.fact 88 (f := .exm "MoveBlocked" "NothingToUndo" false) rfl)
theorem x_NothingToUndo_MoveBlocked (T : Tx K mg) : PySem.W.exmOne K (.ref (He.ga K "NothingToUndo")) (.ref (He.ga K "MoveBlocked")) = some false := He.exm_ok (T.c.d.fact 89 (f := .exm "NothingToUndo" "MoveBlocked" false) rfl)
theorem x_NothingToUndo_NothingToUndo (T : Tx K mg) : PySem.W.exmOne K (.ref (He.ga K "NothingToUndo")) (.ref (He.ga K "NothingToUndo")) = some true := He.exm_ok (T.c.d.fact 90 (f := .exm "NothingToUndo" "NothingToUndo" true) rfl)
theorem f_mb_init (T : Tx K mg) : FunD K "__init__" "MoveBlocked.__init__" (defArgs S_mb_init) (defBody S_mb_init) (defScope S_mb_init) [.non, .non] [] (He.fAd K d_mb_init.at_) (fdAt K (He.fAd K d_mb_init.at_)) := T.def_ 0 d_mb_init rfl
theorem f_is_whole (T : Tx K mg) : FunD K "is_whole" "is_whole" (defArgs S_is_whole) (defBody S_is_whole) (defScope S_is_whole) [] [] (He.fAd K d_is_whole.at_) (fdAt K (He.fAd K d_is_whole.at_)) := T.def_ 1 d_is_whole rfl
theorem b_is_whole (T : Tx K mg) : Binds K (fdAt K (He.fAd K d_is_whole.at_)) ["value"] [] := (f_is_whole T).bindsN fun _ _ _ _ _ _ us hl => match us, hl with | [_], _ => rfl
theorem f_is_index (T : Tx K mg) : FunD K "is_index" "is_index" (defArgs S_is_index) (defBody S_is_index) (defScope S_is_index) [] [] (He.fAd K d_is_index.at_) (fdAt K (He.fAd K d_is_index.at_)) := T.def_ 2 d_is_index rfl
theorem b_is_index (T : Tx K mg) : Binds K (fdAt K (He.fAd K d_is_index.at_)) ["value", "count"] [] := (f_is_index T).bindsN fun _ _ _ _ _ _ us hl => match us, hl with | [_, _], _ => rfl
theorem f_is_door (T : Tx K mg) : FunD K "is_door" "is_door" (defArgs S_is_door) (defBody S_is_door) (defScope S_is_door) [] [] (He.fAd K d_is_door.at_) (fdAt K (He.fAd K d_is_door.at_)) := T.def_ 3 d_is_door rfl
theorem b_is_door (T : Tx K mg) : Binds K (fdAt K (He.fAd K d_is_door.at_)) ["value", "size"] [] := (f_is_door T).bindsN fun _ _ _ _ _ _ us hl => match us, hl with | [_, _], _ => rfl
theorem f_first_ring (T : Tx K mg) : FunD K "first_ring" "first_ring" (defArgs S_first_ring) (defBody S_first_ring) (defScope S_first_ring) [] [] (He.fAd K d_first_ring.at_) (fdAt K (He.fAd K d_first_ring.at_)) := T.def_ 4 d_first_ring rfl
theorem b_first_ring (T : Tx K mg) : Binds K (fdAt K (He.fAd K d_first_ring.at_)) ["house"] [] := (f_first_ring T).bindsN fun _ _ _ _ _ _ us hl => match us, hl with | [_], _ => rfl
theorem f_check_house (T : Tx K mg) : FunD K "check_house" "check_house" (defArgs S_check_house) (defBody S_check_house) (defScope S_check_house) [] [] (He.fAd K d_check_house.at_) (fdAt K (He.fAd K d_check_house.at_)) := T.def_ 5 d_check_house rfl
theorem b_check_house (T : Tx K mg) : Binds K (fdAt K (He.fAd K d_check_house.at_)) ["value"] [] := (f_check_house T).bindsN fun _ _ _ _ _ _ us hl => match us, hl with | [_], _ => rfl
theorem f_require_house (T : Tx K mg) : FunD K "require_house" "require_house" (defArgs S_require_house) (defBody S_require_house) (defScope S_require_house) [] [] (He.fAd K d_require_house.at_) (fdAt K (He.fAd K d_require_house.at_)) := T.def_ 6 d_require_house rfl
theorem b_require_house (T : Tx K mg) : Binds K (fdAt K (He.fAd K d_require_house.at_)) ["house"] [] := (f_require_house T).bindsN fun _ _ _ _ _ _ us hl => match us, hl with | [_], _ => rfl
theorem f_require_room (T : Tx K mg) : FunD K "require_room" "require_room" (defArgs S_require_room) (defBody S_require_room) (defScope S_require_room) [] [] (He.fAd K d_require_room.at_) (fdAt K (He.fAd K d_require_room.at_)) := T.def_ 7 d_require_room rfl
theorem b_require_room (T : Tx K mg) : Binds K (fdAt K (He.fAd K d_require_room.at_)) ["house", "room"] [] := (f_require_room T).bindsN fun _ _ _ _ _ _ us hl => match us, hl with | [_, _], _ => rfl
theorem f_t_init (T : Tx K mg) : FunD K "__init__" "Tree.__init__" (defArgs S_t_init) (defBody S_t_init) (defScope S_t_init) [] [] (He.fAd K d_t_init.at_) (fdAt K (He.fAd K d_t_init.at_)) := T.def_ 8 d_t_init rfl
theorem b_t_init (T : Tx K mg) : Binds K (fdAt K (He.fAd K d_t_init.at_)) ["self", "house"] [] := (f_t_init T).bindsN fun _ _ _ _ _ _ us hl => match us, hl with | [_, _], _ => rfl
theorem f_t_door_between (T : Tx K mg) : FunD K "door_between" "Tree.door_between" (defArgs S_t_door_between) (defBody S_t_door_between) (defScope S_t_door_between) [] [] (He.fAd K d_t_door_between.at_) (fdAt K (He.fAd K d_t_door_between.at_)) := T.def_ 9 d_t_door_between rfl
theorem b_t_door_between (T : Tx K mg) : Binds K (fdAt K (He.fAd K d_t_door_between.at_)) ["self", "a", "b"] [] := (f_t_door_between T).bindsN fun _ _ _ _ _ _ us hl => match us, hl with | [_, _, _], _ => rfl
theorem f_state_fault (T : Tx K mg) : FunD K "state_fault" "state_fault" (defArgs S_state_fault) (defBody S_state_fault) (defScope S_state_fault) [] [] (He.fAd K d_state_fault.at_) (fdAt K (He.fAd K d_state_fault.at_)) := T.def_ 10 d_state_fault rfl
theorem b_state_fault (T : Tx K mg) : Binds K (fdAt K (He.fAd K d_state_fault.at_)) ["house", "value"] [] := (f_state_fault T).bindsN fun _ _ _ _ _ _ us hl => match us, hl with | [_, _], _ => rfl
theorem f_require_state (T : Tx K mg) : FunD K "require_state" "require_state" (defArgs S_require_state) (defBody S_require_state) (defScope S_require_state) [] [] (He.fAd K d_require_state.at_) (fdAt K (He.fAd K d_require_state.at_)) := T.def_ 11 d_require_state rfl
theorem b_require_state (T : Tx K mg) : Binds K (fdAt K (He.fAd K d_require_state.at_)) ["house", "state"] [] := (f_require_state T).bindsN fun _ _ _ _ _ _ us hl => match us, hl with | [_, _], _ => rfl
theorem f_require_person (T : Tx K mg) : FunD K "require_person" "require_person" (defArgs S_require_person) (defBody S_require_person) (defScope S_require_person) [] [] (He.fAd K d_require_person.at_) (fdAt K (He.fAd K d_require_person.at_)) := T.def_ 12 d_require_person rfl
theorem b_require_person (T : Tx K mg) : Binds K (fdAt K (He.fAd K d_require_person.at_)) ["state", "person"] [] := (f_require_person T).bindsN fun _ _ _ _ _ _ us hl => match us, hl with | [_, _], _ => rfl
theorem f_is_move (T : Tx K mg) : FunD K "is_move" "is_move" (defArgs S_is_move) (defBody S_is_move) (defScope S_is_move) [] [] (He.fAd K d_is_move.at_) (fdAt K (He.fAd K d_is_move.at_)) := T.def_ 13 d_is_move rfl
theorem b_is_move (T : Tx K mg) : Binds K (fdAt K (He.fAd K d_is_move.at_)) ["house", "people", "value"] [] := (f_is_move T).bindsN fun _ _ _ _ _ _ us hl => match us, hl with | [_, _, _], _ => rfl
theorem f_plan_fault (T : Tx K mg) : FunD K "plan_fault" "plan_fault" (defArgs S_plan_fault) (defBody S_plan_fault) (defScope S_plan_fault) [] [] (He.fAd K d_plan_fault.at_) (fdAt K (He.fAd K d_plan_fault.at_)) := T.def_ 14 d_plan_fault rfl
theorem b_plan_fault (T : Tx K mg) : Binds K (fdAt K (He.fAd K d_plan_fault.at_)) ["house", "people", "value"] [] := (f_plan_fault T).bindsN fun _ _ _ _ _ _ us hl => match us, hl with | [_, _, _], _ => rfl
theorem f_require_plan (T : Tx K mg) : FunD K "require_plan" "require_plan" (defArgs S_require_plan) (defBody S_require_plan) (defScope S_require_plan) [] [] (He.fAd K d_require_plan.at_) (fdAt K (He.fAd K d_require_plan.at_)) := T.def_ 15 d_require_plan rfl
theorem b_require_plan (T : Tx K mg) : Binds K (fdAt K (He.fAd K d_require_plan.at_)) ["house", "people", "plan"] [] := (f_require_plan T).bindsN fun _ _ _ _ _ _ us hl => match us, hl with | [_, _, _], _ => rfl
theorem f_s_init (T : Tx K mg) : FunD K "__init__" "Simulation.__init__" (defArgs S_s_init) (defBody S_s_init) (defScope S_s_init) [] [] (He.fAd K d_s_init.at_) (fdAt K (He.fAd K d_s_init.at_)) := T.def_ 16 d_s_init rfl
theorem b_s_init (T : Tx K mg) : Binds K (fdAt K (He.fAd K d_s_init.at_)) ["self", "tree", "state"] [] := (f_s_init T).bindsN fun _ _ _ _ _ _ us hl => match us, hl with | [_, _, _], _ => rfl
theorem f_s_can_go (T : Tx K mg) : FunD K "can_go" "Simulation.can_go" (defArgs S_s_can_go) (defBody S_s_can_go) (defScope S_s_can_go) [] [] (He.fAd K d_s_can_go.at_) (fdAt K (He.fAd K d_s_can_go.at_)) := T.def_ 17 d_s_can_go rfl
theorem b_s_can_go (T : Tx K mg) : Binds K (fdAt K (He.fAd K d_s_can_go.at_)) ["self", "person", "room"] [] := (f_s_can_go T).bindsN fun _ _ _ _ _ _ us hl => match us, hl with | [_, _, _], _ => rfl
theorem f_s_go (T : Tx K mg) : FunD K "go" "Simulation.go" (defArgs S_s_go) (defBody S_s_go) (defScope S_s_go) [] [] (He.fAd K d_s_go.at_) (fdAt K (He.fAd K d_s_go.at_)) := T.def_ 18 d_s_go rfl
theorem b_s_go (T : Tx K mg) : Binds K (fdAt K (He.fAd K d_s_go.at_)) ["self", "person", "room"] [] := (f_s_go T).bindsN fun _ _ _ _ _ _ us hl => match us, hl with | [_, _, _], _ => rfl
theorem f_s_state (T : Tx K mg) : FunD K "state" "Simulation.state" (defArgs S_s_state) (defBody S_s_state) (defScope S_s_state) [] [] (He.fAd K d_s_state.at_) (fdAt K (He.fAd K d_s_state.at_)) := T.def_ 19 d_s_state rfl
theorem b_s_state (T : Tx K mg) : Binds K (fdAt K (He.fAd K d_s_state.at_)) ["self"] [] := (f_s_state T).bindsN fun _ _ _ _ _ _ us hl => match us, hl with | [_], _ => rfl
theorem f_s_block (T : Tx K mg) : FunD K "block" "Simulation.block" (defArgs S_s_block) (defBody S_s_block) (defScope S_s_block) [] [] (He.fAd K d_s_block.at_) (fdAt K (He.fAd K d_s_block.at_)) := T.def_ 20 d_s_block rfl
theorem b_s_block (T : Tx K mg) : Binds K (fdAt K (He.fAd K d_s_block.at_)) ["self", "plan"] [] := (f_s_block T).bindsN fun _ _ _ _ _ _ us hl => match us, hl with | [_, _], _ => rfl
theorem f_play (T : Tx K mg) : FunD K "play" "play" (defArgs S_play) (defBody S_play) (defScope S_play) [] [] (He.fAd K d_play.at_) (fdAt K (He.fAd K d_play.at_)) := T.def_ 21 d_play rfl
theorem b_play (T : Tx K mg) : Binds K (fdAt K (He.fAd K d_play.at_)) ["house", "state", "plan"] [] := (f_play T).bindsN fun _ _ _ _ _ _ us hl => match us, hl with | [_, _, _], _ => rfl
theorem f_x_init (T : Tx K mg) : FunD K "__init__" "Session.__init__" (defArgs S_x_init) (defBody S_x_init) (defScope S_x_init) [] [] (He.fAd K d_x_init.at_) (fdAt K (He.fAd K d_x_init.at_)) := T.def_ 22 d_x_init rfl
theorem b_x_init (T : Tx K mg) : Binds K (fdAt K (He.fAd K d_x_init.at_)) ["self", "house", "state"] [] := (f_x_init T).bindsN fun _ _ _ _ _ _ us hl => match us, hl with | [_, _, _], _ => rfl
theorem f_x_advance (T : Tx K mg) : FunD K "advance" "Session.advance" (defArgs S_x_advance) (defBody S_x_advance) (defScope S_x_advance) [] [] (He.fAd K d_x_advance.at_) (fdAt K (He.fAd K d_x_advance.at_)) := T.def_ 23 d_x_advance rfl
theorem b_x_advance (T : Tx K mg) : Binds K (fdAt K (He.fAd K d_x_advance.at_)) ["self", "plan"] [] := (f_x_advance T).bindsN fun _ _ _ _ _ _ us hl => match us, hl with | [_, _], _ => rfl
theorem f_x_go (T : Tx K mg) : FunD K "go" "Session.go" (defArgs S_x_go) (defBody S_x_go) (defScope S_x_go) [] [] (He.fAd K d_x_go.at_) (fdAt K (He.fAd K d_x_go.at_)) := T.def_ 24 d_x_go rfl
theorem b_x_go (T : Tx K mg) : Binds K (fdAt K (He.fAd K d_x_go.at_)) ["self", "person", "room"] [] := (f_x_go T).bindsN fun _ _ _ _ _ _ us hl => match us, hl with | [_, _, _], _ => rfl
theorem f_x_play (T : Tx K mg) : FunD K "play" "Session.play" (defArgs S_x_play) (defBody S_x_play) (defScope S_x_play) [] [] (He.fAd K d_x_play.at_) (fdAt K (He.fAd K d_x_play.at_)) := T.def_ 25 d_x_play rfl
theorem b_x_play (T : Tx K mg) : Binds K (fdAt K (He.fAd K d_x_play.at_)) ["self", "plan"] [] := (f_x_play T).bindsN fun _ _ _ _ _ _ us hl => match us, hl with | [_, _], _ => rfl
theorem f_x_undo (T : Tx K mg) : FunD K "undo" "Session.undo" (defArgs S_x_undo) (defBody S_x_undo) (defScope S_x_undo) [] [] (He.fAd K d_x_undo.at_) (fdAt K (He.fAd K d_x_undo.at_)) := T.def_ 26 d_x_undo rfl
theorem b_x_undo (T : Tx K mg) : Binds K (fdAt K (He.fAd K d_x_undo.at_)) ["self"] [] := (f_x_undo T).bindsN fun _ _ _ _ _ _ us hl => match us, hl with | [_], _ => rfl
theorem f_x_state (T : Tx K mg) : FunD K "state" "Session.state" (defArgs S_x_state) (defBody S_x_state) (defScope S_x_state) [] [] (He.fAd K d_x_state.at_) (fdAt K (He.fAd K d_x_state.at_)) := T.def_ 27 d_x_state rfl
theorem b_x_state (T : Tx K mg) : Binds K (fdAt K (He.fAd K d_x_state.at_)) ["self"] [] := (f_x_state T).bindsN fun _ _ _ _ _ _ us hl => match us, hl with | [_], _ => rfl
theorem f_x_moves (T : Tx K mg) : FunD K "moves" "Session.moves" (defArgs S_x_moves) (defBody S_x_moves) (defScope S_x_moves) [] [] (He.fAd K d_x_moves.at_) (fdAt K (He.fAd K d_x_moves.at_)) := T.def_ 28 d_x_moves rfl
theorem b_x_moves (T : Tx K mg) : Binds K (fdAt K (He.fAd K d_x_moves.at_)) ["self"] [] := (f_x_moves T).bindsN fun _ _ _ _ _ _ us hl => match us, hl with | [_], _ => rfl
theorem f_x_len (T : Tx K mg) : FunD K "__len__" "Session.__len__" (defArgs S_x_len) (defBody S_x_len) (defScope S_x_len) [] [] (He.fAd K d_x_len.at_) (fdAt K (He.fAd K d_x_len.at_)) := T.def_ 29 d_x_len rfl
theorem b_x_len (T : Tx K mg) : Binds K (fdAt K (He.fAd K d_x_len.at_)) ["self"] [] := (f_x_len T).bindsN fun _ _ _ _ _ _ us hl => match us, hl with | [_], _ => rfl
theorem f_x_eq (T : Tx K mg) : FunD K "__eq__" "Session.__eq__" (defArgs S_x_eq) (defBody S_x_eq) (defScope S_x_eq) [] [] (He.fAd K d_x_eq.at_) (fdAt K (He.fAd K d_x_eq.at_)) := T.def_ 30 d_x_eq rfl
theorem b_x_eq (T : Tx K mg) : Binds K (fdAt K (He.fAd K d_x_eq.at_)) ["self", "other"] [] := (f_x_eq T).bindsN fun _ _ _ _ _ _ us hl => match us, hl with | [_, _], _ => rfl
theorem f_l_cell (T : Tx K mg) : FunD K "_law_cell" "_law_cell" (defArgs S_l_cell) (defBody S_l_cell) (defScope S_l_cell) [] [] (He.fAd K d_l_cell.at_) (fdAt K (He.fAd K d_l_cell.at_)) := T.def_ 31 d_l_cell rfl
theorem b_l_cell (T : Tx K mg) : Binds K (fdAt K (He.fAd K d_l_cell.at_)) ["_law_script", "_law_index"] [] := (f_l_cell T).bindsN fun _ _ _ _ _ _ us hl => match us, hl with | [_, _], _ => rfl
theorem f_l_hash (T : Tx K mg) : FunD K "_law_hash" "_law_hash" (defArgs S_l_hash) (defBody S_l_hash) (defScope S_l_hash) [] [] (He.fAd K d_l_hash.at_) (fdAt K (He.fAd K d_l_hash.at_)) := T.def_ 32 d_l_hash rfl
theorem b_l_hash (T : Tx K mg) : Binds K (fdAt K (He.fAd K d_l_hash.at_)) ["_law_seed", "_law_index"] [] := (f_l_hash T).bindsN fun _ _ _ _ _ _ us hl => match us, hl with | [_, _], _ => rfl
theorem f_l_generator (T : Tx K mg) : FunD K "_law_generator" "_law_generator" (defArgs S_l_generator) (defBody S_l_generator) (defScope S_l_generator) [] [] (He.fAd K d_l_generator.at_) (fdAt K (He.fAd K d_l_generator.at_)) := T.def_ 33 d_l_generator rfl
theorem b_l_generator (T : Tx K mg) : Binds K (fdAt K (He.fAd K d_l_generator.at_)) ["_law_script", "_law_index"] [] := (f_l_generator T).bindsN fun _ _ _ _ _ _ us hl => match us, hl with | [_, _], _ => rfl
theorem f_l_random (T : Tx K mg) : FunD K "_law_random" "_law_random" (defArgs S_l_random) (defBody S_l_random) (defScope S_l_random) [] [] (He.fAd K d_l_random.at_) (fdAt K (He.fAd K d_l_random.at_)) := T.def_ 34 d_l_random rfl
theorem b_l_random (T : Tx K mg) : Binds K (fdAt K (He.fAd K d_l_random.at_)) ["_law_generator_here", "_law_bound"] [] := (f_l_random T).bindsN fun _ _ _ _ _ _ us hl => match us, hl with | [_, _], _ => rfl
theorem f_l_shuffled (T : Tx K mg) : FunD K "_law_shuffled" "_law_shuffled" (defArgs S_l_shuffled) (defBody S_l_shuffled) (defScope S_l_shuffled) [] [] (He.fAd K d_l_shuffled.at_) (fdAt K (He.fAd K d_l_shuffled.at_)) := T.def_ 35 d_l_shuffled rfl
theorem b_l_shuffled (T : Tx K mg) : Binds K (fdAt K (He.fAd K d_l_shuffled.at_)) ["_law_generator_here", "_law_items"] [] := (f_l_shuffled T).bindsN fun _ _ _ _ _ _ us hl => match us, hl with | [_, _], _ => rfl
theorem f_l_random_house (T : Tx K mg) : FunD K "_law_random_house" "_law_random_house" (defArgs S_l_random_house) (defBody S_l_random_house) (defScope S_l_random_house) [] [] (He.fAd K d_l_random_house.at_) (fdAt K (He.fAd K d_l_random_house.at_)) := T.def_ 36 d_l_random_house rfl
theorem b_l_random_house (T : Tx K mg) : Binds K (fdAt K (He.fAd K d_l_random_house.at_)) ["_law_generator_here", "_law_most"] [] := (f_l_random_house T).bindsN fun _ _ _ _ _ _ us hl => match us, hl with | [_, _], _ => rfl
theorem f_l_random_state (T : Tx K mg) : FunD K "_law_random_state" "_law_random_state" (defArgs S_l_random_state) (defBody S_l_random_state) (defScope S_l_random_state) [] [] (He.fAd K d_l_random_state.at_) (fdAt K (He.fAd K d_l_random_state.at_)) := T.def_ 37 d_l_random_state rfl
theorem b_l_random_state (T : Tx K mg) : Binds K (fdAt K (He.fAd K d_l_random_state.at_)) ["_law_generator_here", "_law_doors", "_law_people"] [] := (f_l_random_state T).bindsN fun _ _ _ _ _ _ us hl => match us, hl with | [_, _, _], _ => rfl
theorem f_l_neighbours (T : Tx K mg) : FunD K "_law_neighbours" "_law_neighbours" (defArgs S_l_neighbours) (defBody S_l_neighbours) (defScope S_l_neighbours) [] [] (He.fAd K d_l_neighbours.at_) (fdAt K (He.fAd K d_l_neighbours.at_)) := T.def_ 38 d_l_neighbours rfl
theorem b_l_neighbours (T : Tx K mg) : Binds K (fdAt K (He.fAd K d_l_neighbours.at_)) ["_law_doors", "_law_place"] [] := (f_l_neighbours T).bindsN fun _ _ _ _ _ _ us hl => match us, hl with | [_, _], _ => rfl
theorem f_l_moved (T : Tx K mg) : FunD K "_law_moved" "_law_moved" (defArgs S_l_moved) (defBody S_l_moved) (defScope S_l_moved) [] [] (He.fAd K d_l_moved.at_) (fdAt K (He.fAd K d_l_moved.at_)) := T.def_ 39 d_l_moved rfl
theorem b_l_moved (T : Tx K mg) : Binds K (fdAt K (He.fAd K d_l_moved.at_)) ["_law_doors", "_law_position", "_law_step"] [] := (f_l_moved T).bindsN fun _ _ _ _ _ _ us hl => match us, hl with | [_, _, _], _ => rfl
theorem f_l_steps (T : Tx K mg) : FunD K "_law_steps" "_law_steps" (defArgs S_l_steps) (defBody S_l_steps) (defScope S_l_steps) [] [] (He.fAd K d_l_steps.at_) (fdAt K (He.fAd K d_l_steps.at_)) := T.def_ 40 d_l_steps rfl
theorem b_l_steps (T : Tx K mg) : Binds K (fdAt K (He.fAd K d_l_steps.at_)) ["_law_doors", "_law_position"] [] := (f_l_steps T).bindsN fun _ _ _ _ _ _ us hl => match us, hl with | [_, _], _ => rfl
theorem f_l_random_steps (T : Tx K mg) : FunD K "_law_random_steps" "_law_random_steps" (defArgs S_l_random_steps) (defBody S_l_random_steps) (defScope S_l_random_steps) [] [] (He.fAd K d_l_random_steps.at_) (fdAt K (He.fAd K d_l_random_steps.at_)) := T.def_ 41 d_l_random_steps rfl
theorem b_l_random_steps (T : Tx K mg) : Binds K (fdAt K (He.fAd K d_l_random_steps.at_)) ["_law_generator_here", "_law_doors", "_law_position", "_law_most"] [] := (f_l_random_steps T).bindsN fun _ _ _ _ _ _ us hl => match us, hl with | [_, _, _, _], _ => rfl
theorem f_l_every_step (T : Tx K mg) : FunD K "_law_every_step" "_law_every_step" (defArgs S_l_every_step) (defBody S_l_every_step) (defScope S_l_every_step) [] [] (He.fAd K d_l_every_step.at_) (fdAt K (He.fAd K d_l_every_step.at_)) := T.def_ 42 d_l_every_step rfl
theorem b_l_every_step (T : Tx K mg) : Binds K (fdAt K (He.fAd K d_l_every_step.at_)) ["_law_doors", "_law_people"] [] := (f_l_every_step T).bindsN fun _ _ _ _ _ _ us hl => match us, hl with | [_, _], _ => rfl
theorem f_l_random_action (T : Tx K mg) : FunD K "_law_random_action" "_law_random_action" (defArgs S_l_random_action) (defBody S_l_random_action) (defScope S_l_random_action) [] [] (He.fAd K d_l_random_action.at_) (fdAt K (He.fAd K d_l_random_action.at_)) := T.def_ 43 d_l_random_action rfl
theorem b_l_random_action (T : Tx K mg) : Binds K (fdAt K (He.fAd K d_l_random_action.at_)) ["_law_generator_here", "_law_model"] [] := (f_l_random_action T).bindsN fun _ _ _ _ _ _ us hl => match us, hl with | [_, _], _ => rfl
theorem f_l_apply_steps (T : Tx K mg) : FunD K "_law_apply_steps" "_law_apply_steps" (defArgs S_l_apply_steps) (defBody S_l_apply_steps) (defScope S_l_apply_steps) [] [] (He.fAd K d_l_apply_steps.at_) (fdAt K (He.fAd K d_l_apply_steps.at_)) := T.def_ 44 d_l_apply_steps rfl
theorem b_l_apply_steps (T : Tx K mg) : Binds K (fdAt K (He.fAd K d_l_apply_steps.at_)) ["_law_doors", "_law_position", "_law_steps_here"] [] := (f_l_apply_steps T).bindsN fun _ _ _ _ _ _ us hl => match us, hl with | [_, _, _], _ => rfl
theorem f_l_apply_action (T : Tx K mg) : FunD K "_law_apply_action" "_law_apply_action" (defArgs S_l_apply_action) (defBody S_l_apply_action) (defScope S_l_apply_action) [] [] (He.fAd K d_l_apply_action.at_) (fdAt K (He.fAd K d_l_apply_action.at_)) := T.def_ 45 d_l_apply_action rfl
theorem b_l_apply_action (T : Tx K mg) : Binds K (fdAt K (He.fAd K d_l_apply_action.at_)) ["_law_model", "_law_action"] [] := (f_l_apply_action T).bindsN fun _ _ _ _ _ _ us hl => match us, hl with | [_, _], _ => rfl
theorem f_l_call_action (T : Tx K mg) : FunD K "_law_call_action" "_law_call_action" (defArgs S_l_call_action) (defBody S_l_call_action) (defScope S_l_call_action) [] [] (He.fAd K d_l_call_action.at_) (fdAt K (He.fAd K d_l_call_action.at_)) := T.def_ 46 d_l_call_action rfl
theorem b_l_call_action (T : Tx K mg) : Binds K (fdAt K (He.fAd K d_l_call_action.at_)) ["_law_session", "_law_action"] [] := (f_l_call_action T).bindsN fun _ _ _ _ _ _ us hl => match us, hl with | [_, _], _ => rfl
theorem f_l_matches (T : Tx K mg) : FunD K "_law_matches" "_law_matches" (defArgs S_l_matches) (defBody S_l_matches) (defScope S_l_matches) [] [] (He.fAd K d_l_matches.at_) (fdAt K (He.fAd K d_l_matches.at_)) := T.def_ 47 d_l_matches rfl
theorem b_l_matches (T : Tx K mg) : Binds K (fdAt K (He.fAd K d_l_matches.at_)) ["_law_session", "_law_model"] [] := (f_l_matches T).bindsN fun _ _ _ _ _ _ us hl => match us, hl with | [_, _], _ => rfl
theorem f_l_rebuilt_right (T : Tx K mg) : FunD K "_law_rebuilt_right" "_law_rebuilt_right" (defArgs S_l_rebuilt_right) (defBody S_l_rebuilt_right) (defScope S_l_rebuilt_right) [] [] (He.fAd K d_l_rebuilt_right.at_) (fdAt K (He.fAd K d_l_rebuilt_right.at_)) := T.def_ 48 d_l_rebuilt_right rfl
theorem b_l_rebuilt_right (T : Tx K mg) : Binds K (fdAt K (He.fAd K d_l_rebuilt_right.at_)) ["_law_doors", "_law_position", "_law_session"] [] := (f_l_rebuilt_right T).bindsN fun _ _ _ _ _ _ us hl => match us, hl with | [_, _, _], _ => rfl
theorem f_law (T : Tx K mg) : FunD K "law" "law" (defArgs S_law) (defBody S_law) (defScope S_law) [] [] (He.fAd K d_law.at_) (fdAt K (He.fAd K d_law.at_)) := T.def_ 49 d_law rfl
theorem b_law (T : Tx K mg) : Binds K (fdAt K (He.fAd K d_law.at_)) ["_law_script"] [] := (f_law T).bindsN fun _ _ _ _ _ _ us hl => match us, hl with | [_], _ => rfl
/-! ### the facts of exAll -/
theorem exOne_ok {x : Str} (h : exOne K x = true) :
    OexC K (He.ga K x) ∧ XfC K (He.ga K x) ∧ PySem.W.findIn K (.ref (He.ga K x)) "__class__" = some (some (.builtin "object.__class__")) ∧ PySem.W.mroIn K (He.ga K x) (.type "object") = some true := by
  unfold exOne at h
  obtain ⟨h1, h⟩ := He.ba h
  obtain ⟨h2, h⟩ := He.ba h
  obtain ⟨h3, h⟩ := He.ba h
  obtain ⟨h4, h⟩ := He.ba h
  obtain ⟨h5, h⟩ := He.ba h
  obtain ⟨h6, h⟩ := He.ba h
  obtain ⟨h7, h⟩ := He.ba h
  obtain ⟨h8, h⟩ := He.ba h
  obtain ⟨h9, h10⟩ := He.ba h
  exact ⟨⟨oexB_ok h1, He.eqO_ok h2, of_decide_eq_true h3, of_decide_eq_true h4, h5⟩, ⟨He.eqO_ok h6, He.eqO_ok h7, of_decide_eq_true h3, h8⟩, He.eqO_ok h9, of_decide_eq_true h10⟩
structure Exs (K : PySem.W.Frag) : Prop where
  mb : exOne K "MoveBlocked" = true
  nu : exOne K "NothingToUndo" = true
  iM : PySem.W.findIn K (.ref (He.ga K "MoveBlocked")) "__init__" = some (some (.ref (He.ma K (He.ga K "MoveBlocked") "__init__")))
  tM : PySem.W.typeIn K (.ref (He.ma K (He.ga K "MoveBlocked") "__init__")) = some (.type "function")
  sp : PySem.W.specialIn K (.builtin "object.__class__") "__get__" = some (some (.builtin "getset_descriptor.__get__"))
  tk : PySem.W.takesIn K (.builtin "object.__class__") = some true
  ba : BaseC K (He.ga K "LastThroughError")
  ne : PySem.W.findIn K (.ref (He.ga K "Session")) "__ne__" = some (some (.builtin "object.__ne__"))
  mS : PySem.W.mroIn K (He.ga K "Session") (.type "object") = some true
  cS : PySem.W.findIn K (.ref (He.ga K "Session")) "__class__" = some (some (.builtin "object.__class__"))
  kS : PySem.W.kitOne K (.ref (He.ga K "Session")) (.ref (He.ga K "Session")) = some true
  kMM : PySem.W.kitOne K (.ref (He.ga K "MoveBlocked")) (.ref (He.ga K "MoveBlocked")) = some true
  kMN : PySem.W.kitOne K (.ref (He.ga K "MoveBlocked")) (.ref (He.ga K "NothingToUndo")) = some false
  kNN : PySem.W.kitOne K (.ref (He.ga K "NothingToUndo")) (.ref (He.ga K "NothingToUndo")) = some true
  k0N : PySem.W.kitOne K (.type "NoneType") (.ref (He.ga K "NothingToUndo")) = some false
  k0M : PySem.W.kitOne K (.type "NoneType") (.ref (He.ga K "MoveBlocked")) = some false
theorem Tx.exs (T : Tx K mg) : Exs K := by
  have h : exAll K = true := T.c.x
  unfold exAll at h
  obtain ⟨h1, h⟩ := He.ba h
  obtain ⟨h2, h⟩ := He.ba h
  obtain ⟨h3, h⟩ := He.ba h
  obtain ⟨h4, h⟩ := He.ba h
  obtain ⟨h5, h⟩ := He.ba h
  obtain ⟨h6, h⟩ := He.ba h
  obtain ⟨h7, h⟩ := He.ba h
  obtain ⟨h8, h⟩ := He.ba h
  obtain ⟨h9, h⟩ := He.ba h
  obtain ⟨h10, h⟩ := He.ba h
  obtain ⟨h11, h⟩ := He.ba h
  obtain ⟨h12, h⟩ := He.ba h
  obtain ⟨h13, h⟩ := He.ba h
  obtain ⟨h14, h⟩ := He.ba h
  obtain ⟨h15, h⟩ := He.ba h
  obtain ⟨h16, h⟩ := He.ba h
  obtain ⟨h17, h⟩ := He.ba h
  obtain ⟨h18, h⟩ := He.ba h
  obtain ⟨h19, h20⟩ := He.ba h
  exact ⟨h1, h2, He.eqO_ok h4, of_decide_eq_true h5, of_decide_eq_true h6, of_decide_eq_true h7, ⟨h9, of_decide_eq_true h10, cfB_ok h8⟩, He.eqO_ok h11, of_decide_eq_true h12, He.eqO_ok h13, of_decide_eq_true h15,
    of_decide_eq_true h16, of_decide_eq_true h17, of_decide_eq_true h18, of_decide_eq_true h19, of_decide_eq_true h20⟩
theorem Exs.ecM (T : Exs K) : ExcC K (He.ga K "MoveBlocked") := by
  obtain ⟨_, x, c, m⟩ := exOne_ok T.mb
  exact ⟨x.ga, x.gg, x.exC, x.hdC, c, T.sp, T.tk, m⟩
theorem Exs.ecN (T : Exs K) : ExcC K (He.ga K "NothingToUndo") := by
  obtain ⟨_, x, c, m⟩ := exOne_ok T.nu
  exact ⟨x.ga, x.gg, x.exC, x.hdC, c, T.sp, T.tk, m⟩
end
end K83
/-! data that stays, short steps -/
namespace K83
open PySem PySem.Spec PyProof.Rows L2
/-! ### tuples stay -/
def TK (H H' : Hp) : Prop := ∀ b xs, Rd H b (.tup xs) → Rd H' b (.tup xs)
theorem TK.refl (H : Hp) : TK H H := fun _ _ h => h
theorem TK.trans {H H1 H2 : Hp} (a : TK H H1) (b : TK H1 H2) : TK H H2 := fun c xs h => b c xs (a c xs h)
theorem TK.but {H H' : Hp} {p : Addr} (hp : ∀ xs, ¬ Rd H p (.tup xs)) (k : ∀ b o, b ≠ p → H b = some o → H' b = some o) : TK H H' := fun b xs h => by
  have hb : b ≠ p := fun z => hp xs (z ▸ h)
  rcases h with h | ⟨o, h⟩
  · exact .inl (k b _ hb h)
  · exact .inr ⟨o, k b _ hb h⟩
theorem TK.upd' {H : Hp} {p : Addr} {o : HO} (hp : ∀ xs, ¬ Rd H p (.tup xs)) : TK H (upd H p o) := TK.but hp fun b u hb e => by rw [upd_ne hb]; exact e
theorem nrd_none {H : Hp} {p : Addr} (h : H p = none) : ∀ xs, ¬ Rd H p (.tup xs) := fun xs r => by
  rcases r with r | ⟨o, r⟩ <;> (rw [h] at r; cases r)
theorem nrd_lst {H : Hp} {p : Addr} {ys : List V} (h : H p = some (.lst ys)) : ∀ xs, ¬ Rd H p (.tup xs) := fun xs r => by
  rcases r with r | ⟨o, r⟩ <;> (rw [h] at r; cases r)
theorem nrd_dK {H : Hp} {p : Addr} {ys : List (Key × V)} (h : H p = some (.dK ys)) : ∀ xs, ¬ Rd H p (.tup xs) := fun xs r => by
  rcases r with r | ⟨o, r⟩ <;> (rw [h] at r; cases r)
theorem nrd_ins {H : Hp} {p C dx : Addr} {fs : List (Str × V)} (h : H p = some (.ins C dx fs)) : ∀ xs, ¬ Rd H p (.tup xs) := fun xs r => by
  rcases r with r | ⟨o, r⟩ <;> (rw [h] at r; cases r)
theorem TK.new {H : Hp} {p : Addr} {o : HO} (h : H p = none) : TK H (upd H p o) := TK.upd' (nrd_none h)
theorem TK.lst {H : Hp} {p : Addr} {o : HO} {ys : List V} (h : H p = some (.lst ys)) : TK H (upd H p o) := TK.upd' (nrd_lst h)
theorem TK.dK {H : Hp} {p : Addr} {o : HO} {ys : List (Key × V)} (h : H p = some (.dK ys)) : TK H (upd H p o) := TK.upd' (nrd_dK h)
theorem TK.ins {H : Hp} {p C dx : Addr} {o : HO} {fs : List (Str × V)} (h : H p = some (.ins C dx fs)) : TK H (upd H p o) := TK.upd' (nrd_ins h)
theorem TK.same {H H' : Hp} (s : Same H H') : TK H H' := fun b xs h => by
  rcases h with h | ⟨o, h⟩
  · exact .inl (s _ _ h)
  · exact .inr ⟨o, s _ _ h⟩
theorem TK.seq {K : PySem.W.Frag} {H H' : Hp} {a : Addr} {xs : List V} (t : TK H H') (h : SqT K H a xs) : SqT K H' a xs := by
  rcases h with h | h
  · exact .inl (t _ _ h)
  · exact .inr h
theorem Same.new {H : Hp} {p : Addr} {o : HO} (h : H p = none) : Same H (upd H p o) := fun b u e => by
  rw [upd_ne (ne_of_none e h)]
  exact e
theorem Same.mut {H H' : Hp} {p : Addr} {o : HO} (e : Same H H') (h : H p = none) : Same H (upd H' p o) := fun a u ha => by
  rw [upd_ne (ne_of_none ha h)]
  exact e a u ha
/-- all but p stays -/
def Kp1 (p : Addr) (H H' : Hp) : Prop := ∀ b o, H b = some o → b ≠ p → H' b = some o
def Kp2 (p q : Addr) (H H' : Hp) : Prop := ∀ b o, H b = some o → b ≠ p → b ≠ q → H' b = some o
theorem Kp1.same {p : Addr} {H H' : Hp} (h : Same H H') : Kp1 p H H' := fun b o e _ => h b o e
theorem Kp1.trans {p : Addr} {H H1 H2 : Hp} (a : Kp1 p H H1) (b : Kp1 p H1 H2) : Kp1 p H H2 := fun c o e h => b c o (a c o e h) h
theorem Kp1.upd {p : Addr} {H H' : Hp} {o : HO} (h : Kp1 p H H') : Kp1 p H (upd H' p o) := fun b u e hb => by
  rw [upd_ne hb]
  exact h b u e hb
theorem Kp1.tk {p : Addr} {H H' : Hp} {ys : List V} (k : Kp1 p H H') (h : H p = some (.lst ys)) : TK H H' := TK.but (nrd_lst h) fun b o hb e => k b o e hb
/-- what was the same as B, p not in B -/
theorem Same.kp1 {B H H' : Hp} {p : Addr} (s : Same B H) (h : B p = none) (k : Kp1 p H H') : Same B H' := fun b o e => k b o (s b o e) (ne_of_none e h)
/-! ### immutable data -/
mutual
inductive Im (K : PySem.W.Frag) (H : Hp) : V → PyData → Prop
  | non : Im K H .non .none
  | bl (b : Bool) : Im K H (.bl b) (.bool b)
  | int (i : Int) : Im K H (.int i) (.int i)
  | str (x : Str) : Im K H (.str x) (.str x)
  | tup {a : Addr} {xs : List V} {ds : List PyData} : SqT K H a xs → ImAll K H xs ds → Im K H (.ref a) (.tuple ds)
inductive ImAll (K : PySem.W.Frag) (H : Hp) : List V → List PyData → Prop
  | nil : ImAll K H [] []
  | cons {v : V} {vs : List V} {d : PyData} {ds : List PyData} : Im K H v d → ImAll K H vs ds → ImAll K H (v :: vs) (d :: ds)
end
mutual
theorem Im.tk {K : PySem.W.Frag} {H H' : Hp} (t : TK H H') : ∀ {v : V} {d : PyData}, Im K H v d → Im K H' v d
  | _, _, .non => .non
  | _, _, .bl b => .bl b
  | _, _, .int i => .int i
  | _, _, .str x => .str x
  | _, _, .tup h a => .tup (t.seq h) (ImAll.tk t a)
theorem ImAll.tk {K : PySem.W.Frag} {H H' : Hp} (t : TK H H') : ∀ {vs : List V} {ds : List PyData}, ImAll K H vs ds → ImAll K H' vs ds
  | _, _, .nil => .nil
  | _, _, .cons h r => .cons (Im.tk t h) (ImAll.tk t r)
end
mutual
theorem Im.dp {K : PySem.W.Frag} {H : Hp} : ∀ {v : V} {d : PyData}, Im K H v d → Dp K H v d
  | _, _, .non => .non
  | _, _, .bl b => .bl b
  | _, _, .int i => .int i
  | _, _, .str x => .str x
  | _, _, .tup h a => .tup h (ImAll.dp a)
theorem ImAll.dp {K : PySem.W.Frag} {H : Hp} : ∀ {vs : List V} {ds : List PyData}, ImAll K H vs ds → DpAll K H vs ds
  | _, _, .nil => .nil
  | _, _, .cons h r => .cons (Im.dp h) (ImAll.dp r)
end
section
variable {K : PySem.W.Frag} {H H' : Hp} {v : V} {vs ws : List V} {d : PyData} {ds es : List PyData}
theorem Im.tup_inv (h : Im K H v (.tuple ds)) : ∃ a xs, v = .ref a ∧ SqT K H a xs ∧ ImAll K H xs ds := by
  cases h with
  | tup h a => exact ⟨_, _, rfl, h, a⟩
theorem Im.int_inv {i : Int} (h : Im K H v (.int i)) : v = .int i := by cases h; rfl
theorem Im.str_inv {x : Str} (h : Im K H v (.str x)) : v = .str x := by cases h; rfl
theorem Im.non_inv (h : Im K H v .none) : v = .non := by cases h; rfl
theorem ImAll.len : ∀ {vs : List V} {ds : List PyData}, ImAll K H vs ds → vs.length = ds.length
  | _, _, .nil => rfl
  | _, _, .cons _ r => congrArg Nat.succ r.len
theorem ImAll.get : ∀ {vs : List V} {ds : List PyData} {i : Nat} {d : PyData}, ImAll K H vs ds → ds[i]? = some d → ∃ v, vs[i]? = some v ∧ Im K H v d
  | _, _, _, _, .nil, e => by simp at e
  | _, _, 0, _, .cons h _, e => by simp at e; subst e; exact ⟨_, rfl, h⟩
  | _, _, i + 1, _, .cons _ r, e => by
    obtain ⟨v, h1, h2⟩ := r.get (i := i) (by simpa using e)
    exact ⟨v, by simpa using h1, h2⟩
theorem ImAll.get' : ∀ {vs : List V} {ds : List PyData} {i : Nat} {v : V}, ImAll K H vs ds → vs[i]? = some v → ∃ d, ds[i]? = some d ∧ Im K H v d
  | _, _, _, _, .nil, e => by simp at e
  | _, _, 0, _, .cons h _, e => by simp at e; subst e; exact ⟨_, rfl, h⟩
  | _, _, i + 1, _, .cons _ r, e => by
    obtain ⟨v, h1, h2⟩ := r.get' (i := i) (by simpa using e)
    exact ⟨v, by simpa using h1, h2⟩
theorem ImAll.append : ∀ {vs ws : List V} {ds es : List PyData}, ImAll K H vs ds → ImAll K H ws es → ImAll K H (vs ++ ws) (ds ++ es)
  | _, _, _, _, .nil, s => s
  | _, _, _, _, .cons h r, s => .cons h (r.append s)
theorem ImAll.one (h : Im K H v d) : ImAll K H [v] [d] := .cons h .nil
theorem ImAll.take : ∀ {vs : List V} {ds : List PyData} (n : Nat), ImAll K H vs ds → ImAll K H (vs.take n) (ds.take n)
  | _, _, 0, _ => .nil
  | _, _, _ + 1, .nil => .nil
  | _, _, n + 1, .cons h r => .cons h (r.take n)
theorem ImAll.drop : ∀ {vs : List V} {ds : List PyData} (n : Nat), ImAll K H vs ds → ImAll K H (vs.drop n) (ds.drop n)
  | _, _, 0, r => r
  | _, _, _ + 1, .nil => .nil
  | _, _, n + 1, .cons _ r => r.drop n
theorem ImAll.nil_inv (h : ImAll K H vs []) : vs = [] := by cases h; rfl
theorem ImAll.cons_inv (h : ImAll K H vs (d :: ds)) : ∃ x xs, vs = x :: xs ∧ Im K H x d ∧ ImAll K H xs ds := by
  cases h with
  | cons h r => exact ⟨_, _, rfl, h, r⟩
theorem ImAll.dropLast : ∀ {vs : List V} {ds : List PyData}, ImAll K H vs ds → ImAll K H vs.dropLast ds.dropLast := by
  intro vs ds h
  rw [List.dropLast_eq_take, List.dropLast_eq_take, h.len]
  exact h.take _
/-- of a list the other one is some arrangement: so of the data -/
theorem ImAll.perm {vs ws : List V} (p : ws.Perm vs) : ∀ {ds : List PyData}, ImAll K H vs ds → ∃ es, es.Perm ds ∧ ImAll K H ws es := by
  induction p with
  | nil => intro ds h; cases h; exact ⟨[], .nil, .nil⟩
  | cons x _ ih =>
    intro ds h
    cases h with
    | cons h r =>
      obtain ⟨es, p, a⟩ := ih r
      exact ⟨_ :: es, p.cons _, .cons h a⟩
  | swap x y l =>
    intro ds h
    cases h with
    | cons h1 r =>
      cases r with
      | cons h2 r => exact ⟨_, .swap _ _ _, .cons h2 (.cons h1 r)⟩
  | trans _ _ ih1 ih2 =>
    intro ds h
    obtain ⟨es, p, a⟩ := ih2 h
    obtain ⟨fs, q, b⟩ := ih1 a
    exact ⟨fs, q.trans p, b⟩
end
/-! ### numbers and tuples of them -/
abbrev vI (n : Nat) : V := .int (n : Int)
abbrev dI (n : Nat) : PyData := .int (n : Int)
theorem imI {K : PySem.W.Frag} {H : Hp} (n : Nat) : Im K H (vI n) (dI n) := .int _
theorem imIs {K : PySem.W.Frag} {H : Hp} : ∀ ns : List Nat, ImAll K H (ns.map vI) (ns.map dI)
  | [] => .nil
  | n :: ns => .cons (imI n) (imIs ns)
theorem imIs_inv {K : PySem.W.Frag} {H : Hp} : ∀ {ns : List Nat} {vs : List V}, ImAll K H vs (ns.map dI) → vs = ns.map vI
  | [], _, h => by cases h; rfl
  | n :: ns, _, .cons h r => by rw [List.map_cons, ← imIs_inv r, h.int_inv]
def dInts (ns : List Nat) : PyData := .tuple (ns.map dI)
def dPair (d : Nat × Nat) : PyData := .tuple [dI d.1, dI d.2]
def dDoors (ds : List (Nat × Nat)) : PyData := .tuple (ds.map dPair)
def dPos (p : List Nat × List Nat) : PyData := .tuple [dInts p.1, dInts p.2]
def dStep (s : Nat × Nat × Nat) : PyData := .tuple [dI s.1, dI s.2.1, dI s.2.2]
def dMade (l : List (Nat × Nat × Nat)) : PyData := .tuple (l.map dStep)
def dCur (c : (List Nat × List Nat) × List (Nat × Nat × Nat)) : PyData := .tuple [dPos c.1, dMade c.2]
section
variable {K : PySem.W.Frag} {H : Hp} {v : V}
theorem Im.ints_inv {ns : List Nat} (h : Im K H v (dInts ns)) : ∃ a, v = .ref a ∧ SqT K H a (ns.map vI) := by
  obtain ⟨a, xs, e, h1, h2⟩ := Im.tup_inv h
  rw [imIs_inv h2] at h1
  exact ⟨a, e, h1⟩
theorem Im.pair_inv {d : Nat × Nat} (h : Im K H v (dPair d)) : ∃ a, v = .ref a ∧ SqT K H a [vI d.1, vI d.2] := Im.ints_inv (ns := [d.1, d.2]) h
theorem Im.step_inv {d : Nat × Nat × Nat} (h : Im K H v (dStep d)) : ∃ a, v = .ref a ∧ SqT K H a [vI d.1, vI d.2.1, vI d.2.2] := Im.ints_inv (ns := [d.1, d.2.1, d.2.2]) h
theorem Im.ints {a : Addr} {ns : List Nat} (h : SqT K H a (ns.map vI)) : Im K H (.ref a) (dInts ns) := .tup h (imIs ns)
theorem Im.pair {a : Addr} {i j : Nat} (h : SqT K H a [vI i, vI j]) : Im K H (.ref a) (dPair (i, j)) := Im.ints (ns := [i, j]) h
theorem Im.step {a : Addr} {i j k : Nat} (h : SqT K H a [vI i, vI j, vI k]) : Im K H (.ref a) (dStep (i, j, k)) := Im.ints (ns := [i, j, k]) h
theorem Im.two {a : Addr} {x y : V} {d e : PyData} (h : SqT K H a [x, y]) (hx : Im K H x d) (hy : Im K H y e) : Im K H (.ref a) (.tuple [d, e]) := .tup h (.cons hx (.cons hy .nil))
theorem Im.two_inv {d e : PyData} (h : Im K H v (.tuple [d, e])) : ∃ a x y, v = .ref a ∧ SqT K H a [x, y] ∧ Im K H x d ∧ Im K H y e := by
  obtain ⟨a, xs, ev, h1, h2⟩ := Im.tup_inv h
  cases h2 with
  | cons hx r =>
    cases r with
    | cons hy r =>
      cases r
      exact ⟨a, _, _, ev, h1, hx, hy⟩
theorem Im.pos_inv {p : List Nat × List Nat} (h : Im K H v (dPos p)) : ∃ a ra ba, v = .ref a ∧ SqT K H a [.ref ra, .ref ba] ∧ SqT K H ra (p.1.map vI) ∧ SqT K H ba (p.2.map vI) := by
  obtain ⟨a, x, y, ev, h1, hx, hy⟩ := Im.two_inv h
  obtain ⟨ra, rfl, h2⟩ := Im.ints_inv hx
  obtain ⟨ba, rfl, h3⟩ := Im.ints_inv hy
  exact ⟨a, ra, ba, ev, h1, h2, h3⟩
theorem Im.pos {a ra ba : Addr} {p : List Nat × List Nat} (h : SqT K H a [.ref ra, .ref ba]) (hr : SqT K H ra (p.1.map vI)) (hb : SqT K H ba (p.2.map vI)) : Im K H (.ref a) (dPos p) := Im.two h (Im.ints hr) (Im.ints hb)
end
/-! ### shapes -/
def Sh (k : Nat) (d : PyData) : Prop := d.canLay0 = true ∧ d.depth ≤ k
theorem Sh.ok {k : Nat} {d : PyData} (h : Sh k d) (hk : k ≤ 64 := by decide) : SeqAt.shaped d = true := by
  unfold SeqAt.shaped
  rw [h.1, decide_eq_true (Nat.le_trans h.2 hk)] <;> rfl
theorem Sh.mono {j k : Nat} {d : PyData} (h : Sh j d) (hk : j ≤ k) : Sh k d := ⟨h.1, Nat.le_trans h.2 hk⟩
theorem sh_all {k : Nat} : ∀ {ds : List PyData}, (∀ d ∈ ds, Sh k d) → PyData.canLayAll0 ds = true ∧ PyData.depthAll ds ≤ k
  | [], _ => ⟨by simp [PyData.canLayAll0], by simp [PyData.depthAll]⟩
  | d :: ds, h => by
    obtain ⟨h1, h2⟩ := h d List.mem_cons_self
    obtain ⟨h3, h4⟩ := sh_all fun e he => h e (List.mem_cons_of_mem _ he)
    exact ⟨by simp [PyData.canLayAll0, h1, h3], by simp only [PyData.depthAll]; omega⟩
theorem Sh.tup {k : Nat} {ds : List PyData} (h : ∀ d ∈ ds, Sh k d) : Sh (k + 1) (.tuple ds) := by
  obtain ⟨h1, h2⟩ := sh_all h
  exact ⟨by simp [PyData.canLay0, h1], by simp only [PyData.depth]; omega⟩
theorem Sh.lst {k : Nat} {ds : List PyData} (h : ∀ d ∈ ds, Sh k d) : Sh (k + 1) (.list ds) := by
  obtain ⟨h1, h2⟩ := sh_all h
  exact ⟨by simp [PyData.canLay0, h1], by simp only [PyData.depth]; omega⟩
theorem Sh.int (i : Int) : Sh 0 (.int i) := ⟨by simp [PyData.canLay0], by simp [PyData.depth]⟩
theorem Sh.non : Sh 0 .none := ⟨by simp [PyData.canLay0], by simp [PyData.depth]⟩
theorem Sh.ints (ns : List Nat) : Sh 1 (dInts ns) := Sh.tup fun d h => by
  obtain ⟨n, _, rfl⟩ := List.mem_map.mp h
  exact Sh.int _
theorem Sh.pair (d : Nat × Nat) : Sh 1 (dPair d) := Sh.ints [d.1, d.2]
theorem Sh.step (d : Nat × Nat × Nat) : Sh 1 (dStep d) := Sh.ints [d.1, d.2.1, d.2.2]
theorem Sh.doors (ds : List (Nat × Nat)) : Sh 2 (dDoors ds) := Sh.tup fun d h => by
  obtain ⟨n, _, rfl⟩ := List.mem_map.mp h
  exact Sh.pair _
theorem Sh.steps (ds : List (Nat × Nat × Nat)) : Sh 2 (.list (ds.map dStep)) := Sh.lst fun d h => by
  obtain ⟨n, _, rfl⟩ := List.mem_map.mp h
  exact Sh.step _
theorem Sh.made (ds : List (Nat × Nat × Nat)) : Sh 2 (dMade ds) := Sh.tup fun d h => by
  obtain ⟨n, _, rfl⟩ := List.mem_map.mp h
  exact Sh.step _
theorem Sh.two {k : Nat} {d e : PyData} (h1 : Sh k d) (h2 : Sh k e) : Sh (k + 1) (.tuple [d, e]) := Sh.tup fun x h => by
  rcases List.mem_cons.mp h with rfl | h
  · exact h1
  · rw [List.mem_singleton.mp h]
    exact h2
theorem Sh.pos (p : List Nat × List Nat) : Sh 2 (dPos p) := Sh.two (Sh.ints _) (Sh.ints _)
theorem Sh.cur (c : (List Nat × List Nat) × List (Nat × Nat × Nat)) : Sh 3 (dCur c) := Sh.two (Sh.pos _) (Sh.made _)
theorem eqv_self {k : Nat} {d : PyData} (h : Sh k d) : PyData.eqv d d = true := SeqAt.eqv_refl d h.1
end K83
/-! the mathematics: houses -/
namespace K83
abbrev Door := Nat × Nat
abbrev Stp := Nat × Nat × Nat
abbrev PosD := List Nat × List Nat
/-! ### first_ring -/
def merge (lab : List Nat) (a b : Nat) : List Nat := lab.map fun n => if n = lab.getD a 0 then lab.getD b 0 else n
def ringFree : List Nat → List Door → Bool
  | _, [] => true
  | lab, d :: ds => !(decide (lab.getD d.1 0 = lab.getD d.2 0)) && ringFree (merge lab d.1 d.2) ds
def fin : List Nat → List Door → List Nat
  | lab, [] => lab
  | lab, d :: ds => fin (merge lab d.1 d.2) ds
theorem merge_len (lab : List Nat) (a b : Nat) : (merge lab a b).length = lab.length := by unfold merge; rw [List.length_map]
theorem merge_get {lab : List Nat} {a b i : Nat} (h : i < lab.length) : (merge lab a b).getD i 0 = if lab.getD i 0 = lab.getD a 0 then lab.getD b 0 else lab.getD i 0 := by
  unfold merge
  simp only [List.getD, List.getElem?_map, List.getElem?_eq_getElem h, Option.map_some, Option.getD_some]
  rfl
theorem fin_len : ∀ (ds : List Door) (lab : List Nat), (fin lab ds).length = lab.length
  | [], _ => rfl
  | d :: ds, lab => by
    show (fin (merge lab d.1 d.2) ds).length = _
    rw [fin_len ds, merge_len]
/-- equal labels stay equal -/
theorem fin_keep : ∀ (ds : List Door) (lab : List Nat) (i j : Nat), i < lab.length → j < lab.length → lab.getD i 0 = lab.getD j 0 → (fin lab ds).getD i 0 = (fin lab ds).getD j 0
  | [], _, _, _, _, _, h => h
  | d :: ds, lab, i, j, hi, hj, h => by
    refine fin_keep ds (merge lab d.1 d.2) i j (by rw [merge_len]; exact hi) (by rw [merge_len]; exact hj) ?_
    rw [merge_get hi, merge_get hj, h]
/-- the ends of a door have one label at the end -/
theorem fin_door : ∀ (ds : List Door) (lab : List Nat) (d : Door), d ∈ ds → d.1 < lab.length → d.2 < lab.length → (fin lab ds).getD d.1 0 = (fin lab ds).getD d.2 0
  | [], _, _, h, _, _ => by cases h
  | e :: ds, lab, d, h, h1, h2 => by
    rcases List.mem_cons.mp h with rfl | h
    · refine fin_keep ds (merge lab d.1 d.2) d.1 d.2 (by rw [merge_len]; exact h1) (by rw [merge_len]; exact h2) ?_
      rw [merge_get h1, merge_get h2, if_pos rfl]
      split <;> rfl
    · exact fin_door ds (merge lab e.1 e.2) d h (by rw [merge_len]; exact h1) (by rw [merge_len]; exact h2)
/-! how many labels there are -/
def cnt (p : Nat → Bool) : Nat → Nat
  | 0 => 0
  | n + 1 => cnt p n + if p n = true then 1 else 0
theorem cnt_le {p q : Nat → Bool} {o : Nat} (h : ∀ v, p v = true → v = o ∨ q v = true) : ∀ n, cnt p n ≤ cnt q n + if o < n then 1 else 0
  | 0 => Nat.zero_le _
  | n + 1 => by
    have ih := cnt_le h n
    show cnt p n + (if p n = true then 1 else 0) ≤ cnt q n + (if q n = true then 1 else 0) + if o < n + 1 then 1 else 0
    by_cases hp : p n = true
    · rw [if_pos hp]
      rcases h n hp with e | e
      · subst e
        rw [if_neg (Nat.lt_irrefl _)] at ih
        rw [if_pos (Nat.lt_succ_self _)]
        split <;> omega
      · rw [if_pos e]
        by_cases ho : o < n
        · rw [if_pos ho] at ih
          rw [if_pos (by omega)]
          omega
        · rw [if_neg ho] at ih
          split <;> omega
    · rw [if_neg hp]
      by_cases ho : o < n
      · rw [if_pos ho] at ih
        rw [if_pos (show o < n + 1 by omega)]
        split <;> omega
      · rw [if_neg ho] at ih
        split <;> split <;> omega
theorem cnt_one {p : Nat → Bool} {o : Nat} (h : ∀ v, p v = true → v = o) (n : Nat) : cnt p n ≤ 1 := by
  have q := cnt_le (p := p) (q := fun _ => false) (o := o) (fun v hv => .inl (h v hv)) n
  have z : ∀ n, cnt (fun _ => false) n = 0 := by
    intro n
    induction n with
    | zero => rfl
    | succ n ih =>
      show cnt (fun _ => false) n + (if false = true then 1 else 0) = 0
      rw [ih]
      rfl
  rw [z] at q
  split at q <;> omega
theorem cnt_all {p : Nat → Bool} : ∀ n, (∀ v, v < n → p v = true) → cnt p n = n
  | 0, _ => rfl
  | n + 1, h => by
    show cnt p n + (if p n = true then 1 else 0) = n + 1
    rw [cnt_all n fun v hv => h v (by omega), if_pos (h n (by omega))]
def labs (lab : List Nat) (n : Nat) : Nat := cnt (fun v => lab.contains v) n
theorem labs_merge (lab : List Nat) (a b n : Nat) : labs lab n ≤ labs (merge lab a b) n + 1 := by
  have q := cnt_le (p := fun v => lab.contains v) (q := fun v => (merge lab a b).contains v) (o := lab.getD a 0) (fun v hv => by
    by_cases e : v = lab.getD a 0
    · exact .inl e
    · refine .inr ?_
      have hv' : v ∈ lab := by simpa using hv
      have : v ∈ merge lab a b := List.mem_map.mpr ⟨v, hv', by rw [if_neg e]⟩
      simpa using this) n
  show labs lab n ≤ _
  unfold labs
  split at q <;> omega
theorem merge_same {lab : List Nat} {a b : Nat} (h : lab.getD a 0 = lab.getD b 0) : merge lab a b = lab := by
  unfold merge
  rw [h]
  have : (fun n => if n = lab.getD b 0 then lab.getD b 0 else n) = id := by
    funext n
    split
    · rename_i e; exact e.symm
    · rfl
  rw [this, List.map_id]
theorem labs_fin (n : Nat) : ∀ (ds : List Door) (lab : List Nat), labs lab n ≤ labs (fin lab ds) n + ds.length
  | [], _ => Nat.le_refl _
  | d :: ds, lab => by
    have h1 := labs_merge lab d.1 d.2 n
    have h2 := labs_fin n ds (merge lab d.1 d.2)
    show labs lab n ≤ labs (fin (merge lab d.1 d.2) ds) n + (ds.length + 1)
    omega
theorem labs_ring (n : Nat) : ∀ (ds : List Door) (lab : List Nat), ringFree lab ds = false → labs lab n + 1 ≤ labs (fin lab ds) n + ds.length
  | [], _, h => by cases h
  | d :: ds, lab, h => by
    show labs lab n + 1 ≤ labs (fin (merge lab d.1 d.2) ds) n + (ds.length + 1)
    by_cases e : lab.getD d.1 0 = lab.getD d.2 0
    · rw [merge_same e]
      have := labs_fin n ds lab
      omega
    · have h' : ringFree (merge lab d.1 d.2) ds = false := by
        have z : (!(decide (lab.getD d.1 0 = lab.getD d.2 0)) && ringFree (merge lab d.1 d.2) ds) = false := h
        rw [decide_eq_false e] at z
        simpa using z
      have h1 := labs_merge lab d.1 d.2 n
      have h2 := labs_ring n ds (merge lab d.1 d.2) h'
      omega
/-- if all rooms are connected by n - 1 doors there is no ring -/
theorem ringFree_of {n : Nat} {ds : List Door} (hn : ds.length + 1 = n) (h : ∃ v, ∀ i, i < n → (fin (List.range n) ds).getD i 0 = v) : ringFree (List.range n) ds = true := by
  cases e : ringFree (List.range n) ds with
  | true => rfl
  | false =>
    exfalso
    have h1 := labs_ring n ds (List.range n) e
    obtain ⟨v, hv⟩ := h
    have h2 : labs (List.range n) n = n := cnt_all n fun v hv => by simp [hv]
    have h3 : labs (fin (List.range n) ds) n ≤ 1 := cnt_one (o := v) (fun w hw => by
      have hw' : w ∈ fin (List.range n) ds := by simpa using hw
      obtain ⟨i, hi, e⟩ := List.mem_iff_getElem.mp hw'
      have hi' : i < n := by rw [fin_len, List.length_range] at hi; exact hi
      have := hv i hi'
      rw [← this, ← e]
      simp [List.getD, List.getElem?_eq_getElem hi]) n
    omega
/-! ### houses -/
structure HouseOk (ds : List Door) : Prop where
  ends : ∀ d ∈ ds, d.1 < ds.length + 1 ∧ d.2 < ds.length + 1 ∧ d.1 ≠ d.2
  free : ringFree (List.range (ds.length + 1)) ds = true
  uniq : ∀ (i j : Nat) (d e : Door), ds[i]? = some d → ds[j]? = some e → (e = d ∨ e = (d.2, d.1)) → i = j
  len : ds.length ≤ 5
def rnm (names : List Nat) (e : Door) : Door := (names.getD e.1 0, names.getD e.2 0)
/-- how the random house comes about: parents before children, rooms renamed, doors shuffled, ends turned -/
structure Grown (n : Nat) (D E ds : List Door) (names : List Nat) : Prop where
  len : D.length + 1 = n
  six : n ≤ 6
  door : ∀ (i : Nat) (d : Door), D[i]? = some d → d.2 = i + 1 ∧ d.1 ≤ i
  perm : E.Perm D
  nperm : names.Perm (List.range n)
  size : ds.length = E.length
  turn : ∀ (i : Nat) (d e : Door), ds[i]? = some d → E[i]? = some e → d = rnm names e ∨ d = ((rnm names e).2, (rnm names e).1)
section
variable {n : Nat} {D E ds : List Door} {names : List Nat}
theorem Grown.namesLen (g : Grown n D E ds names) : names.length = n := by rw [g.nperm.length_eq, List.length_range]
theorem Grown.nodup (g : Grown n D E ds names) : names.Nodup := g.nperm.nodup_iff.mpr List.nodup_range
theorem Grown.lt (g : Grown n D E ds names) {i : Nat} (h : i < n) : names.getD i 0 < n := by
  have hi : i < names.length := by rw [g.namesLen]; exact h
  have : names[i] ∈ List.range n := g.nperm.mem_iff.mp (List.getElem_mem hi)
  have := List.mem_range.mp this
  simpa [List.getD, List.getElem?_eq_getElem hi] using this
theorem Grown.inj (g : Grown n D E ds names) {i j : Nat} (hi : i < n) (hj : j < n) (h : names.getD i 0 = names.getD j 0) : i = j := by
  have hi' : i < names.length := by rw [g.namesLen]; exact hi
  have hj' : j < names.length := by rw [g.namesLen]; exact hj
  have e : names[i] = names[j] := by simpa [List.getD, List.getElem?_eq_getElem hi', List.getElem?_eq_getElem hj'] using h
  exact (List.getElem_inj g.nodup).mp e
theorem Grown.ofD (g : Grown n D E ds names) {d : Door} (h : d ∈ D) : d.1 < d.2 ∧ d.2 < n := by
  obtain ⟨i, hi, e⟩ := List.mem_iff_getElem.mp h
  obtain ⟨h1, h2⟩ := g.door i d (by rw [List.getElem?_eq_getElem hi, e])
  have := g.len
  omega
theorem Grown.Dnodup (g : Grown n D E ds names) : D.Nodup := by
  rw [List.Nodup, List.pairwise_iff_getElem]
  intro i j hi hj hij e
  have h1 := (g.door i _ (List.getElem?_eq_getElem hi)).1
  have h2 := (g.door j _ (List.getElem?_eq_getElem hj)).1
  rw [e] at h1
  omega
theorem Grown.dsLen (g : Grown n D E ds names) : ds.length + 1 = n := by rw [g.size, g.perm.length_eq]; exact g.len
theorem Grown.back (g : Grown n D E ds names) {i : Nat} {d : Door} (h : ds[i]? = some d) : ∃ e, E[i]? = some e ∧ e ∈ D ∧ (d = rnm names e ∨ d = ((rnm names e).2, (rnm names e).1)) := by
  obtain ⟨hi, _⟩ := List.getElem?_eq_some_iff.mp h
  have hi' : i < E.length := by rw [← g.size]; exact hi
  exact ⟨E[i], List.getElem?_eq_getElem hi', g.perm.mem_iff.mp (List.getElem_mem hi'), g.turn i d _ h (List.getElem?_eq_getElem hi')⟩
theorem Grown.uniq (g : Grown n D E ds names) (i j : Nat) (d e : Door) (h1 : ds[i]? = some d) (h2 : ds[j]? = some e) (h : e = d ∨ e = (d.2, d.1)) : i = j := by
  obtain ⟨a, ha, mA, hda⟩ := g.back h1
  obtain ⟨b, hb, mB, heb⟩ := g.back h2
  obtain ⟨a1, a2⟩ := g.ofD mA
  obtain ⟨b1, b2⟩ := g.ofD mB
  -- one unordered pair
  have key : (rnm names a = rnm names b) ∨ ((rnm names a).1 = (rnm names b).2 ∧ (rnm names a).2 = (rnm names b).1) := by
    rcases hda with rfl | rfl <;> rcases heb with rfl | rfl <;> rcases h with h | h
    · exact .inl h.symm
    · have p1 := congrArg Prod.fst h; have p2 := congrArg Prod.snd h
      exact .inr ⟨p2.symm, p1.symm⟩
    · have p1 := congrArg Prod.fst h; have p2 := congrArg Prod.snd h
      exact .inr ⟨p1.symm, p2.symm⟩
    · have p1 := congrArg Prod.fst h; have p2 := congrArg Prod.snd h
      exact .inl (Prod.ext p2.symm p1.symm)
    · have p1 := congrArg Prod.fst h; have p2 := congrArg Prod.snd h
      exact .inr ⟨p2.symm, p1.symm⟩
    · have p1 := congrArg Prod.fst h; have p2 := congrArg Prod.snd h
      exact .inl (Prod.ext p1.symm p2.symm)
    · have p1 := congrArg Prod.fst h; have p2 := congrArg Prod.snd h
      exact .inl (Prod.ext p2.symm p1.symm)
    · have p1 := congrArg Prod.fst h; have p2 := congrArg Prod.snd h
      exact .inr ⟨p1.symm, p2.symm⟩
  have eab : a = b := by
    rcases key with k | ⟨k1, k2⟩
    · have p1 := congrArg Prod.fst k; have p2 := congrArg Prod.snd k
      exact Prod.ext (g.inj (by omega) (by omega) p1) (g.inj (by omega) (by omega) p2)
    · have q1 := g.inj (i := a.1) (j := b.2) (by omega) (by omega) k1
      have q2 := g.inj (i := a.2) (j := b.1) (by omega) (by omega) k2
      omega
  subst eab
  have hE : E.Nodup := g.perm.nodup_iff.mpr g.Dnodup
  obtain ⟨i1, e1⟩ := List.getElem?_eq_some_iff.mp ha
  obtain ⟨j1, e2⟩ := List.getElem?_eq_some_iff.mp hb
  exact (List.getElem_inj hE).mp (e1.trans e2.symm)
theorem Grown.conn (g : Grown n D E ds names) : ∀ r, r < n → (fin (List.range n) ds).getD (names.getD r 0) 0 = (fin (List.range n) ds).getD (names.getD 0 0) 0 := by
  intro r
  induction r using Nat.strongRecOn with
  | _ r ih =>
    intro hr
    cases r with
    | zero => rfl
    | succ k =>
      have hk : k < D.length := by have := g.len; omega
      obtain ⟨h1, h2⟩ := g.door k _ (List.getElem?_eq_getElem hk)
      have hm : D[k] ∈ E := g.perm.mem_iff.mpr (List.getElem_mem hk)
      obtain ⟨j, hj, ej⟩ := List.mem_iff_getElem.mp hm
      have hj' : j < ds.length := by rw [g.size]; exact hj
      have t := g.turn j _ _ (List.getElem?_eq_getElem hj') (List.getElem?_eq_getElem hj)
      rw [ej] at t
      have hmem : ds[j] ∈ ds := List.getElem_mem hj'
      have b1 : names.getD D[k].1 0 < n := g.lt (by omega)
      have b2 : names.getD D[k].2 0 < n := g.lt (by omega)
      have q : (fin (List.range n) ds).getD (names.getD D[k].1 0) 0 = (fin (List.range n) ds).getD (names.getD D[k].2 0) 0 := by
        rcases t with t | t
        · have := fin_door ds (List.range n) _ hmem (by rw [t, List.length_range]; exact b1) (by rw [t, List.length_range]; exact b2)
          rw [t] at this
          exact this
        · have := fin_door ds (List.range n) _ hmem (by rw [t, List.length_range]; exact b2) (by rw [t, List.length_range]; exact b1)
          rw [t] at this
          exact this.symm
      rw [h1] at q
      rw [← q]
      exact ih D[k].1 (by omega) (by omega)
theorem Grown.ok (g : Grown n D E ds names) : HouseOk ds := by
  have hn := g.dsLen
  refine ⟨fun d hd => ?_, ?_, g.uniq, by have := g.six; omega⟩
  · obtain ⟨i, hi, e⟩ := List.mem_iff_getElem.mp hd
    obtain ⟨a, _, mA, t⟩ := g.back (i := i) (d := d) (by rw [List.getElem?_eq_getElem hi, e])
    obtain ⟨a1, a2⟩ := g.ofD mA
    have l1 := g.lt (i := a.1) (by omega)
    have l2 := g.lt (i := a.2) a2
    have ne : names.getD a.1 0 ≠ names.getD a.2 0 := fun z => by
      have := g.inj (by omega) a2 z
      omega
    rw [hn]
    rcases t with rfl | rfl
    · exact ⟨l1, l2, ne⟩
    · exact ⟨l2, l1, ne.symm⟩
  · rw [hn]
    refine ringFree_of hn ⟨(fin (List.range n) ds).getD (names.getD 0 0) 0, fun i hi => ?_⟩
    have : i ∈ names := g.nperm.mem_iff.mpr (List.mem_range.mpr hi)
    obtain ⟨r, hr, e⟩ := List.mem_iff_getElem.mp this
    have hr' : r < n := by rw [← g.namesLen]; exact hr
    have := g.conn r hr'
    rw [← this]
    congr 1
    simp [List.getD, List.getElem?_eq_getElem hr, e]
end
end K83
/-! the mathematics: doors, states, plans -/
namespace K83
/-! ### the door between two rooms -/
def isD (a b : Nat) (d : Door) : Bool := decide (d = (a, b)) || decide (d = (b, a))
def doorOf (ds : List Door) (a b : Nat) : Option Nat := ds.findIdx? (isD a b)
theorem isD_iff {a b : Nat} {d : Door} : isD a b d = true ↔ d = (a, b) ∨ d = (b, a) := by simp [isD]
theorem isD_swap {a b : Nat} {d : Door} : isD a b d = isD b a d := by unfold isD; rw [Bool.or_comm]
section
variable {ds : List Door} {a b i : Nat}
theorem doorOf_swap : doorOf ds a b = doorOf ds b a := by unfold doorOf; congr 1; funext d; exact isD_swap
theorem doorOf_get (h : doorOf ds a b = some i) : ∃ d, ds[i]? = some d ∧ isD a b d = true := by
  unfold doorOf at h
  rw [List.findIdx?_eq_some_iff_getElem] at h
  obtain ⟨hi, hd, _⟩ := h
  exact ⟨ds[i], List.getElem?_eq_getElem hi, hd⟩
theorem HouseOk.door (g : HouseOk ds) {d : Door} (h : ds[i]? = some d) (hd : isD a b d = true) : doorOf ds a b = some i := by
  cases e : doorOf ds a b with
  | none =>
    unfold doorOf at e
    rw [List.findIdx?_eq_none_iff] at e
    have := e d (List.mem_of_getElem? h)
    rw [hd] at this
    cases this
  | some j =>
    obtain ⟨d', h', hd'⟩ := doorOf_get e
    have : i = j := by
      refine g.uniq i j d d' h h' ?_
      rcases isD_iff.mp hd with rfl | rfl <;> rcases isD_iff.mp hd' with rfl | rfl
      · exact .inl rfl
      · exact .inr rfl
      · exact .inr rfl
      · exact .inl rfl
    rw [this]
theorem HouseOk.none (g : HouseOk ds) (h : doorOf ds a b = none) {d : Door} (hd : d ∈ ds) : isD a b d = false := by
  unfold doorOf at h
  rw [List.findIdx?_eq_none_iff] at h
  simpa using h d hd
theorem HouseOk.lt (g : HouseOk ds) (h : doorOf ds a b = some i) : a < ds.length + 1 ∧ b < ds.length + 1 ∧ a ≠ b ∧ i < ds.length := by
  obtain ⟨d, h1, h2⟩ := doorOf_get h
  obtain ⟨e1, e2, e3⟩ := g.ends d (List.mem_of_getElem? h1)
  obtain ⟨hi, _⟩ := List.getElem?_eq_some_iff.mp h1
  rcases isD_iff.mp h2 with rfl | rfl
  · exact ⟨e1, e2, e3, hi⟩
  · exact ⟨e2, e1, e3.symm, hi⟩
end
/-! ### states, moves -/
structure PosOk (ds : List Door) (p : PosD) : Prop where
  ne : 0 < p.1.length
  few : p.1.length ≤ 3
  bl : p.2.length = ds.length
  room : ∀ (i r : Nat), p.1[i]? = some r → r < ds.length + 1
  bar : ∀ (i b : Nat), p.2[i]? = some b → b < p.1.length
def StepOk (ds : List Door) (n : Nat) (s : Stp) : Prop := s.1 < n ∧ ∃ i, doorOf ds s.2.1 s.2.2 = some i
def doorI (ds : List Door) (s : Stp) : Nat := (doorOf ds s.2.1 s.2.2).getD 0
/-- what stands against a move: nothing, the person is away (true), the door bars it (false) -/
def bl (ds : List Door) (p : PosD) (s : Stp) : Option Bool := if p.1.getD s.1 0 = s.2.1 then (if p.2.getD (doorI ds s) 0 = s.1 then some false else none) else some true
def mv (ds : List Door) (p : PosD) (s : Stp) : PosD := (p.1.set s.1 s.2.2, p.2.set (doorI ds s) s.1)
def runS (ds : List Door) : PosD → List Stp → Nat → (Nat × Bool) ⊕ PosD
  | p, [], _ => .inr p
  | p, s :: r, i => match bl ds p s with
    | some k => .inl (i, k)
    | none => runS ds (mv ds p s) r (i + 1)
theorem set_get {l : List Nat} {i j a r : Nat} (h : (l.set i a)[j]? = some r) : (j = i ∧ r = a) ∨ l[j]? = some r := by
  by_cases e : i = j
  · subst e
    have hi : i < l.length := by
      have := (List.getElem?_eq_some_iff.mp h).1
      rwa [List.length_set] at this
    rw [List.getElem?_set_self hi] at h
    exact .inl ⟨rfl, (Option.some.inj h).symm⟩
  · rw [List.getElem?_set_ne e] at h
    exact .inr h
section
variable {ds : List Door} {p q : PosD} {s : Stp} {n : Nat}
theorem runS_some {l : List Stp} {i : Nat} {k : Bool} (h : bl ds p s = some k) : runS ds p (s :: l) i = .inl (i, k) := by
  show (match bl ds p s with | some k => (Sum.inl (i, k) : (Nat × Bool) ⊕ PosD) | none => runS ds (mv ds p s) l (i + 1)) = _
  rw [h]
theorem runS_none {l : List Stp} {i : Nat} (h : bl ds p s = none) : runS ds p (s :: l) i = runS ds (mv ds p s) l (i + 1) := by
  show (match bl ds p s with | some k => (Sum.inl (i, k) : (Nat × Bool) ⊕ PosD) | none => runS ds (mv ds p s) l (i + 1)) = _
  rw [h]
theorem mv_len : (mv ds p s).1.length = p.1.length := by simp [mv]
theorem PosOk.mv (g : HouseOk ds) (h : PosOk ds p) (hs : StepOk ds p.1.length s) : PosOk ds (mv ds p s) := by
  obtain ⟨h1, i, hi⟩ := hs
  obtain ⟨_, l2, _, l4⟩ := g.lt hi
  refine ⟨by rw [mv_len]; exact h.ne, by rw [mv_len]; exact h.few, by show (p.2.set _ _).length = _; rw [List.length_set]; exact h.bl, fun j r e => ?_, fun j b e => ?_⟩
  · rcases set_get (show (p.1.set s.1 s.2.2)[j]? = some r from e) with ⟨_, rfl⟩ | e'
    · exact l2
    · exact h.room j r e'
  · rw [mv_len]
    rcases set_get (show (p.2.set (doorI ds s) s.1)[j]? = some b from e) with ⟨_, rfl⟩ | e'
    · exact h1
    · exact h.bar j b e'
theorem runS_ok (g : HouseOk ds) : ∀ (l : List Stp) (p q : PosD) (i : Nat), PosOk ds p → (∀ s ∈ l, StepOk ds p.1.length s) → runS ds p l i = .inr q → PosOk ds q ∧ q.1.length = p.1.length
  | [], p, q, i, h, _, e => by cases e; exact ⟨h, rfl⟩
  | s :: l, p, q, i, h, hs, e => by
    cases hb : bl ds p s with
    | some k => rw [runS_some hb] at e; cases e
    | none =>
      rw [runS_none hb] at e
      obtain ⟨h1, h2⟩ := runS_ok g l (K83.mv ds p s) q (i + 1) (h.mv g (hs s List.mem_cons_self)) (fun t ht => by rw [mv_len]; exact hs t (List.mem_cons_of_mem _ ht)) e
      exact ⟨h1, by rw [h2, mv_len]⟩
theorem runS_app : ∀ (l m : List Stp) (p q : PosD) (i : Nat), runS ds p l i = .inr q → runS ds p (l ++ m) i = runS ds q m (i + l.length)
  | [], m, p, q, i, e => by cases e; rfl
  | s :: l, m, p, q, i, e => by
    cases hb : bl ds p s with
    | some k => rw [runS_some hb] at e; cases e
    | none =>
      rw [runS_none hb] at e
      rw [List.cons_append, runS_none hb, runS_app l m _ q (i + 1) e, List.length_cons]
      congr 1
      omega
/-- the places do not matter where all goes well -/
theorem runS_any : ∀ (l : List Stp) (p q : PosD) (i j : Nat), runS ds p l i = .inr q → runS ds p l j = .inr q
  | [], p, q, i, j, e => by cases e; rfl
  | s :: l, p, q, i, j, e => by
    cases hb : bl ds p s with
    | some k => rw [runS_some hb] at e; cases e
    | none =>
      rw [runS_none hb] at e
      rw [runS_none hb]
      exact runS_any l _ q (i + 1) (j + 1) e
theorem runS_shift : ∀ (l : List Stp) (p : PosD) (i j k : Nat) (b : Bool), runS ds p l i = .inl (k, b) → runS ds p l (i + j) = .inl (k + j, b)
  | [], p, i, j, k, b, e => by cases e
  | s :: l, p, i, j, k, b, e => by
    cases hb : bl ds p s with
    | some c =>
      rw [runS_some hb] at e
      rw [runS_some hb]
      cases e
      rfl
    | none =>
      rw [runS_none hb] at e
      rw [runS_none hb]
      have := runS_shift l _ (i + 1) j k b e
      rw [show i + 1 + j = i + j + 1 by omega] at this
      exact this
end
/-! ### what the rooms' neighbours are -/
def nbrs : Nat → List Door → Nat → List (Nat × Nat)
  | _, [], _ => []
  | i, d :: ds, p => if d.1 = p ∨ d.2 = p then ((if d.1 = p then d.2 else d.1), i) :: nbrs (i + 1) ds p else nbrs (i + 1) ds p
theorem nbrs_snoc : ∀ (ds : List Door) (i : Nat) (d : Door) (p : Nat), nbrs i (ds ++ [d]) p = nbrs i ds p ++ if d.1 = p ∨ d.2 = p then [((if d.1 = p then d.2 else d.1), i + ds.length)] else []
  | [], i, d, p => by
    show (if d.1 = p ∨ d.2 = p then _ else _) = _
    split <;> simp [nbrs]
  | e :: ds, i, d, p => by
    show (if e.1 = p ∨ e.2 = p then ((if e.1 = p then e.2 else e.1), i) :: nbrs (i + 1) (ds ++ [d]) p else nbrs (i + 1) (ds ++ [d]) p) = (if e.1 = p ∨ e.2 = p then ((if e.1 = p then e.2 else e.1), i) :: nbrs (i + 1) ds p else nbrs (i + 1) ds p) ++ _
    have ih := nbrs_snoc ds (i + 1) d p
    rw [show i + 1 + ds.length = i + (e :: ds).length by rw [List.length_cons]; omega] at ih
    rw [ih]
    split
    · rw [List.cons_append]
    · rfl
theorem nbrs_len : ∀ (ds : List Door) (i p : Nat), (nbrs i ds p).length ≤ ds.length
  | [], _, _ => Nat.le_refl _
  | d :: ds, i, p => by
    have ih := nbrs_len ds (i + 1) p
    show (if d.1 = p ∨ d.2 = p then _ else _ : List (Nat × Nat)).length ≤ ds.length + 1
    split
    · rw [List.length_cons]; omega
    · omega
/-- a neighbour stands behind a door -/
theorem nbrs_mem : ∀ (ds : List Door) (i p : Nat) (x : Nat × Nat), x ∈ nbrs i ds p → ∃ j d, x.2 = i + j ∧ ds[j]? = some d ∧ isD p x.1 d = true
  | [], _, _, _, h => by cases h
  | d :: ds, i, p, x, h => by
    have h' : x ∈ (if d.1 = p ∨ d.2 = p then ((if d.1 = p then d.2 else d.1), i) :: nbrs (i + 1) ds p else nbrs (i + 1) ds p) := h
    have step : x ∈ nbrs (i + 1) ds p → ∃ j d', x.2 = i + j ∧ (d :: ds)[j]? = some d' ∧ isD p x.1 d' = true := fun m => by
      obtain ⟨j, d', e1, e2, e3⟩ := nbrs_mem ds (i + 1) p x m
      exact ⟨j + 1, d', by omega, by simpa using e2, e3⟩
    split at h'
    · rename_i hc
      rcases List.mem_cons.mp h' with rfl | m
      · refine ⟨0, d, rfl, rfl, isD_iff.mpr ?_⟩
        by_cases e : d.1 = p
        · simp only [if_pos e]
          exact .inl (Prod.ext e rfl)
        · simp only [if_neg e]
          exact .inr (Prod.ext rfl (hc.resolve_left e))
      · exact step m
    · exact step h'
theorem nbrs_of : ∀ (ds : List Door) (i p b j : Nat) (d : Door), p ≠ b → ds[j]? = some d → isD p b d = true → (b, i + j) ∈ nbrs i ds p
  | [], _, _, _, _, _, _, h, _ => by simp at h
  | e :: ds, i, p, b, 0, d, hne, h, hd => by
    have : e = d := by simpa using h
    subst this
    show _ ∈ (if e.1 = p ∨ e.2 = p then _ else _ : List (Nat × Nat))
    rcases isD_iff.mp hd with rfl | rfl
    · simp
    · have hb : b ≠ p := hne.symm
      simp [hb]
  | e :: ds, i, p, b, j + 1, d, hne, h, hd => by
    have ih := nbrs_of ds (i + 1) p b j d hne (by simpa using h) hd
    rw [show i + 1 + j = i + (j + 1) by omega] at ih
    show _ ∈ (if e.1 = p ∨ e.2 = p then _ else _ : List (Nat × Nat))
    split
    · exact List.mem_cons_of_mem _ ih
    · exact ih
section
variable {ds : List Door} {a b i : Nat}
theorem HouseOk.nbr (g : HouseOk ds) {x : Nat × Nat} (h : x ∈ nbrs 0 ds a) : doorOf ds a x.1 = some x.2 := by
  obtain ⟨j, d, e1, e2, e3⟩ := nbrs_mem ds 0 a x h
  rw [g.door e2 e3, e1, Nat.zero_add]
theorem HouseOk.nbr_of (g : HouseOk ds) (h : doorOf ds a b = some i) : (b, i) ∈ nbrs 0 ds a := by
  obtain ⟨d, h1, h2⟩ := doorOf_get h
  have := nbrs_of ds 0 a b i d (g.lt h).2.2.1 h1 h2
  simpa using this
end
end K83
/-! short steps of a reading -/
namespace K83
open PySem PySem.Spec PyProof.Rows L2
section
variable {K : PySem.W.Frag} {σ : L2.St} {H : Hp} {Q : VK} {QA : List V → Hp → Prop} {QB : Bool → Hp → Prop} {QO : Option Int → Hp → Prop} {v x y : V} {i j : Nat} {ta tb te tc : TE} {t u : TT} {tr ts : TA} {r : R2} {D : Ends} {s s' : TS} {g : TG}
theorem st_var (h : σ[i]? = some (some v)) (q : Q v H) : tVar i σ H Q := ⟨v, h, q⟩
theorem st_c (q : Q v H) : tC v σ H Q := q
theorem st_op (h : ta σ H fun x H1 => tb σ H1 fun y H2 => r x y H2 Q) : tOp r ta tb σ H Q := h
theorem st_un {r : V → Hp → VK → Prop} (h : ta σ H fun x H1 => r x H1 Q) : tUn r ta σ H Q := h
theorem st_nil (q : QA [] H) : tNil σ H QA := q
theorem st_cons (h : ta σ H fun x H1 => tr σ H1 fun xs H2 => QA (x :: xs) H2) : tCons ta tr σ H QA := h
theorem st_tup (h : tr σ H fun xs H1 => xs.length ≤ sizeLine ∧ ∀ p, H1 p = none → Q (.ref p) (upd H1 p (.tup xs))) : tTup tr σ H Q := h
theorem st_lst (h : tr σ H fun xs H1 => xs.length ≤ sizeLine ∧ ∀ p, H1 p = none → Q (.ref p) (upd H1 p (.lst xs))) : tLst tr σ H Q := h
theorem st_new {xs : List V} {R : Prop} (h : xs.length ≤ 1000) (q : R) : xs.length ≤ sizeLine ∧ R := ⟨by rw [sizeLine_eq]; omega, q⟩
theorem st_call {sp : Sp} {dvs : List V} {E : XK} (h : tr σ H fun vs H1 => sp (vs ++ dvs) H1 Q E) : tCall sp dvs E tr σ H Q := h
theorem st_cb {r : List V → Hp → VK → Prop} (h : tr σ H fun vs H1 => r vs H1 Q) : tCB r tr σ H Q := h
theorem st_test (h : ta σ H fun x H1 => ∃ k, x = .bl k ∧ QB k H1) : tTest ta σ H QB := h
theorem st_B (h : ta σ H fun x H1 => ∃ k, x = .bl k ∧ QB k H1) : tB ta σ H QB := h
theorem st_bl {c : Bool} (q : QB c H) : ∃ k, V.bl c = .bl k ∧ QB k H := ⟨c, rfl, q⟩
theorem st_and (h : t σ H fun c H1 => if c = true then u σ H1 QB else QB false H1) : tAnd t u σ H QB := h
theorem st_or (h : t σ H fun c H1 => if c = true then QB true H1 else u σ H1 QB) : tOr t u σ H QB := h
theorem st_not (h : t σ H fun c H1 => QB (!c) H1) : tNot t σ H QB := h
theorem st_andV (h : ta σ H fun x H1 => ∃ c, x = .bl c ∧ if c = true then tb σ H1 Q else Q (.bl false) H1) : tAndV ta tb σ H Q := h
theorem st_orV (h : ta σ H fun x H1 => ∃ c, x = .bl c ∧ if c = true then Q (.bl true) H1 else tb σ H1 Q) : tOrV ta tb σ H Q := h
theorem st_notV (h : ta σ H fun x H1 => ∃ c, x = .bl c ∧ Q (.bl (!c)) H1) : tNotV ta σ H Q := h
theorem st_blV {c : Bool} {R : Bool → Prop} (q : R c) : ∃ k, V.bl c = .bl k ∧ R k := ⟨c, rfl, q⟩
theorem st_if (h : t σ H fun c H1 => if c = true then ta σ H1 Q else tb σ H1 Q) : tIf t ta tb σ H Q := h
theorem st_noPart (q : QO none H) : tNoPart σ H QO := q
theorem st_part (h : ta σ H fun x H1 => ∃ i, x = .int i ∧ QO (some i) H1) : tPart ta σ H QO := h
theorem st_intV {i : Int} {R : Int → Prop} (q : R i) : ∃ k, V.int i = .int k ∧ R k := ⟨i, rfl, q⟩
theorem st_sl {r : V → Option Int → Option Int → Hp → VK → Prop} {tl th : TO} (h : ta σ H fun x H1 => tl σ H1 fun l H2 => th σ H2 fun u H3 => r x l u H3 Q) : tSl r ta tl th σ H Q := h
theorem st_bm {T : String} {r : V → List V → Hp → VK → Prop} (h : ta σ H fun x H1 => tyV K T x H1 ∧ tr σ H1 fun xs H2 => r x xs H2 Q) : tBM K T r ta tr σ H Q := h
theorem st_bm0 {T : String} {r : V → List V → Hp → VK → Prop} (h : ta σ H fun x H1 => tyV K T x H1 ∧ r x [] H1 Q) : tBM0 K T r ta σ H Q := h
theorem st_fld {f : Str} (h : ta σ H fun x H1 => ∃ a C dx fs v, x = .ref a ∧ H1 a = some (.ins C dx fs) ∧ Cls K C ∧ NoAttr K C f ∧ fs.lookup f = some v ∧ Q v H1) : tFld K ta f σ H Q := h
theorem st_meth {C : Addr} {m : Str} {sp : Sp} {dvs : List V} {E : XK} (h : ta σ H fun x H1 => ∃ a dx fs, x = .ref a ∧ H1 a = some (.ins C dx fs) ∧ fs.lookup m = none ∧ tr σ H1 fun vs H2 => sp (x :: (vs ++ dvs)) H2 Q E) : tMeth C m sp dvs E ta tr σ H Q := h
-- results of operators
theorem st_I0 {g : Int → Int → V} {a b : Int} (q : Q (g a b) H) : rI0 g (.int a) (.int b) H Q := ⟨a, b, rfl, rfl, q⟩
theorem st_I {C : Int → Int → Prop} {g : Int → Int → V} {a b : Int} (c : C a b) (q : Q (g a b) H) : rI C g (.int a) (.int b) H Q := ⟨a, b, rfl, rfl, c, q⟩
theorem st_U {g : Int → V} {a : Int} (q : Q (g a) H) : rU g (.int a) H Q := ⟨a, rfl, q⟩
theorem st_eqI {a b : Int} (q : Q (.bl (decide (a = b))) H) : rEq (.int a) (.int b) H Q := ⟨rfl, by
  have e : decide (V.int a = V.int b) = decide (a = b) := by
    by_cases h : a = b
    · rw [h, decide_eq_true rfl, decide_eq_true rfl]
    · rw [decide_eq_false h, decide_eq_false fun z => h (V.int.inj z)]
  rw [e]
  exact q⟩
theorem st_neI {a b : Int} (q : Q (.bl (!decide (a = b))) H) : rNe (.int a) (.int b) H Q := ⟨rfl, by
  have e : decide (V.int a = V.int b) = decide (a = b) := by
    by_cases h : a = b
    · rw [h, decide_eq_true rfl, decide_eq_true rfl]
    · rw [decide_eq_false h, decide_eq_false fun z => h (V.int.inj z)]
  rw [e]
  exact q⟩
theorem st_eqS {a b : Str} (q : Q (.bl (decide (V.str a = V.str b))) H) : rEq (.str a) (.str b) H Q := ⟨rfl, q⟩
theorem st_neS {a b : Str} (q : Q (.bl (!decide (V.str a = V.str b))) H) : rNe (.str a) (.str b) H Q := ⟨rfl, q⟩
theorem st_ixT {p : Addr} {xs : List V} {i : Int} (h : SqT K H p xs) (a : atI xs i = some v) (q : Q v H) : rIxT K (.ref p) (.int i) H Q := ⟨p, xs, i, v, rfl, rfl, h, a, q⟩
theorem st_ixL {p : Addr} {xs : List V} {i : Int} (h : SqL K H p xs) (a : atI xs i = some v) (q : Q v H) : rIxL K (.ref p) (.int i) H Q := ⟨p, xs, i, v, rfl, rfl, h, a, q⟩
theorem at_nat {xs : List V} {n : Nat} (h : xs[n]? = some v) : atI xs (n : Int) = some v := atI_nat h
-- statements
theorem st_asg (h : te σ H fun x H1 => g x σ H1 D.nx) : tAsg te g D σ H := h
theorem st_name {R : L2.St → Hp → Prop} (h : R (σ.set i (some v)) H) : gName i v σ H R := h
theorem st_ret (h : te σ H D.rt) : tRet te D σ H := h
theorem st_ifs (h : t σ H fun b H1 => if b = true then s D σ H1 else s' D σ H1) : tIfS t s s' D σ H := h
theorem st_drop (h : te σ H fun _ H1 => D.nx σ H1) : tDrop te D σ H := h
theorem st_seqA (h : te σ H fun x H1 => s D (σ.set i (some x)) H1) : tSeq (tAsg te (gName i)) s D σ H := h
theorem st_seqG (h : te σ H fun x H1 => g x σ H1 (s D)) : tSeq (tAsg te g) s D σ H := h
theorem st_seqD (h : te σ H fun _ H1 => s D σ H1) : tSeq (tDrop te) s D σ H := h
theorem st_seqI {a : TS} (h : t σ H fun b H1 => if b = true then a { D with nx := s D } σ H1 else s D σ H1) : tSeq (tIfS t a tNext) s D σ H := h
theorem st_seqIE {a b : TS} (h : t σ H fun c H1 => if c = true then a { D with nx := s D } σ H1 else b { D with nx := s D } σ H1) : tSeq (tIfS t a b) s D σ H := h
theorem st_gtup {n : Nat} {tg : TGs} {a : Addr} {xs : List V} {R : L2.St → Hp → Prop} (h : SqT K H a xs) (l : xs.length = n) (q : tg xs σ H R) : gTup K n tg (.ref a) σ H R := ⟨a, xs, rfl, h, l, q⟩
theorem st_gunl {n : Nat} {tg : TGs} {a : Addr} {xs : List V} {R : L2.St → Hp → Prop} (h : SqL K H a xs) (l : xs.length = n) (q : tg xs σ H R) : gUnl K n tg (.ref a) σ H R := ⟨a, xs, rfl, h, l, q⟩
theorem st_gcons {tg : TGs} {xs : List V} {R : L2.St → Hp → Prop} (h : g v σ H fun σ' H' => tg xs σ' H' R) : gCons g tg (v :: xs) σ H R := ⟨v, xs, rfl, h⟩
theorem st_gnil {R : L2.St → Hp → Prop} (h : R σ H) : gNil [] σ H R := ⟨rfl, h⟩
theorem st_sfld {f : Str} {tv : TE} (h : tv σ H fun y H1 => ta σ H1 fun x H2 => ∃ a C dx fs, x = .ref a ∧ H2 a = some (.ins C dx fs) ∧ Cls K C ∧ NoAttr K C f ∧ fs.length < 1000 ∧ D.nx σ (upd H2 a (.ins C dx (putF f y fs)))) : sFld K ta tv f D σ H := h
theorem st_seqF {f : Str} {tv : TE} (h : tv σ H fun y H1 => ta σ H1 fun x H2 => ∃ a C dx fs, x = .ref a ∧ H2 a = some (.ins C dx fs) ∧ Cls K C ∧ NoAttr K C f ∧ fs.length < 1000 ∧ s D σ (upd H2 a (.ins C dx (putF f y fs)))) : tSeq (sFld K ta tv f) s D σ H := h
theorem iteNT {A B : Prop} (h : B) : if (!true) = true then A else B := by
  rw [Bool.not_true, if_neg Bool.false_ne_true]
  exact h
theorem iteNF {A B : Prop} (h : A) : if (!false) = true then A else B := by
  rw [Bool.not_false, if_pos rfl]
  exact h
def rLenA (K : PySem.W.Frag) : List V → Hp → VK → Prop := fun xs H Q => ∃ p ys, xs = [.ref p] ∧ (SqL K H p ys ∨ SqT K H p ys) ∧ Q (.int ys.length) H
def rListA (K : PySem.W.Frag) : List V → Hp → VK → Prop := fun xs H Q => ∃ p ys, xs = [.ref p] ∧ (SqL K H p ys ∨ SqT K H p ys) ∧ ∀ l, H l = none → Q (.ref l) (upd H l (.lst ys))
def rTupA (K : PySem.W.Frag) : List V → Hp → VK → Prop := fun xs H Q => ∃ p ys, xs = [.ref p] ∧ ((SqL K H p ys ∧ ∀ l, H l = none → Q (.ref l) (upd H l (.tup ys))) ∨ (SqT K H p ys ∧ Q (.ref p) H))
def rInt1A : List V → Hp → VK → Prop := fun xs H Q => (∃ i, xs = [.int i] ∧ Q (.int i) H) ∨ ∃ k, xs = [.bl k] ∧ Q (.int (if k then 1 else 0)) H
def rMax2A : List V → Hp → VK → Prop := fun xs H Q => ∃ i j, xs = [.int i, .int j] ∧ Q (.int (if j > i then j else i)) H
theorem st_lenT {a : Addr} {xs : List V} (h : SqT K H a xs) (q : Q (.int xs.length) H) : rLenA K [.ref a] H Q := ⟨a, xs, rfl, .inr h, q⟩
theorem st_lenL {a : Addr} {xs : List V} (h : SqL K H a xs) (q : Q (.int xs.length) H) : rLenA K [.ref a] H Q := ⟨a, xs, rfl, .inl h, q⟩
theorem st_listL {a : Addr} {xs : List V} (h : SqL K H a xs) (q : ∀ l, H l = none → Q (.ref l) (upd H l (.lst xs))) : rListA K [.ref a] H Q := ⟨a, xs, rfl, .inl h, q⟩
theorem st_listT {a : Addr} {xs : List V} (h : SqT K H a xs) (q : ∀ l, H l = none → Q (.ref l) (upd H l (.lst xs))) : rListA K [.ref a] H Q := ⟨a, xs, rfl, .inr h, q⟩
theorem st_tupL {a : Addr} {xs : List V} (h : SqL K H a xs) (q : ∀ l, H l = none → Q (.ref l) (upd H l (.tup xs))) : rTupA K [.ref a] H Q := ⟨a, xs, rfl, .inl ⟨h, q⟩⟩
theorem st_int1B {k : Bool} (q : Q (.int (if k then 1 else 0)) H) : rInt1A [.bl k] H Q := .inr ⟨k, rfl, q⟩
theorem st_max2 {a b : Int} (q : Q (.int (if b > a then b else a)) H) : rMax2A [.int a, .int b] H Q := ⟨a, b, rfl, q⟩
theorem iteDT {c A B : Prop} [Decidable c] (hc : c) (h : A) : if decide c = true then A else B := by
  rw [decide_eq_true hc]
  exact iteT h
theorem iteDF {c A B : Prop} [Decidable c] (hc : ¬ c) (h : B) : if decide c = true then A else B := by
  rw [decide_eq_false hc]
  exact iteF h
theorem iteNDF {c A B : Prop} [Decidable c] (hc : ¬ c) (h : A) : if (!decide c) = true then A else B := by
  rw [decide_eq_false hc]
  exact iteNF h
theorem st_lstRg {tg : L2.St → Hp → (Int → Int → Hp → Prop) → Prop} (h : tg σ H fun a b H1 => RgOk a b ∧ ∀ q, H1 q = none → Q (.ref q) (upd H1 q (.lst (rgV a b)))) : tLstRg tg σ H Q := h
theorem st_rg1 {R : Int → Int → Hp → Prop} (h : ta σ H fun x H1 => ∃ n, x = .int n ∧ R 0 n H1) : tRg1 ta σ H R := h
theorem st_seqFor {wi : TI} {tb : TS} (h : tFor wi g tb { D with nx := s D } σ H) : tSeq (tFor wi g tb) s D σ H := h
theorem st_dget (h : ta σ H fun x H1 => tb σ H1 fun y H2 => ∃ a v, x = .ref a ∧ DGet H2 a y (some v) ∧ Q v H2) : tDGet ta tb σ H Q := h
theorem st_isi {n t : String} {b : Bool} (ty : TyX K H x (.type t)) (h : kitB t n = some b) (q : Q (.bl b) H) : rIsi K [x, .ty n] H Q := ⟨x, .ty n, .type t, .type n, b, rfl, .ty n, ty, kit_ty h, q⟩
theorem st_isiII {a : Int} (q : Q (.bl true) H) : rIsi K [.int a, .ty "int"] H Q := st_isi (.base (.int a)) (by decide +kernel) q
theorem st_isiIB {a : Int} (q : Q (.bl false) H) : rIsi K [.int a, .ty "bool"] H Q := st_isi (.base (.int a)) (by decide +kernel) q
theorem st_isiNL (q : Q (.bl false) H) : rIsi K [.non, .ty "list"] H Q := st_isi (.base .non) (by decide +kernel) q
theorem tyT {a : Addr} {xs : List V} (h : SqT K H a xs) : TyX K H (.ref a) (.type "tuple") := by
  rcases h with (h | ⟨o, h⟩) | h
  · exact .base (.tup h)
  · exact .fTuple h
  · obtain ⟨o, its, n, h1, h2, _⟩ := h
    exact .kTuple h1 h2
theorem st_isiTT {a : Addr} {xs : List V} (h : SqT K H a xs) (q : Q (.bl true) H) : rIsi K [.ref a, .ty "tuple"] H Q := st_isi (tyT h) (by decide +kernel) q
theorem st_isiTL {a : Addr} {xs : List V} (h : SqT K H a xs) (q : Q (.bl false) H) : rIsi K [.ref a, .ty "list"] H Q := st_isi (tyT h) (by decide +kernel) q
theorem st_isiLL {a : Addr} {xs : List V} (h : H a = some (.lst xs)) (q : Q (.bl true) H) : rIsi K [.ref a, .ty "list"] H Q := st_isi (.base (.lst h)) (by decide +kernel) q
end
section
variable {X : Cx}
theorem call_lenA : CallR X (.builtin "len") (rLenA X.K) := call_len_seq
theorem call_listA : CallR X (.type "list") (rListA X.K) := call_list_of
theorem call_tupA : CallR X (.type "tuple") (rTupA X.K) := call_tuple_of
theorem call_int1A : CallR X (.type "int") rInt1A := call_int1
theorem call_max2A (hc : X.calm = true) : CallR X (.builtin "max") rMax2A := call_max2 hc
end
end K83
/-! comprehensions, numbers -/
namespace K83
open PySem PySem.Spec PyProof.Rows L2
theorem map_getD {l : List Nat} {i : Nat} (h : i < l.length) : (l.map vI)[i]? = some (vI (l.getD i 0)) := by
  rw [List.getElem?_map, List.getElem?_eq_getElem h]
  simp [List.getD, List.getElem?_eq_getElem h]
theorem map_get {l : List Nat} {i r : Nat} (h : l[i]? = some r) : (l.map vI)[i]? = some (vI r) := by
  rw [List.getElem?_map, h]
  rfl
theorem getD_of {l : List Nat} {i r : Nat} (h : l[i]? = some r) : l.getD i 0 = r := by simp [List.getD, h]
theorem get_of {l : List Nat} {i : Nat} (h : i < l.length) : l[i]? = some (l.getD i 0) := by simp [List.getD, List.getElem?_eq_getElem h]
theorem at_map {l : List Nat} {i : Nat} (h : i < l.length) : atI (l.map vI) (i : Int) = some (vI (l.getD i 0)) := atI_nat (map_getD h)
theorem rgV_range (n : Nat) : rgV 0 (n : Int) = (List.range n).map vI := by
  unfold rgV
  rw [show ((n : Int) - 0).toNat = n by omega]
  exact List.map_congr_left fun i _ => by rw [Int.zero_add]
theorem small16 {n : Nat} (h : n < 1000) : n < sizeLine := by rw [sizeLine_eq]; omega
theorem yes_ {σ : L2.St} {H : Hp} {Q : Bool → Hp → Prop} (h : Q true H) : tYes σ H Q := h
section
variable {K : PySem.W.Frag} {a : Addr} {xs : List V} {j : Nat} {vs : List Nat} {te : TE} {σ : L2.St} {H1 : Hp} {D : Addr} {Qd : Hp → Prop}
/-- [e for x in l], e makes nothing but values -/
theorem lc_mapL (f : V → V) (hD : H1 D = none) (hx : SqL K H1 a xs) (hz : xs.length < 1000) (hw : ∀ x, wipe ((wipe σ vs).set j (some x)) vs = wipe σ vs)
    (he : ∀ x H2 (Q : VK), x ∈ xs → Same H1 H2 → Q (f x) H2 → te ((wipe σ vs).set j (some x)) H2 Q) (hd : ∀ H2, Same H1 H2 → H2 D = some (.lst (xs.map f)) → Qd H2) :
    ∃ W : Nat → Nat → Hp → Prop, (∃ m, W 0 m (upd H1 D (.lst []))) ∧ ∀ i m H, W i m H →
      ((Itl K a).stop i H ∧ Qd H) ∨ ((Itl K a).go i H ∧ ∃ Nx : Hp → Prop, (∀ H', Nx H' → ∃ m', m' < m ∧ W (i + 1) m' H') ∧ ∀ x H', (Itl K a).yld i H x H' → (gName j) x (wipe σ vs) H' fun σ2 H2 => wipe σ2 vs = wipe σ vs ∧ tYes σ2 H2 fun b H3 =>
        if b = true then te σ2 H3 fun y H4 => ∃ acc, H4 D = some (.lst acc) ∧ acc.length < sizeLine ∧ Nx (upd H4 D (.lst (acc ++ [y]))) else Nx H3) :=
  lc_list (xs := xs) (fun i H2 => Same H1 H2 ∧ H2 D = some (.lst ((xs.take i).map f))) ⟨Same.new hD, upd_same⟩ (fun i H2 _ p => p.1.seq hx) (fun i x H2 hi p => ⟨hw x, by
    refine yes_ (iteT ?_)
    refine he x H2 _ (List.mem_of_getElem? hi) p.1 ?_
    have hlt := (List.getElem?_eq_some_iff.mp hi).1
    refine ⟨_, p.2, small16 (by rw [List.length_map, List.length_take]; omega), Same.mut p.1 hD, ?_⟩
    rw [upd_same, List.take_add_one, hi, List.map_append]
    rfl⟩) fun H2 p => hd H2 p.1 (by rw [p.2, List.take_length])
theorem lc_mapT (f : V → V) (hD : H1 D = none) (hx : SqT K H1 a xs) (hz : xs.length < 1000) (hw : ∀ x, wipe ((wipe σ vs).set j (some x)) vs = wipe σ vs)
    (he : ∀ x H2 (Q : VK), x ∈ xs → Same H1 H2 → Q (f x) H2 → te ((wipe σ vs).set j (some x)) H2 Q) (hd : ∀ H2, Same H1 H2 → H2 D = some (.lst (xs.map f)) → Qd H2) :
    ∃ W : Nat → Nat → Hp → Prop, (∃ m, W 0 m (upd H1 D (.lst []))) ∧ ∀ i m H, W i m H →
      ((Itt K a).stop i H ∧ Qd H) ∨ ((Itt K a).go i H ∧ ∃ Nx : Hp → Prop, (∀ H', Nx H' → ∃ m', m' < m ∧ W (i + 1) m' H') ∧ ∀ x H', (Itt K a).yld i H x H' → (gName j) x (wipe σ vs) H' fun σ2 H2 => wipe σ2 vs = wipe σ vs ∧ tYes σ2 H2 fun b H3 =>
        if b = true then te σ2 H3 fun y H4 => ∃ acc, H4 D = some (.lst acc) ∧ acc.length < sizeLine ∧ Nx (upd H4 D (.lst (acc ++ [y]))) else Nx H3) :=
  lc_tup (xs := xs) (fun i H2 => Same H1 H2 ∧ H2 D = some (.lst ((xs.take i).map f))) ⟨Same.new hD, upd_same⟩ (fun i H2 _ p => (TK.same p.1).seq hx) (fun i x H2 hi p => ⟨hw x, by
    refine yes_ (iteT ?_)
    refine he x H2 _ (List.mem_of_getElem? hi) p.1 ?_
    have hlt := (List.getElem?_eq_some_iff.mp hi).1
    refine ⟨_, p.2, small16 (by rw [List.length_map, List.length_take]; omega), Same.mut p.1 hD, ?_⟩
    rw [upd_same, List.take_add_one, hi, List.map_append]
    rfl⟩) fun H2 p => hd H2 p.1 (by rw [p.2, List.take_length])
end
end K83
/-! more steps -/
namespace K83
open PySem PySem.Spec PyProof.Rows L2
theorem bt_isinstance : bootBuiltins "isinstance" = some (.builtin "isinstance") := by decide +kernel
theorem bt_len : bootBuiltins "len" = some (.builtin "len") := by decide +kernel
theorem bt_list : bootBuiltins "list" = some (.type "list") := by decide +kernel
theorem bt_tuple : bootBuiltins "tuple" = some (.type "tuple") := by decide +kernel
theorem bt_int : bootBuiltins "int" = some (.type "int") := by decide +kernel
theorem bt_bool : bootBuiltins "bool" = some (.type "bool") := by decide +kernel
theorem bt_max : bootBuiltins "max" = some (.builtin "max") := by decide +kernel
theorem bt_all : bootBuiltins "all" = some (.builtin "all") := by decide +kernel
theorem bt_sorted : bootBuiltins "sorted" = some (.builtin "sorted") := by decide +kernel
/-! ### x in t, both data -/
def rInTD (K : PySem.W.Frag) : R2 := fun x y H Q => ∃ d ds, Im K H x d ∧ Im K H y (.tuple ds) ∧ SeqAt.shaped d = true ∧ SeqAt.shaped (.tuple ds) = true ∧ Q (.bl (ds.any fun z => PyData.eqv z d)) H
def rEqE (K : PySem.W.Frag) : R2 := fun x y H Q => ∃ d e, Dp K H x d ∧ Dp K H y e ∧ SeqAt.shaped d = true ∧ SeqAt.shaped e = true ∧ Q (.bl (PyData.eqv d e)) H
section
variable {X : Cx}
theorem op_inTD (hu : X.A.units + 65 < cLine) : OpR X (compareOp .In) (rInTD X.K) := fun pins s σ H x y v u Q I rx ry ⟨d, ds, hd, he, sd, se, q⟩ => by
  obtain ⟨_, r1⟩ := Dp.reads I d x v hd.dp rx
  obtain ⟨_, r2⟩ := Dp.reads I (.tuple ds) y u he.dp ry
  exact SeqAt.in_tuple_reads r2 r1 (SeqAt.canLay_of_shaped se) (SeqAt.canLay_of_shaped sd) (PyProof.Rows.room_in_shaped sd hu) ⟨.bl _, H, I, rfl, q⟩
end
section
variable {K : PySem.W.Frag} {σ : L2.St} {H : Hp} {Q : VK} {v x y : V} {ta tb te tc : TE} {a l p : Addr} {xs ys : List V}
theorem st_isNN (q : Q (.bl true) H) : rIsN .non .non H Q := ⟨rfl, q⟩
theorem st_isNR (q : Q (.bl false) H) : rIsN (.ref a) .non H Q := ⟨rfl, q⟩
theorem st_isNI {i : Int} (q : Q (.bl false) H) : rIsN (.int i) .non H Q := ⟨rfl, q⟩
theorem st_notNN (q : Q (.bl false) H) : rNotN .non .non H Q := ⟨rfl, q⟩
theorem st_notNR (q : Q (.bl true) H) : rNotN (.ref a) .non H Q := ⟨rfl, q⟩
theorem st_append (h : H l = some (.lst xs)) (hz : xs.length < 1000) (q : Q .non (upd H l (.lst (xs ++ [y])))) : rAppend (.ref l) [y] H Q := ⟨l, xs, y, rfl, rfl, h, small16 hz, q⟩
theorem st_setL {k j : Int} {n : Nat} {R : Hp → Prop} (h : H p = some (.lst xs)) (e : ixN xs.length k = some n) (q : R (upd H p (.lst (xs.set n v)))) : rSetL (.ref p) (.int k) v H R := ⟨p, xs, k, n, rfl, rfl, h, e, q⟩
theorem st_inTD {d : PyData} {ds : List PyData} {j k : Nat} (hd : Im K H x d) (he : Im K H y (.tuple ds)) (sd : Sh j d) (se : Sh k (.tuple ds)) (hj : j ≤ 64) (hk : k ≤ 64) (q : Q (.bl (ds.any fun z => PyData.eqv z d)) H) : rInTD K x y H Q :=
  ⟨d, ds, hd, he, sd.ok hj, se.ok hk, q⟩
theorem st_eqD {d e : PyData} {j k : Nat} (hd : Dp K H x d) (he : Dp K H y e) (sd : Sh j d) (se : Sh k e) (hj : j ≤ 64) (hk : k ≤ 64) (q : Q (.bl (PyData.eqv d e)) H) : rEqD K x y H Q := ⟨d, e, hd, he, sd.ok hj, se.ok hk, q⟩
theorem st_neD {d e : PyData} {j k : Nat} (hd : Dp K H x d) (he : Dp K H y e) (sd : Sh j d) (se : Sh k e) (hj : j ≤ 64) (hk : k ≤ 64) (q : Q (.bl (!PyData.eqv d e)) H) : rNeD K x y H Q := ⟨d, e, hd, he, sd.ok hj, se.ok hk, q⟩
theorem ixN_nat {n i : Nat} (h : i < n) : ixN n (i : Int) = some i := by
  unfold ixN
  first
    | (rw [if_pos (by omega), Int.toNat_natCast]; done)
    | (simp; omega)
    | simp [h]
/-! ### equality of the data -/
theorem eqv_int (i j : Int) : PyData.eqv (.int i) (.int j) = decide (i = j) := by
  by_cases h : i = j
  · subst h; simp [PyData.eqv]
  · simp [PyData.eqv, h]
theorem eqv_ints : ∀ ns ms : List Nat, PyData.eqvAll (ns.map dI) (ms.map dI) = decide (ns = ms)
  | [], [] => by simp [PyData.eqvAll]
  | [], _ :: _ => by simp [PyData.eqvAll]
  | _ :: _, [] => by simp [PyData.eqvAll]
  | n :: ns, m :: ms => by
    have ih := eqv_ints ns ms
    have hz : ((n : Int) = m) ↔ n = m := by omega
    simp only [List.map_cons, PyData.eqvAll, eqv_int, ih]
    by_cases h : n = m
    · subst h; simp
    · simp [h, hz]
end
end K83
/-! objects on the heap -/
namespace K83
open PySem PySem.Spec PyProof.Rows L2
theorem room65 {k : Nat} {A : Around} (r : Room k A) : A.units + 65 < cLine := by have := r.un; omega
theorem room1 {k : Nat} {A : Around} (r : Room k A) : A.units + 1 < cLine := by have := r.un; omega
section
variable {K : PySem.W.Frag} {H H' B : Hp} {Q : VK} {v x : V} {a p s hi : Addr} {ds : List Door}
theorem st_fldQ {C dx : Addr} {fs : List (Str × V)} {f : Str} (h : H a = some (.ins C dx fs)) (c : Cls K C) (n : NoAttr K C f) (l : fs.lookup f = some v) {R : V → Prop} (q : R v) :
    ∃ a' C dx fs v', V.ref a = .ref a' ∧ H a' = some (.ins C dx fs) ∧ Cls K C ∧ NoAttr K C f ∧ fs.lookup f = some v' ∧ R v' := ⟨a, C, dx, fs, v, rfl, h, c, n, l, q⟩
theorem st_sfldQ {C dx : Addr} {fs gs : List (Str × V)} {f : Str} {y : V} {R : Addr → Hp → Prop} (h : H a = some (.ins C dx fs)) (c : Cls K C) (n : NoAttr K C f) (l : fs.length < 1000) (e : putF f y fs = gs) (q : R a (upd H a (.ins C dx gs))) :
    ∃ a' C dx fs, V.ref a = .ref a' ∧ H a' = some (.ins C dx fs) ∧ Cls K C ∧ NoAttr K C f ∧ fs.length < 1000 ∧ R a' (upd H a' (.ins C dx (putF f y fs))) := ⟨a, C, dx, fs, rfl, h, c, n, l, by rw [e]; exact q⟩
theorem st_methQ {C dx : Addr} {fs : List (Str × V)} {m : Str} {R : Addr → Prop} (h : H a = some (.ins C dx fs)) (l : fs.lookup m = none) (q : R a) :
    ∃ a' dx fs, V.ref a = .ref a' ∧ H a' = some (.ins C dx fs) ∧ fs.lookup m = none ∧ R a' := ⟨a, dx, fs, rfl, h, l, q⟩
theorem st_allT {l : List V} (h : SqL K H a (l.map fun _ => V.bl true)) (q : Q (.bl true) H) : rAll K [.ref a] H Q := by
  refine ⟨a, l.map fun _ => true, rfl, by rw [List.map_map]; exact h, ?_⟩
  have e : (l.map fun _ => true).all id = true := by simp
  rw [e]
  exact q
theorem st_sl13 {z : V} (h : SqT K H a [v, x, z]) (q : ∀ p, H p = none → Q (.ref p) (upd H p (.tup [x, z]))) : rSlA K (.ref a) (some 1) none H Q :=
  ⟨a, _, rfl, h, fun e => absurd e (show ¬ (HT.sIx 3 0 (some 1) = 0 ∧ HT.sIx 3 3 none = 3) by decide), fun _ p np => q p np⟩
theorem st_sl3b {z : V} (h : SqT K H a [v, x, z]) (q : ∀ p, H p = none → Q (.ref p) (upd H p (.tup [z, x]))) : rSlK K (.ref a) none (some 0) (-1) H Q :=
  ⟨a, _, rfl, h, by decide, 2, 2, (show (Builtin.Slice.sliceAdjust none (some 0) (-1) 3).1 = 2 by decide), (show Builtin.Slice.slicePlaces 2 (Builtin.Slice.sliceAdjust none (some 0) (-1) 3).2 (-1) = 2 by decide), by decide, fun e => absurd e (show ¬ ((2 : Int) == 0 && (-1 : Int) == 1 && (2 : Nat) == 3) = true by decide), fun _ p np => q p np⟩
theorem st_sl2f (h : SqT K H a [v, x]) (q : Q (.ref a) H) : rSlK K (.ref a) none none 1 H Q :=
  ⟨a, _, rfl, h, by decide, 0, 2, (show (Builtin.Slice.sliceAdjust none none (1) 2).1 = 0 by decide), (show Builtin.Slice.slicePlaces 0 (Builtin.Slice.sliceAdjust none none (1) 2).2 (1) = 2 by decide), by decide, fun _ => q, fun e => absurd e (show ¬ ((0 : Int) == 0 && (1 : Int) == 1 && (2 : Nat) == 2) = false by decide)⟩
theorem st_sl2b (h : SqT K H a [v, x]) (q : ∀ p, H p = none → Q (.ref p) (upd H p (.tup [x, v]))) : rSlK K (.ref a) none none (-1) H Q :=
  ⟨a, _, rfl, h, by decide, 1, 2, (show (Builtin.Slice.sliceAdjust none none (-1) 2).1 = 1 by decide), (show Builtin.Slice.slicePlaces 1 (Builtin.Slice.sliceAdjust none none (-1) 2).2 (-1) = 2 by decide), by decide, fun e => absurd e (show ¬ ((1 : Int) == 0 && (-1 : Int) == 1 && (2 : Nat) == 2) = true by decide), fun _ p np => q p np⟩
theorem eqv_dInts (ns ms : List Nat) : PyData.eqv (dInts ns) (dInts ms) = decide (ns = ms) := by
  unfold dInts
  rw [PyData.eqv, eqv_ints]
theorem eqv_dPair (d e : Door) : PyData.eqv (dPair d) (dPair e) = decide (d = e) := by
  show PyData.eqv (dInts [d.1, d.2]) (dInts [e.1, e.2]) = _
  rw [eqv_dInts]
  by_cases h : d = e
  · subst h; simp
  · rw [decide_eq_false h, decide_eq_false fun z => h ?_]
    simp at z
    exact Prod.ext z.1 z.2
theorem any_pair (ds : List Door) (e : Door) : ((ds.map dPair).any fun z => PyData.eqv z (dPair e)) = decide (e ∈ ds) := by
  rw [List.any_map]
  by_cases h : e ∈ ds
  · rw [decide_eq_true h, List.any_eq_true]
    exact ⟨e, h, by simp [eqv_dPair]⟩
  · rw [decide_eq_false h, List.any_eq_false]
    intro x hx
    simp only [Function.comp, eqv_dPair]
    simp
    rintro rfl
    exact h hx
theorem iteNDT {c A B : Prop} [Decidable c] (hc : c) (h : B) : if (!decide c) = true then A else B := by
  rw [decide_eq_true hc]
  exact iteNT h
theorem st_sl3 {σ : L2.St} {r : V → Option Int → Option Int → Int → Hp → VK → Prop} {te ts : TE} {tl th : TO} (h : te σ H fun x H1 => tl σ H1 fun l H2 => th σ H2 fun u H3 => tPart ts σ H3 fun o H4 => ∃ k, o = some k ∧ r x l u k H4 Q) : tSl3 r te tl th ts σ H Q := h
theorem st_someV {j : Int} {R : Int → Prop} (q : R j) : ∃ k, some j = some k ∧ R k := ⟨j, rfl, q⟩
theorem Kp1.ins {C dx : Addr} {fs : List (Str × V)} (k : Kp1 p H H') (h : H p = some (.ins C dx fs)) : TK H H' := TK.but (nrd_ins h) fun b o hb e => k b o e hb
theorem Kp1.refl : Kp1 p H H := fun _ _ e _ => e
theorem Kp1.mut {o : HO} (k : Kp1 p H H') (h : H a = none) : Kp1 p H (L2.upd H' a o) := fun b u e hb => by
  rw [upd_ne (ne_of_none e h)]
  exact k b u e hb
theorem Kp1.then {H2 : Hp} (k : Kp1 p H H') (h : Same H' H2) : Kp1 p H H2 := fun b u e hb => h _ _ (k b u e hb)
/-- the door between two rooms, of the first i -/
def doorTo (ds : List Door) (i a b : Nat) : Option Nat := (doorOf ds a b).filter (fun j => decide (j < i))
theorem doorTo_zero : doorTo ds 0 a b = none := by
  unfold doorTo
  cases doorOf ds a b <;> simp
theorem doorTo_all (g : HouseOk ds) : doorTo ds ds.length a b = doorOf ds a b := by
  unfold doorTo
  cases e : doorOf ds a b with
  | none => rfl
  | some j => simp [(g.lt e).2.2.2]
theorem doorTo_succ (g : HouseOk ds) {i : Nat} {d : Door} (h : ds[i]? = some d) : doorTo ds (i + 1) a b = if isD a b d = true then some i else doorTo ds i a b := by
  unfold doorTo
  split
  · rename_i e
    rw [g.door h e]
    simp
  · rename_i e
    cases e2 : doorOf ds a b with
    | none => rfl
    | some j =>
      have hj : j ≠ i := fun z => by
        subst z
        obtain ⟨d', h1, h2⟩ := doorOf_get e2
        rw [h] at h1
        cases h1
        exact e h2
      have : (j < i + 1) ↔ (j < i) := by omega
      simp [Option.filter, this]
/-- a Tree of the house -/
structure TreeAt (K : PySem.W.Frag) (H : Hp) (p : Addr) (ds : List Door) : Prop where
  ex : ∃ (dx la : Addr) (v : V) (rs : List Addr), H p = some (.ins (He.ga K "Tree") dx [("doors", v), ("size", vI (ds.length + 1)), ("around", .ref la)]) ∧ H la = some (.lst (rs.map .ref)) ∧ rs.length = ds.length + 1 ∧
    ∀ (a : Nat) (r : Addr), rs[a]? = some r → ∃ kvs, H r = some (.dK kvs) ∧ ∀ b : Nat, valV kvs (.inl (b : Int)) = (doorOf ds a b).map vI
theorem TreeAt.same (t : TreeAt K H p ds) (s : Same H H') : TreeAt K H' p ds := by
  obtain ⟨dx, la, v, rs, h1, h2, h3, h4⟩ := t.ex
  refine ⟨dx, la, v, rs, s _ _ h1, s _ _ h2, h3, fun a r e => ?_⟩
  obtain ⟨kvs, e1, e2⟩ := h4 a r e
  exact ⟨kvs, s _ _ e1, e2⟩
/-- a Simulation: its lists are its own, made behind B -/
structure SimAt (K : PySem.W.Frag) (B H : Hp) (s rl bl dl t : Addr) (ds : List Door) (p : PosD) (n : Nat) : Prop where
  sm : Same B H
  tree : TreeAt K B t ds
  s0 : B s = none
  r0 : B rl = none
  b0 : B bl = none
  d0 : B dl = none
  rb : rl ≠ bl
  rd : rl ≠ dl
  bd : bl ≠ dl
  obj : ∃ dx, H s = some (.ins (He.ga K "Simulation") dx [("tree", .ref t), ("rooms", .ref rl), ("barred", .ref bl), ("done", .ref dl)])
  rooms : H rl = some (.lst (p.1.map vI))
  bars : H bl = some (.lst (p.2.map vI))
  done : ∃ xs : List V, H dl = some (.lst xs) ∧ xs.length = n
theorem SimAt.same {rl bl dl t : Addr} {q : PosD} {n : Nat} (g : SimAt K B H s rl bl dl t ds q n) (e : Same H H') : SimAt K B H' s rl bl dl t ds q n := by
  obtain ⟨dx, o⟩ := g.obj
  obtain ⟨xs, d, l⟩ := g.done
  exact ⟨g.sm.trans e, g.tree, g.s0, g.r0, g.b0, g.d0, g.rb, g.rd, g.bd, ⟨dx, e _ _ o⟩, e _ _ g.rooms, e _ _ g.bars, xs, e _ _ d, l⟩
/-- the word of a block -/
def wordOf (k : Bool) : Str := if k = true then "away" else "barred"
def dWord (k : Bool) : PyData := .tuple [.str (wordOf k)]
/-- a Session: what it stands on (tree) lies in B, itself and its history do not -/
structure SessAt (K : PySem.W.Frag) (B H : Hp) (s hi : Addr) (ds : List Door) (p : PosD) (made : List Stp) (hist : List (PosD × List Stp)) : Prop where
  sm : Same B H
  s0 : B s = none
  h0 : B hi = none
  ex : ∃ (dx t : Addr) (hv cv : V) (xs : List V), TreeAt K B t ds ∧ H s = some (.ins (He.ga K "Session") dx [("house", hv), ("tree", .ref t), ("current", cv), ("history", .ref hi)]) ∧ H hi = some (.lst xs) ∧
    Im K H hv (dDoors ds) ∧ Im K H cv (dCur (p, made)) ∧ ImAll K H xs (hist.map dCur)
theorem SessAt.same {made : List Stp} {hist : List (PosD × List Stp)} {q : PosD} (t : SessAt K B H s hi ds q made hist) (e : Same H H') : SessAt K B H' s hi ds q made hist := by
  obtain ⟨dx, tr, hv, cv, xs, h1, h2, h3, h4, h5, h6⟩ := t.ex
  exact ⟨t.sm.trans e, t.s0, t.h0, dx, tr, hv, cv, xs, h1, e _ _ h2, e _ _ h3, h4.tk (TK.same e), h5.tk (TK.same e), h6.tk (TK.same e)⟩
end
end K83
/-! loops, step by step -/
namespace K83
open PySem PySem.Spec PyProof.Rows L2
def ForB (J : It) (g : TG) (tb : TS) (D : Ends) (σ : L2.St) (H1 : Hp) : Prop := ∃ W : Nat → Nat → L2.St → Hp → Prop, (∃ m, W 0 m σ H1) ∧ ∀ i m σ H, W i m σ H →
  (J.stop i H ∧ D.nx σ H) ∨ (J.go i H ∧ ∃ N : L2.St → Hp → Prop, (∀ σ' H', N σ' H' → ∃ m', m' < m ∧ W (i + 1) m' σ' H') ∧ ∀ x H', J.yld i H x H' → g x σ H' fun σ2 H2 => tb { D with nx := N, ct := N, bk := D.nx } σ2 H2)
def LcB (J : It) (g : TG) (tt : TT) (te : TE) (vs : List Nat) (σ : L2.St) (H1 : Hp) (Q : VK) : Prop := ∀ D, H1 D = none → ∃ W : Nat → Nat → Hp → Prop, (∃ m, W 0 m (upd H1 D (.lst []))) ∧ ∀ i m H, W i m H →
  (J.stop i H ∧ Q (.ref D) H) ∨ (J.go i H ∧ ∃ Nx : Hp → Prop, (∀ H', Nx H' → ∃ m', m' < m ∧ W (i + 1) m' H') ∧ ∀ x H', J.yld i H x H' → g x (wipe σ vs) H' fun σ2 H2 => wipe σ2 vs = wipe σ vs ∧ tt σ2 H2 fun b H3 =>
    if b = true then te σ2 H3 fun y H4 => ∃ acc, H4 D = some (.lst acc) ∧ acc.length < sizeLine ∧ Nx (upd H4 D (.lst (acc ++ [y]))) else Nx H3)
def Rg1 (vs : List V) (P : Nat → Prop) : Prop := ∃ j : Int, vs = [.int j] ∧ -(2 ^ 62) ≤ j ∧ j < 2 ^ 62 ∧ P j.toNat
def Rg2 (vs : List V) (P : Int → Nat → Prop) : Prop := ∃ i j : Int, vs = [.int i, .int j] ∧ (-(2 ^ 62) ≤ i ∧ i < 2 ^ 62 ∧ -(2 ^ 62) ≤ j ∧ j < 2 ^ 62) ∧ P i (j - i).toNat
def RaL (K : PySem.W.Frag) (H : Hp) (vs : List V) (P : Addr → Prop) : Prop := ∃ a xs, vs = [.ref a] ∧ SqL K H a xs ∧ P a
def RaT (K : PySem.W.Frag) (H : Hp) (vs : List V) (P : Addr → Prop) : Prop := ∃ a xs, vs = [.ref a] ∧ SqT K H a xs ∧ P a
def RiL (K : PySem.W.Frag) (H : Hp) (v : V) (P : Addr → Prop) : Prop := ∃ a, v = .ref a ∧ (∃ xs, SqL K H a xs) ∧ P a
def RiT (K : PySem.W.Frag) (H : Hp) (v : V) (P : Addr → Prop) : Prop := ∃ a, v = .ref a ∧ (∃ xs, SqT K H a xs) ∧ P a
section
variable {K : PySem.W.Frag} {σ : L2.St} {H : Hp} {Q : VK} {a : Addr} {xs : List V} {wi : TI} {g : TG} {tb s : TS} {tt : TT} {te tl : TE} {ta : TA} {vs : List Nat} {D : Ends} {R : It → Hp → Prop} {Ri : It → Prop}
theorem st_for (h : wi σ H fun J H1 => ForB J g tb D σ H1) : tFor wi g tb D σ H := h
theorem st_seqFr (h : wi σ H fun J H1 => ForB J g tb { D with nx := s D } σ H1) : tSeq (tFor wi g tb) s D σ H := h
theorem st_lc (h : wi σ H fun J H1 => LcB J g tt te vs σ H1 Q) : tLc wi g tt te vs σ H Q := h
theorem st_iRng1 (h : ta σ H fun vs H1 => Rg1 vs fun n => R (Itr 0 n) H1) : iRng1 ta σ H R := h
theorem st_iRng2 (h : ta σ H fun vs H1 => Rg2 vs fun i n => R (Itr i n) H1) : iRng2 ta σ H R := h
theorem st_r1 {P : Nat → Prop} {j : Int} (n : Nat) (e : j = n) (hn : n < 1000) (q : P n) : Rg1 [.int j] P := ⟨j, rfl, by omega, by omega, by rw [e]; exact q⟩
theorem st_r2 {P : Int → Nat → Prop} {j : Int} (n : Nat) (e : j = n) (hn : n < 1000) (q : P 1 (n - 1)) : Rg2 [.int 1, .int j] P :=
  ⟨1, j, rfl, ⟨by omega, by omega, by omega, by omega⟩, by rw [e, show ((n : Int) - 1).toNat = n - 1 by omega]; exact q⟩
theorem st_iEnum (h : ta σ H fun vs H1 => RaL K H1 vs fun a => R (Ite K a) H1) : iEnum K ta σ H R := h
theorem st_iEnumT (h : ta σ H fun vs H1 => RaT K H1 vs fun a => R (Itet K a) H1) : iEnumT K ta σ H R := h
theorem st_iList (h : tl σ H fun x H1 => RiL K H1 x fun a => R (Itl K a) H1) : iList K tl σ H R := h
theorem st_iTup (h : tl σ H fun x H1 => RiT K H1 x fun a => R (Itt K a) H1) : iTup K tl σ H R := h
theorem st_eL {P : Addr → Prop} (h : SqL K H a xs) (q : P a) : RaL K H [.ref a] P := ⟨a, xs, rfl, h, q⟩
theorem st_eT {P : Addr → Prop} (h : SqT K H a xs) (q : P a) : RaT K H [.ref a] P := ⟨a, xs, rfl, h, q⟩
theorem st_iL {P : Addr → Prop} (h : SqL K H a xs) (q : P a) : RiL K H (.ref a) P := ⟨a, rfl, ⟨xs, h⟩, q⟩
theorem st_iT {P : Addr → Prop} (h : SqT K H a xs) (q : P a) : RiT K H (.ref a) P := ⟨a, rfl, ⟨xs, h⟩, q⟩
theorem st_gsub {to ti : TE} {t : TSet} {v : V} {P : L2.St → Hp → Prop} (h : to σ H fun o H1 => ti σ H1 fun i H2 => t o i v H2 fun H3 => P σ H3) : gSub to ti t v σ H P := h
theorem st_tyL {P : Prop} (h : H a = some (.lst xs)) (q : P) : tyV K "list" (.ref a) H ∧ P := ⟨.inl ⟨rfl, xs, SqL.of h⟩, q⟩
theorem iteNNT {A B : Prop} (h : A) : if (!!true) = true then A else B := h
theorem iteNNF {A B : Prop} (h : B) : if (!!false) = true then A else B := h
theorem st_make {C : Addr} {sp : Sp} {dvs : List V} {E : XK} (h : ta σ H fun vs H1 => ∀ x dx, H1 x = none → H1 dx = none → dx ≠ x → sp (.ref x :: (vs ++ dvs)) (upd (upd H1 dx (.own x)) x (.ins C dx [])) (fun v H2 => v = .non ∧ Q (.ref x) H2) E) : tMake C sp dvs E ta σ H Q := h
theorem same_make {H1 : Hp} {x dx : Addr} {o u : HO} (e : Same H H1) (h1 : H1 x = none) (h2 : H1 dx = none) : Same H (upd (upd H1 dx u) x o) := by
  have n : ∀ y, H1 y = none → H y = none := fun y hy => by
    cases e1 : H y with
    | none => rfl
    | some o => rw [e _ _ e1] at hy; cases hy
  exact Same.mut (Same.mut e (n _ h2)) (n _ h1)
theorem Same.none {H1 : Hp} {y : Addr} (e : Same H H1) (h : H1 y = none) : H y = none := by
  cases e1 : H y with
  | none => rfl
  | some o => rw [e _ _ e1] at h; cases h
/-- the heap without one thing -/
def wo (H : Hp) (s : Addr) : Hp := fun b => if b = s then .none else H b
theorem wo_self {s : Addr} : wo H s s = .none := if_pos rfl
theorem wo_ne {s b : Addr} (h : b ≠ s) : wo H s b = H b := if_neg h
theorem wo_same {H1 : Hp} {s : Addr} (k : Kp1 s H H1) : Same (wo H s) H1 := fun b o e => by
  by_cases h : b = s
  · rw [h, wo_self] at e; cases e
  · rw [wo_ne h] at e
    exact k b o e h
theorem TreeAt.wo {ds : List Door} {t s C dx : Addr} {fs : List (Str × V)} (tr : TreeAt K H t ds) (h : H s = some (.ins C dx fs)) (hl : fs.length ≠ 3) : TreeAt K (wo H s) t ds := by
  obtain ⟨dxt, la, v, rs, h1, h2, h3, h4⟩ := tr.ex
  refine ⟨dxt, la, v, rs, ?_, ?_, h3, fun a r e => ?_⟩
  · rw [wo_ne (fun z => by
      rw [z, h] at h1
      cases h1
      exact hl rfl)]
    exact h1
  · rw [wo_ne (fun z => by rw [z, h] at h2; cases h2)]
    exact h2
  · obtain ⟨kvs, g1, g2⟩ := h4 a r e
    exact ⟨kvs, by rw [wo_ne (fun z => by rw [z, h] at g1; cases g1)]; exact g1, g2⟩
theorem Kp1.none {H1 : Hp} {p y : Addr} (k : Kp1 p H H1) (h : H1 y = .none) (hp : y ≠ p) : H y = .none := by
  cases e1 : H y with
  | none => rfl
  | some o => rw [k _ _ e1 hp] at h; cases h
theorem st_dnin {ty td : TE} (h : ty σ H fun y H1 => td σ H1 fun x H2 => ∃ a o, x = .ref a ∧ DGet H2 a y o ∧ Q (.bl (!o.isSome)) H2) : tDNotIn ty td σ H Q := h
theorem st_dinI {kvs : List (Key × V)} {k : Int} {R : Option V → Prop} (h : H a = some (.dK kvs)) (q : R (valV kvs (.inl k))) : ∃ a' o, V.ref a = .ref a' ∧ DGet H a' (.int k) o ∧ R o := ⟨a, _, rfl, DGet.k (k := .inl k) h, q⟩
/-! raising MoveBlocked -/
def MkB (C : Addr) (vs : List V) (H1 : Hp) (Q : XK) : Prop := tMkO C (spMB C) [] (fun _ H R => R vs H) [] H1 Q
theorem st_mkO {C : Addr} {Q : XK} (h : ta σ H fun vs H1 => MkB C vs H1 Q) : tMkO C (spMB C) [] ta σ H Q := h
theorem st_mkB {C : Addr} {Q : XK} {i r : V} (q : ∀ d, H d = .none → Q (.ref C) (some d) (upd H d (.xd [(("reason" : Str), r), (("index" : Str), i)]))) : MkB C [i, r] H Q :=
  tMkO_of (ta := fun _ H R => R [i, r] H) (fun _ _ h q => h _ _ q) ⟨i, r, rfl, q⟩
/-! two things change -/
section
variable {H1 B : Hp} {p q b : Addr}
theorem Kp2.same (h : Same H H1) : Kp2 p q H H1 := fun b o e _ _ => h b o e
theorem Kp2.refl : Kp2 p q H H := fun b o e _ _ => e
theorem Kp2.trans {H2 : Hp} (a : Kp2 p q H H1) (b : Kp2 p q H1 H2) : Kp2 p q H H2 := fun c o e h h' => b c o (a c o e h h') h h'
theorem Kp2.one (h : Kp1 p H H1) : Kp2 p q H H1 := fun b o e hb _ => h b o e hb
theorem Kp2.two (h : Kp1 q H H1) : Kp2 p q H H1 := fun b o e _ hb => h b o e hb
theorem Kp2.tk {C dx : Addr} {fs : List (Str × V)} {ys : List V} (k : Kp2 p q H H1) (h1 : H p = some (.ins C dx fs)) (h2 : H q = some (.lst ys)) : TK H H1 := fun b xs h => by
  have n1 : b ≠ p := fun z => nrd_ins h1 xs (z ▸ h)
  have n2 : b ≠ q := fun z => nrd_lst h2 xs (z ▸ h)
  rcases h with h | ⟨o, h⟩
  · exact .inl (k b _ h n1 n2)
  · exact .inr ⟨o, k b _ h n1 n2⟩
theorem Same.kp2 (s : Same B H) (hp : B p = .none) (hq : B q = .none) (k : Kp2 p q H H1) : Same B H1 := fun b o e => k b o (s b o e) (ne_of_none e hp) (ne_of_none e hq)
theorem Kp2.none (k : Kp2 p q H H1) (h : H1 b = .none) (hp : b ≠ p) (hq : b ≠ q) : H b = .none := by
  cases e1 : H b with
  | none => rfl
  | some o => rw [k _ _ e1 hp hq] at h; cases h
theorem wo2_same : Same (wo (wo H p) q) H := fun b o e => by
  by_cases h : b = q
  · rw [h, wo_self] at e; cases e
  · rw [wo_ne h] at e
    by_cases h' : b = p
    · rw [h', wo_self] at e; cases e
    · rw [wo_ne h'] at e
      exact e
theorem wo2_of (s : Same B H) (hp : B p = .none) (hq : B q = .none) : Same B (wo (wo H p) q) := fun b o e => by
  rw [wo_ne (ne_of_none e hq), wo_ne (ne_of_none e hp)]
  exact s b o e
end
section
variable {B B' : Hp} {s rl bl dl t x : Addr} {ds : List Door} {q : PosD} {n : Nat} {o : HO}
theorem SimAt.base (g : SimAt K B H s rl bl dl t ds q n) (e : Same B' B) (tr : TreeAt K B' t ds) : SimAt K B' H s rl bl dl t ds q n :=
  ⟨e.trans g.sm, tr, Same.none e g.s0, Same.none e g.r0, Same.none e g.b0, Same.none e g.d0, g.rb, g.rd, g.bd, g.obj, g.rooms, g.bars, g.done⟩
theorem SimAt.mut (g : SimAt K B H s rl bl dl t ds q n) (hx : B x = .none) (h1 : s ≠ x) (h2 : rl ≠ x) (h3 : bl ≠ x) (h4 : dl ≠ x) : SimAt K B (upd H x o) s rl bl dl t ds q n := by
  obtain ⟨dx, ob⟩ := g.obj
  obtain ⟨xs, d, l⟩ := g.done
  exact ⟨Same.mut g.sm hx, g.tree, g.s0, g.r0, g.b0, g.d0, g.rb, g.rd, g.bd, ⟨dx, by rw [upd_ne h1]; exact ob⟩, by rw [upd_ne h2]; exact g.rooms, by rw [upd_ne h3]; exact g.bars, xs, by rw [upd_ne h4]; exact d, l⟩
end
/-- t + u, what comes out -/
theorem st_catIm {xd yd : List PyData} {x y : V} (hx : Im K H x (.tuple xd)) (hy : Im K H y (.tuple yd)) (hz : xd.length + yd.length ≤ 1000) (q : ∀ H' v, Same H H' → Im K H' v (.tuple (xd ++ yd)) → Q v H') : rCatA K x y H Q := by
  obtain ⟨a, xs, rfl, ha, ia⟩ := hx.tup_inv
  obtain ⟨b, ys, rfl, hb, ib⟩ := hy.tup_inv
  have l1 := ia.len
  have l2 := ib.len
  refine ⟨a, b, xs, ys, rfl, rfl, ha, hb, by rw [sizeLine_eq]; omega, fun e => ?_, fun _ e => ?_, fun _ _ p np => ?_⟩
  · subst e
    have : xd = [] := List.eq_nil_of_length_eq_zero l1.symm
    subst this
    exact q H _ (Same.refl H) hy
  · subst e
    have : yd = [] := List.eq_nil_of_length_eq_zero l2.symm
    subst this
    rw [List.append_nil] at q
    exact q H _ (Same.refl H) hx
  · exact q _ _ (Same.new np) (.tup (SqT.of upd_same) ((ia.append ib).tk (TK.new np)))
theorem for_rangeB {lo : Int} {n : Nat} (Pv : Nat → L2.St → Hp → Prop) (h0 : Pv 0 σ H)
    (hs : ∀ i σ H, i < n → Pv i σ H → g (.int (lo + i)) σ H fun σ2 H2 => tb { D with nx := Pv (i + 1), ct := Pv (i + 1), bk := D.nx } σ2 H2) (hd : ∀ σ H, Pv n σ H → D.nx σ H) : ForB (Itr lo n) g tb D σ H := for_range Pv h0 hs hd
theorem for_listB (xs : List V) (Pv : Nat → L2.St → Hp → Prop) (h0 : Pv 0 σ H) (hl : ∀ i σ H, i ≤ xs.length → Pv i σ H → SqL K H a xs)
    (hs : ∀ i x σ H, xs[i]? = some x → Pv i σ H → g x σ H fun σ2 H2 => tb { D with nx := Pv (i + 1), ct := Pv (i + 1), bk := D.nx } σ2 H2) (hd : ∀ σ H, Pv xs.length σ H → D.nx σ H) : ForB (Itl K a) g tb D σ H := for_list Pv h0 hl hs hd
theorem for_tupB (xs : List V) (Pv : Nat → L2.St → Hp → Prop) (h0 : Pv 0 σ H) (hl : ∀ i σ H, i ≤ xs.length → Pv i σ H → SqT K H a xs)
    (hs : ∀ i x σ H, xs[i]? = some x → Pv i σ H → g x σ H fun σ2 H2 => tb { D with nx := Pv (i + 1), ct := Pv (i + 1), bk := D.nx } σ2 H2) (hd : ∀ σ H, Pv xs.length σ H → D.nx σ H) : ForB (Itt K a) g tb D σ H := for_tup Pv h0 hl hs hd
theorem for_eT (xs : List V) (Pv : Nat → L2.St → Hp → Prop) (h0 : Pv 0 σ H) (hl : ∀ i σ H, i ≤ xs.length → Pv i σ H → SqT K H a xs)
    (hs : ∀ i x σ H, xs[i]? = some x → Pv i σ H → ∀ T, H T = none → g (.ref T) σ (upd H T (.tup [.int (i : Nat), x])) fun σ2 H2 => tb { D with nx := Pv (i + 1), ct := Pv (i + 1), bk := D.nx } σ2 H2) (hd : ∀ σ H, Pv xs.length σ H → D.nx σ H) : ForB (Itet K a) g tb D σ H := for_enumT Pv h0 hl hs hd
theorem for_eL (xs : List V) (Pv : Nat → L2.St → Hp → Prop) (h0 : Pv 0 σ H) (hl : ∀ i σ H, i ≤ xs.length → Pv i σ H → SqL K H a xs)
    (hs : ∀ i x σ H, xs[i]? = some x → Pv i σ H → ∀ T, H T = none → g (.ref T) σ (upd H T (.tup [.int (i : Nat), x])) fun σ2 H2 => tb { D with nx := Pv (i + 1), ct := Pv (i + 1), bk := D.nx } σ2 H2) (hd : ∀ σ H, Pv xs.length σ H → D.nx σ H) : ForB (Ite K a) g tb D σ H := for_enumL Pv h0 hl hs hd
theorem lc_rangeB {lo : Int} {n : Nat} (h : ∀ D, H D = none → ∃ Pv : Nat → Hp → Prop, Pv 0 (upd H D (.lst [])) ∧ (∀ i H, i < n → Pv i H → g (.int (lo + i)) (wipe σ vs) H fun σ2 H2 => wipe σ2 vs = wipe σ vs ∧ tt σ2 H2 fun b H3 =>
      if b = true then te σ2 H3 fun y H4 => ∃ acc, H4 D = some (.lst acc) ∧ acc.length < sizeLine ∧ Pv (i + 1) (upd H4 D (.lst (acc ++ [y]))) else Pv (i + 1) H3) ∧ ∀ H, Pv n H → Q (.ref D) H) : LcB (Itr lo n) g tt te vs σ H Q := fun D nD => by
  obtain ⟨Pv, h0, hs, hd⟩ := h D nD
  exact lc_range Pv h0 hs hd
theorem lc_listB (xs : List V) (h : ∀ D, H D = none → ∃ Pv : Nat → Hp → Prop, Pv 0 (upd H D (.lst [])) ∧ (∀ i H, i ≤ xs.length → Pv i H → SqL K H a xs) ∧ (∀ i x H, xs[i]? = some x → Pv i H → g x (wipe σ vs) H fun σ2 H2 => wipe σ2 vs = wipe σ vs ∧ tt σ2 H2 fun b H3 =>
      if b = true then te σ2 H3 fun y H4 => ∃ acc, H4 D = some (.lst acc) ∧ acc.length < sizeLine ∧ Pv (i + 1) (upd H4 D (.lst (acc ++ [y]))) else Pv (i + 1) H3) ∧ ∀ H, Pv xs.length H → Q (.ref D) H) : LcB (Itl K a) g tt te vs σ H Q := fun D nD => by
  obtain ⟨Pv, h0, hl, hs, hd⟩ := h D nD
  exact lc_list Pv h0 hl hs hd
theorem lc_tupB (xs : List V) (h : ∀ D, H D = none → ∃ Pv : Nat → Hp → Prop, Pv 0 (upd H D (.lst [])) ∧ (∀ i H, i ≤ xs.length → Pv i H → SqT K H a xs) ∧ (∀ i x H, xs[i]? = some x → Pv i H → g x (wipe σ vs) H fun σ2 H2 => wipe σ2 vs = wipe σ vs ∧ tt σ2 H2 fun b H3 =>
      if b = true then te σ2 H3 fun y H4 => ∃ acc, H4 D = some (.lst acc) ∧ acc.length < sizeLine ∧ Pv (i + 1) (upd H4 D (.lst (acc ++ [y]))) else Pv (i + 1) H3) ∧ ∀ H, Pv xs.length H → Q (.ref D) H) : LcB (Itt K a) g tt te vs σ H Q := fun D nD => by
  obtain ⟨Pv, h0, hl, hs, hd⟩ := h D nD
  exact lc_tup Pv h0 hl hs hd
/-- an element's place in a comprehension, nothing left out -/
theorem lc_yes {σ2 : L2.St} {P : Bool → Hp → Prop} {e : Prop} (he : e) (h : P true H) : e ∧ tYes σ2 H P := ⟨he, h⟩
theorem st_acc {D : Addr} {acc : List V} {y : V} {R : Hp → Prop} (h : H D = some (.lst acc)) (hz : acc.length < 1000) (q : R (upd H D (.lst (acc ++ [y])))) : ∃ acc, H D = some (.lst acc) ∧ acc.length < sizeLine ∧ R (upd H D (.lst (acc ++ [y]))) := ⟨acc, h, small16 hz, q⟩
/-! dictionaries by numbers -/
theorem st_dgetI {kvs : List (Key × V)} {k : Int} {v : V} {R : V → Prop} (h : H a = some (.dK kvs)) (e : valV kvs (.inl k) = some v) (q : R v) : ∃ a' v, V.ref a = .ref a' ∧ DGet H a' (.int k) (some v) ∧ R v := ⟨a, v, rfl, by
  have := DGet.k (k := .inl k) h
  rw [e] at this
  exact this, q⟩
theorem st_dgetS {kvs : List (Key × V)} {k : Str} {v : V} {R : V → Prop} (h : H a = some (.dK kvs)) (e : valV kvs (.inr k) = some v) (q : R v) : ∃ a' v, V.ref a = .ref a' ∧ DGet H a' (.str k) (some v) ∧ R v := ⟨a, v, rfl, by
  have := DGet.k (k := .inr k) h
  rw [e] at this
  exact this, q⟩
theorem st_dputI {kvs : List (Key × V)} {k : Int} {v : V} {R : Hp → Prop} (h : H a = some (.dK kvs)) (l : kvs.length < 1000) (q : R (upd H a (.dK (putK kvs (.inl k) v)))) : ∃ a' H4, V.ref a = .ref a' ∧ DPut H a' (.int k) v H4 ∧ R H4 := ⟨a, _, rfl, DPut.k (k := .inl k) h (small16 l), q⟩
theorem st_dputS {kvs : List (Key × V)} {k : Str} {v : V} {R : Hp → Prop} (h : H a = some (.dK kvs)) (l : kvs.length < 1000) (q : R (upd H a (.dK (putK kvs (.inr k) v)))) : ∃ a' H4, V.ref a = .ref a' ∧ DPut H a' (.str k) v H4 ∧ R H4 := ⟨a, _, rfl, DPut.k (k := .inr k) h (small16 l), q⟩
theorem st_dput {td ty tv : TE} (h : tv σ H fun v H1 => td σ H1 fun x H2 => ty σ H2 fun y H3 => ∃ a H4, x = .ref a ∧ DPut H3 a y v H4 ∧ D.nx σ H4) : sDPut td ty tv D σ H := h
theorem st_seqDp {td ty tv : TE} (h : tv σ H fun v H1 => td σ H1 fun x H2 => ty σ H2 fun y H3 => ∃ a H4, x = .ref a ∧ DPut H3 a y v H4 ∧ s D σ H4) : tSeq (sDPut td ty tv) s D σ H := h
theorem put_len (kvs : List (Key × V)) (k : Key) (v : V) : (putK kvs k v).length ≤ kvs.length + 1 := by
  unfold putK
  split
  · rw [List.length_map]; omega
  · rw [List.length_append]; exact Nat.le_refl _
end
end K83
/-! the law's own tools: draws, slices, sorting -/
namespace K83
open PySem PySem.Spec PyProof.Rows L2
/-- a generator, at most N hashes drawn -/
structure GenAt (H : Hp) (g : Addr) (N : Nat) : Prop where
  ex : ∃ (a : Int) (b c : Nat), H g = some (.lst [.int a, vI b, vI c]) ∧ 0 ≤ a ∧ b < 2147483647 ∧ c ≤ N
section
variable {K : PySem.W.Frag} {H H' B : Hp} {Q : VK} {g a l p q : Addr} {N M : Nat} {v x y : V} {xs ys : List V}
theorem GenAt.same (t : GenAt H g N) (e : Same H H') : GenAt H' g N := by
  obtain ⟨a, b, c, h, r⟩ := t.ex
  exact ⟨a, b, c, e _ _ h, r⟩
theorem GenAt.mono (t : GenAt H g N) (h : N ≤ M) : GenAt H g M := by
  obtain ⟨a, b, c, h1, h2, h3, h4⟩ := t.ex
  exact ⟨a, b, c, h1, h2, h3, by omega⟩
theorem GenAt.lst (t : GenAt H g N) : ∃ ys, H g = some (.lst ys) := by
  obtain ⟨a, b, c, h1, _⟩ := t.ex
  exact ⟨_, h1⟩
theorem GenAt.tk (t : GenAt H g N) (k : Kp1 g H H') : TK H H' := by
  obtain ⟨ys, h⟩ := t.lst
  exact k.tk h
theorem GenAt.at (t : GenAt H g N) (k : ∀ o, H g = some o → H' g = some o) : GenAt H' g N := by
  obtain ⟨a, b, c, h1, r⟩ := t.ex
  exact ⟨a, b, c, k _ h1, r⟩
theorem GenAt.ne (t : GenAt H g N) (h : H a = none) : a ≠ g := fun z => by
  obtain ⟨ys, e⟩ := t.lst
  rw [z, e] at h
  cases h
theorem st_bits {σ : L2.St} {ta : TE} (h : ta σ H fun x H1 => ∃ i, x = .int i ∧ Q (.int (Builtin.Int.intBits i : Nat)) H1) : tBits ta σ H Q := h
theorem bits_small {n : Nat} (h : n < 1000) : Builtin.Int.intBits (n : Int) ≤ 10 := intBits_le_iff.mpr (by rw [Int.natAbs_natCast]; omega)
theorem eqv_nil (xs : List PyData) : PyData.eqv (.list xs) (.list []) = xs.isEmpty := by
  cases xs <;> simp [PyData.eqv, PyData.eqvAll]
theorem word_ne (k : Bool) : V.str (wordOf k) ≠ V.str (Str.ofString "done") := by
  cases k <;> exact fun h => absurd (V.str.inj h) (by decide)
/-! ### x in t, numbers -/
theorem inV_two (i j k : Nat) : inV (vI k) [vI i, vI j] = decide (i = k ∨ j = k) := by
  have e : ∀ i : Nat, eqV (vI i) (vI k) = decide (i = k) := fun i => by
    by_cases h : i = k
    · subst h; simp [eqV]
    · rw [decide_eq_false h]
      have : ¬ (i : Int) = (k : Int) := by omega
      simp [eqV, this]
  show (eqV (vI i) (vI k) || (eqV (vI j) (vI k) || false)) = _
  rw [e, e]
  by_cases h1 : i = k <;> by_cases h2 : j = k <;> simp [h1, h2]
theorem st_inT {neg : Bool} (h : SqT K H p xs) (fx : flatV x = true) (fs : xs.all flatV = true) (q : Q (.bl (if neg then !inV x xs else inV x xs)) H) : rIn K neg x (.ref p) H Q := ⟨p, xs, rfl, .inr h, fx, fs, q⟩
theorem st_inL {neg : Bool} (h : SqL K H p xs) (fx : flatV x = true) (fs : xs.all flatV = true) (q : Q (.bl (if neg then !inV x xs else inV x xs)) H) : rIn K neg x (.ref p) H Q := ⟨p, xs, rfl, .inl h, fx, fs, q⟩
theorem inV_nats (k : Nat) : ∀ l : List Nat, inV (vI k) (l.map vI) = decide (k ∈ l)
  | [] => by simp [inV]
  | i :: l => by
    have e : eqV (vI i) (vI k) = decide (i = k) := by
      by_cases h : i = k
      · subst h; simp [eqV]
      · rw [decide_eq_false h]
        have : ¬ (i : Int) = (k : Int) := by omega
        simp [eqV, this]
    show (eqV (vI i) (vI k) || inV (vI k) (l.map vI)) = _
    rw [e, inV_nats k l]
    by_cases h1 : i = k
    · subst h1; simp
    · have h2 : ¬ k = i := fun z => h1 z.symm
      simp [h1, h2]
theorem flat_nats : ∀ l : List Nat, (l.map vI).all flatV = true
  | [] => rfl
  | _ :: l => by simp [flatV]
/-! ### slices of data -/
theorem cut_take (n : Nat) : cutV xs none (some (n : Int)) = xs.take n := by
  unfold cutV
  rw [HT.sIx_none, HT.sIx_nat, List.drop_zero, Nat.sub_zero]
  by_cases h : n ≤ xs.length
  · rw [Nat.min_eq_left h]
  · rw [Nat.min_eq_right (by omega), List.take_length, List.take_of_length_le (by omega)]
theorem cut_drop (n : Nat) : cutV xs (some (n : Int)) none = xs.drop n := by
  unfold cutV
  rw [HT.sIx_none, HT.sIx_nat]
  by_cases h : n ≤ xs.length
  · rw [Nat.min_eq_left h, List.take_of_length_le (by rw [List.length_drop]; exact Nat.le_refl _)]
  · rw [Nat.min_eq_right (by omega), List.drop_length, List.drop_eq_nil_of_le (by omega)]
    exact List.take_nil
theorem cut_whole {lo hi : Option Int} (h : HT.sIx xs.length 0 lo = 0 ∧ HT.sIx xs.length xs.length hi = xs.length) : cutV xs lo hi = xs := by
  unfold cutV
  rw [h.1, h.2, List.drop_zero, Nat.sub_zero, List.take_length]
theorem st_slIm {lo hi : Option Int} {ds : List PyData} (hx : Im K H x (.tuple ds)) (es : List PyData) (hc : ∀ xs : List V, ImAll K H xs ds → ImAll K H (cutV xs lo hi) es) (q : ∀ H' v, Same H H' → Im K H' v (.tuple es) → Q v H') : rSlA K x lo hi H Q := by
  obtain ⟨a, xs, rfl, ha, ia⟩ := hx.tup_inv
  refine ⟨a, xs, rfl, ha, fun e => ?_, fun _ p np => ?_⟩
  · have := hc xs ia
    rw [cut_whole e] at this
    exact q H _ (Same.refl H) (.tup ha this)
  · exact q _ _ (Same.new np) (.tup (SqT.of upd_same) ((hc xs ia).tk (TK.new np)))
theorem st_slTo {n : Nat} {ds : List PyData} (hx : Im K H x (.tuple ds)) (q : ∀ H' v, Same H H' → Im K H' v (.tuple (ds.take n)) → Q v H') : rSlA K x none (some (n : Int)) H Q :=
  st_slIm hx (ds.take n) (fun xs h => by rw [cut_take]; exact h.take n) q
theorem st_slFrom {i : Int} (n : Nat) (e : i = n) {ds : List PyData} (hx : Im K H x (.tuple ds)) (q : ∀ H' v, Same H H' → Im K H' v (.tuple (ds.drop n)) → Q v H') : rSlA K x (some i) none H Q := by
  subst e
  exact st_slIm hx (ds.drop n) (fun xs h => by rw [cut_drop]; exact h.drop n) q
theorem set_cut {l : List Nat} {a r : Nat} (h : a < l.length) : l.take a ++ [r] ++ l.drop (a + 1) = l.set a r := by
  rw [List.set_eq_take_append_cons_drop, if_pos h, List.append_assoc]
  rfl
/-! ### what is drawn out of a list -/
theorem perm_erase : ∀ {l : List V} {i : Nat} {y : V}, l[i]? = some y → l.Perm (y :: l.eraseIdx i)
  | [], _, _, h => by simp at h
  | x :: l, 0, y, h => by
    have : x = y := by simpa using h
    subst this
    exact List.Perm.refl _
  | x :: l, i + 1, y, h => by
    have ih := perm_erase (l := l) (i := i) (y := y) (by simpa using h)
    exact (ih.cons x).trans (List.Perm.swap _ _ _)
/-! ### sorted(l), tuples of numbers -/
theorem imI_inv {ns : List Nat} (h : Im K H v (dInts ns)) : TupI K H v (ns.map Int.ofNat) := by
  obtain ⟨a, rfl, s⟩ := h.ints_inv
  refine ⟨a, rfl, ?_⟩
  have e : (ns.map vI) = (ns.map Int.ofNat).map V.int := by rw [List.map_map]; rfl
  rw [← e]
  exact s
theorem bd_of {ns : List Nat} (h : ∀ n ∈ ns, n < 1000) : TS.Bd 1000 (ns.map Int.ofNat) := fun m hm => by
  obtain ⟨n, hn, rfl⟩ := List.mem_map.mp hm
  have := h n hn
  show 0 ≤ (n : Int) ∧ (n : Int) < 1000
  omega
/-- an arrangement of what was mapped is an arrangement mapped -/
theorem perm_map {α β : Type} {f : α → β} : ∀ {l m : List β}, l.Perm m → ∀ ds : List α, m = ds.map f → ∃ es : List α, es.Perm ds ∧ l = es.map f := by
  intro l m hp
  induction hp with
  | nil => intro ds e; exact ⟨[], by rw [List.map_eq_nil_iff.mp e.symm], rfl⟩
  | cons x _ ih =>
    intro ds e
    cases ds with
    | nil => cases e
    | cons d ds =>
      rw [List.map_cons] at e
      obtain ⟨e1, e2⟩ := List.cons.inj e
      obtain ⟨es, p1, p2⟩ := ih ds e2
      exact ⟨d :: es, p1.cons d, by rw [List.map_cons, p2, e1]⟩
  | swap x y l =>
    intro ds e
    cases ds with
    | nil => cases e
    | cons d ds =>
      cases ds with
      | nil => cases (List.cons.inj e).2
      | cons d' ds =>
        rw [List.map_cons, List.map_cons] at e
        obtain ⟨e1, e2⟩ := List.cons.inj e
        obtain ⟨e3, e4⟩ := List.cons.inj e2
        exact ⟨d' :: d :: ds, List.Perm.swap _ _ _, by rw [List.map_cons, List.map_cons, e1, e3, e4]⟩
  | trans _ _ ih1 ih2 =>
    intro ds e
    obtain ⟨es, p1, p2⟩ := ih2 ds e
    obtain ⟨fs, p3, p4⟩ := ih1 es p2
    exact ⟨fs, p3.trans p1, p4⟩
theorem st_sort {d : Nat} {l : Addr} {xs : List V} {α : Type} {ds : List α} (f : α → List Nat) (h : SqL K H l xs) (hx : ImAll K H xs (ds.map fun z => dInts (f z))) (hz : xs.length < 64) (hd : ∀ z ∈ ds, (f z).length = d ∧ ∀ n ∈ f z, n < 1000)
    (q : ∀ (q : Addr) (ys : List V) (es : List α), H q = none → es.Perm ds → ImAll K H ys (es.map fun z => dInts (f z)) → Q (.ref q) (upd H q (.lst ys))) : rSortU K d 1000 [.ref l] H Q := by
  refine ⟨l, xs, rfl, h, hz, fun x hm => ?_, fun ys p hp _ np => ?_⟩
  · obtain ⟨i, hi, e⟩ := List.mem_iff_getElem.mp hm
    obtain ⟨dd, h1, h2⟩ := hx.get' (i := i) (v := x) (by rw [List.getElem?_eq_getElem hi, e])
    rw [List.getElem?_map] at h1
    obtain ⟨z, hz1, rfl⟩ := Option.map_eq_some_iff.mp h1
    obtain ⟨g1, g2⟩ := hd z (List.mem_of_getElem? hz1)
    exact ⟨_, imI_inv h2, by rw [List.length_map, g1], bd_of g2⟩
  · obtain ⟨es, h1, h2⟩ := hx.perm hp
    obtain ⟨fs, p1, p2⟩ := perm_map h1 ds rfl
    rw [p2] at h2
    exact q p ys fs np p1 h2
end
end K83
/-! actions, the model -/
namespace K83
open PySem PySem.Spec PyProof.Rows L2
inductive Act where
  | go (a b : Nat)
  | undo
  | play (l : List Stp)
structure Sta where
  p : PosD
  made : List Stp
  hist : List (PosD × List Stp)
inductive Out where
  | nothing
  | blocked (i : Nat) (k : Bool)
  | back
  | done (q : PosD)
def ActOk (ds : List Door) (p : PosD) : Act → Prop
  | .go a b => a < p.1.length ∧ b < ds.length + 1
  | .undo => True
  | .play l => l.length ≤ 6 ∧ ∀ s ∈ l, StepOk ds p.1.length s
def fin1 (st : Sta) (l : List Stp) (c : Nat) : (Nat × Bool) ⊕ PosD → Out × Sta
  | .inl (i, k) => (.blocked (i + c) k, st)
  | .inr q => (.done q, ⟨q, st.made ++ l, st.hist ++ [(st.p, st.made)]⟩)
def stepA (ds : List Door) (st : Sta) : Act → Out × Sta
  | .undo => match st.hist.getLast? with
    | none => (.nothing, st)
    | some c => (.back, ⟨c.1, c.2, st.hist.dropLast⟩)
  | .play l => fin1 st l 0 (runS ds st.p l 0)
  | .go a b => match doorOf ds (st.p.1.getD a 0) b with
    | none => (.blocked st.made.length true, st)
    | some _ => fin1 st [(a, st.p.1.getD a 0, b)] st.made.length (runS ds st.p [(a, st.p.1.getD a 0, b)] 0)
theorem stepA_un {ds : List Door} {st : Sta} (h : st.hist.getLast? = none) : stepA ds st .undo = (.nothing, st) := by
  show (match st.hist.getLast? with
    | none => (Out.nothing, st)
    | some c => (.back, ⟨c.1, c.2, st.hist.dropLast⟩)) = _
  rw [h]
theorem stepA_us {ds : List Door} {st : Sta} {c : PosD × List Stp} (h : st.hist.getLast? = some c) : stepA ds st .undo = (.back, ⟨c.1, c.2, st.hist.dropLast⟩) := by
  show (match st.hist.getLast? with
    | none => (Out.nothing, st)
    | some c => (.back, ⟨c.1, c.2, st.hist.dropLast⟩)) = _
  rw [h]
theorem stepA_gn {ds : List Door} {st : Sta} {a b : Nat} (h : doorOf ds (st.p.1.getD a 0) b = none) : stepA ds st (.go a b) = (.blocked st.made.length true, st) := by
  show (match doorOf ds (st.p.1.getD a 0) b with
    | none => (Out.blocked st.made.length true, st)
    | some _ => fin1 st [(a, st.p.1.getD a 0, b)] st.made.length (runS ds st.p [(a, st.p.1.getD a 0, b)] 0)) = _
  rw [h]
theorem stepA_gs {ds : List Door} {st : Sta} {a b i : Nat} (h : doorOf ds (st.p.1.getD a 0) b = some i) : stepA ds st (.go a b) = fin1 st [(a, st.p.1.getD a 0, b)] st.made.length (runS ds st.p [(a, st.p.1.getD a 0, b)] 0) := by
  show (match doorOf ds (st.p.1.getD a 0) b with
    | none => (Out.blocked st.made.length true, st)
    | some _ => fin1 st [(a, st.p.1.getD a 0, b)] st.made.length (runS ds st.p [(a, st.p.1.getD a 0, b)] 0)) = _
  rw [h]
def dOut : Out → List PyData
  | .nothing => [.str "nothing"]
  | .blocked i k => [.str "blocked", dI i, dWord k]
  | .back => [.str "done", .none]
  | .done q => [.str "done", dPos q]
theorem sh_out (o : Out) : Sh 3 (.list (dOut o)) := Sh.lst fun d h => by
  have s0 : ∀ x : Str, PyData.strOk x = true → Sh 2 (.str x) := fun x h => ⟨by simp [PyData.canLay0, h], by simp [PyData.depth]⟩
  cases o with
  | nothing => rw [List.mem_singleton.mp h]; exact s0 _ (by decide +kernel)
  | blocked i k =>
    rcases List.mem_cons.mp h with rfl | h
    · exact s0 _ (by decide +kernel)
    rcases List.mem_cons.mp h with rfl | h
    · exact (Sh.int _).mono (by decide)
    rw [List.mem_singleton.mp h]
    exact Sh.tup (k := 1) fun e he => by rw [List.mem_singleton.mp he]; exact ⟨by cases k <;> simp [PyData.canLay0, wordOf] <;> decide +kernel, by simp [PyData.depth]⟩
  | back =>
    rcases List.mem_cons.mp h with rfl | h
    · exact s0 _ (by decide +kernel)
    rw [List.mem_singleton.mp h]
    exact Sh.non.mono (by decide)
  | done q =>
    rcases List.mem_cons.mp h with rfl | h
    · exact s0 _ (by decide +kernel)
    rw [List.mem_singleton.mp h]
    exact Sh.pos q
/-- what every turn keeps: each entry is reached from the start, and is short -/
structure Reach (ds : List Door) (p0 : PosD) (n : Nat) (st : Sta) : Prop where
  pos : PosOk ds st.p
  ppl : st.p.1.length = p0.1.length
  run : runS ds p0 st.made 0 = .inr st.p
  ok : ∀ s ∈ st.made, StepOk ds p0.1.length s
  len : st.made.length ≤ 6 * n
  hl : st.hist.length ≤ n
  hist : ∀ c ∈ st.hist, PosOk ds c.1 ∧ c.1.1.length = p0.1.length ∧ runS ds p0 c.2 0 = .inr c.1 ∧ (∀ s ∈ c.2, StepOk ds p0.1.length s) ∧ c.2.length ≤ 6 * n
theorem Reach.mono {ds : List Door} {p0 : PosD} {n m : Nat} {st : Sta} (r : Reach ds p0 n st) (h : n ≤ m) : Reach ds p0 m st :=
  ⟨r.pos, r.ppl, r.run, r.ok, by have := r.len; omega, by have := r.hl; omega, fun c hc => by
    obtain ⟨h1, h2, h3, h4, h5⟩ := r.hist c hc
    exact ⟨h1, h2, h3, h4, by omega⟩⟩
theorem Reach.fin {ds : List Door} {p0 : PosD} {n : Nat} {st : Sta} (g : HouseOk ds) (r : Reach ds p0 n st) {l : List Stp} (hl : l.length ≤ 6) (hs : ∀ s ∈ l, StepOk ds st.p.1.length s) (c : Nat) : Reach ds p0 (n + 1) (fin1 st l c (runS ds st.p l 0)).2 := by
  cases e : runS ds st.p l 0 with
  | inl x => exact r.mono (Nat.le_succ n)
  | inr q =>
    obtain ⟨h1, h2⟩ := runS_ok g l st.p q 0 r.pos hs e
    refine ⟨h1, by show q.1.length = _; rw [h2, r.ppl], ?_, fun s h => ?_, ?_, ?_, fun c hc => ?_⟩
    · show runS ds p0 (st.made ++ l) 0 = .inr q
      rw [runS_app st.made l p0 st.p 0 r.run]
      exact runS_any l _ _ _ _ e
    · rcases List.mem_append.mp h with h | h
      · exact r.ok s h
      · rw [← r.ppl]; exact hs s h
    · show (st.made ++ l).length ≤ _
      rw [List.length_append]
      have := r.len
      omega
    · show (st.hist ++ [(st.p, st.made)]).length ≤ _
      rw [List.length_append]
      have := r.hl
      show _ + 1 ≤ _
      omega
    · rcases List.mem_append.mp hc with hc | hc
      · exact (r.mono (Nat.le_succ n)).hist c hc
      · rw [List.mem_singleton.mp hc]
        exact ⟨r.pos, r.ppl, r.run, r.ok, by have := r.len; show st.made.length ≤ _; omega⟩
theorem Reach.step {ds : List Door} {p0 : PosD} {n : Nat} {st : Sta} (g : HouseOk ds) (r : Reach ds p0 n st) (a : Act) (h : ActOk ds st.p a) : Reach ds p0 (n + 1) (stepA ds st a).2 := by
  cases a with
  | undo =>
    cases e : st.hist.getLast? with
    | none => rw [stepA_un e]; exact r.mono (Nat.le_succ n)
    | some c =>
      rw [stepA_us e]
      have hm : c ∈ st.hist := List.mem_of_getLast? e
      obtain ⟨h1, h2, h3, h4, h5⟩ := (r.mono (Nat.le_succ n)).hist c hm
      exact ⟨h1, h2, h3, h4, h5, by show st.hist.dropLast.length ≤ _; rw [List.length_dropLast]; have := r.hl; omega, fun d hd => (r.mono (Nat.le_succ n)).hist d ((List.dropLast_sublist _).subset hd)⟩
  | play l => exact r.fin g h.1 h.2 0
  | go a b =>
    cases e : doorOf ds (st.p.1.getD a 0) b with
    | none => rw [stepA_gn e]; exact r.mono (Nat.le_succ n)
    | some i => rw [stepA_gs e]; exact r.fin g (l := [(a, st.p.1.getD a 0, b)]) (show 1 ≤ 6 by decide) (fun s hs => by rw [List.mem_singleton.mp hs]; exact ⟨h.1, i, e⟩) _
/-! ### on the heap -/
def KpX (X : List Addr) (H H' : Hp) : Prop := ∀ b ys, b ∉ X → H b = some (.lst ys) → H' b = some (.lst ys)
/-- a pair (position, list of moves), the list not in X -/
def CurM (K : PySem.W.Frag) (H : Hp) (X : List Addr) (v : V) (c : PosD × List Stp) : Prop := ∃ (a ml : Addr) (pz : V) (xs : List V), v = .ref a ∧ SqT K H a [pz, .ref ml] ∧ Im K H pz (dPos c.1) ∧ H ml = some (.lst xs) ∧ ImAll K H xs (c.2.map dStep) ∧ ml ∉ X
def dCurM (c : PosD × List Stp) : PyData := .tuple [dPos c.1, .list (c.2.map dStep)]
structure ModelAt (K : PySem.W.Frag) (H : Hp) (X : List Addr) (M mh : Addr) (ds : List Door) (st : Sta) : Prop where
  mx : mh ∈ X
  ex : ∃ (dv cv : V) (hs : List V), H M = some (.dK [(.inr "doors", dv), (.inr "current", cv), (.inr "history", .ref mh)]) ∧ Im K H dv (dDoors ds) ∧ CurM K H X cv (st.p, st.made) ∧ H mh = some (.lst hs) ∧ hs.length = st.hist.length ∧
    ∀ (i : Nat) (v : V) (c : PosD × List Stp), hs[i]? = some v → st.hist[i]? = some c → CurM K H X v c
def ActAt (K : PySem.W.Frag) (H : Hp) (X : List Addr) (v : V) : Act → Prop
  | .go i j => Im K H v (.tuple [.str "go", dPair (i, j)])
  | .undo => Im K H v (.tuple [.str "undo", .none])
  | .play ss => ∃ (a l : Addr) (xs : List V), v = .ref a ∧ SqT K H a [.str "play", .ref l] ∧ H l = some (.lst xs) ∧ l ∉ X ∧ ImAll K H xs (ss.map dStep)
section
variable {K : PySem.W.Frag} {H H' : Hp} {X : List Addr} {v : V} {c : PosD × List Stp} {M mh s hi g p q : Addr} {ds : List Door} {st : Sta} {a : Act}
theorem CurM.keep (h : CurM K H X v c) (t : TK H H') (k : KpX X H H') : CurM K H' X v c := by
  obtain ⟨a, ml, pz, xs, e, h1, h2, h3, h4, h5⟩ := h
  exact ⟨a, ml, pz, xs, e, t.seq h1, h2.tk t, k _ _ h5 h3, h4.tk t, h5⟩
theorem CurM.dp (h : CurM K H X v c) : Dp K H v (dCurM c) := by
  obtain ⟨a, ml, pz, xs, rfl, h1, h2, h3, h4, _⟩ := h
  exact .tup h1 (.cons h2.dp (.cons (.lst (SqL.of h3) h4.dp) .nil))
theorem Sh.curM (c : PosD × List Stp) : Sh 3 (dCurM c) := Sh.two (Sh.pos _) (Sh.steps _)
theorem KpX.same (h : Same H H') : KpX X H H' := fun b ys _ e => h _ _ e
theorem KpX.trans {H2 : Hp} (a : KpX X H H') (b : KpX X H' H2) : KpX X H H2 := fun c ys h e => b c ys h (a c ys h e)
theorem KpX.one (k : Kp1 p H H') (h : p ∈ X) : KpX X H H' := fun b ys n e => k _ _ e (fun z => n (z ▸ h))
theorem KpX.two (k : Kp2 p q H H') (h1 : p ∈ X) (h2 : q ∈ X) : KpX X H H' := fun b ys n e => k _ _ e (fun z => n (z ▸ h1)) (fun z => n (z ▸ h2))
/-- nothing of the model changes -/
theorem ModelAt.keep (m : ModelAt K H X M mh ds st) (t : TK H H') (k : KpX X H H') (hM : ∀ o, H M = some o → H' M = some o) (hm : ∀ o, H mh = some o → H' mh = some o) : ModelAt K H' X M mh ds st := by
  obtain ⟨dv, cv, hs, h1, h2, h3, h4, h5, h6⟩ := m.ex
  exact ⟨m.mx, dv, cv, hs, hM _ h1, h2.tk t, h3.keep t k, hm _ h4, h5, fun i v c e1 e2 => (h6 i v c e1 e2).keep t k⟩
theorem ModelAt.same (m : ModelAt K H X M mh ds st) (e : Same H H') : ModelAt K H' X M mh ds st := m.keep (TK.same e) (KpX.same e) (fun o h => e _ _ h) fun o h => e _ _ h
theorem ActAt.keep (m : ActAt K H X v a) (t : TK H H') (k : KpX X H H') : ActAt K H' X v a := by
  cases a with
  | go i j => exact Im.tk t m
  | undo => exact Im.tk t m
  | play ss =>
    obtain ⟨a, l, xs, e, h1, h2, h3, h4⟩ := m
    exact ⟨a, l, xs, e, t.seq h1, k _ _ h3 h2, h3, h4.tk t⟩
theorem st_par {σ : L2.St} {i j : Nat} {ta : TA} {D : Ends} (h : ta σ H fun vs H1 => ∃ a b, vs = [a, b] ∧ D.nx ((σ.set i (some a)).set j (some b)) H1) : tPar i j ta D σ H := h
theorem st_seqP {σ : L2.St} {i j : Nat} {ta : TA} {s : TS} {D : Ends} (h : ta σ H fun vs H1 => ∃ a b, vs = [a, b] ∧ s D ((σ.set i (some a)).set j (some b)) H1) : tSeq (tPar i j ta) s D σ H := h
theorem st_ab {x y : V} {R : V → V → Prop} (q : R x y) : ∃ a b, [x, y] = [a, b] ∧ R a b := ⟨x, y, rfl, q⟩
theorem Kp2.tkD {kvs : List (Key × V)} {ys : List V} (k : Kp2 p q H H') (h1 : H p = some (.dK kvs)) (h2 : H q = some (.lst ys)) : TK H H' := fun b xs h => by
  have n1 : b ≠ p := fun z => nrd_dK h1 xs (z ▸ h)
  have n2 : b ≠ q := fun z => nrd_lst h2 xs (z ▸ h)
  rcases h with h | ⟨o, h⟩
  · exact .inl (k b _ h n1 n2)
  · exact .inr ⟨o, k b _ h n1 n2⟩
theorem put_cur {d c m y : V} : putK [((.inr "doors" : Key), d), (.inr "current", c), (.inr "history", m)] (.inr "current") y = [(.inr "doors", d), (.inr "current", y), (.inr "history", m)] := rfl
theorem mem_nbr {ns : List Door} {x b : Nat} (g : HouseOk ds) (hp : ns.Perm (nbrs 0 ds x)) : b ∈ ns.map (·.1) ↔ (doorOf ds x b).isSome = true := by
  constructor
  · intro h
    obtain ⟨z, hz, rfl⟩ := List.mem_map.mp h
    rw [g.nbr (hp.mem_iff.mp hz)]
    rfl
  · intro h
    obtain ⟨i, hi⟩ := Option.isSome_iff_exists.mp h
    exact List.mem_map.mpr ⟨(b, i), hp.mem_iff.mpr (g.nbr_of hi), rfl⟩
/-- one branch, then one common end -/
theorem st_join {σ : L2.St} {c : Bool} {go s : TS} {D : Ends} (C : L2.St → Hp → Prop) (hp : c = false → C σ H) (hg : c = true → ∀ R : L2.St → Hp → Prop, (∀ σ H, C σ H → R σ H) → go { D with nx := R } σ H) (ht : ∀ σ H, C σ H → s D σ H) :
    if c = true then go { D with nx := s D } σ H else s D σ H := by
  cases c with
  | true => exact iteT (hg rfl _ ht)
  | false => exact iteF (ht _ _ (hp rfl))
/-- lists that hold the entries' data -/
theorem dps_of : ∀ {hs : List V} {cs : List (PosD × List Stp)}, hs.length = cs.length → (∀ (i : Nat) (v : V) (c : PosD × List Stp), hs[i]? = some v → cs[i]? = some c → CurM K H X v c) → DpAll K H hs (cs.map dCurM)
  | [], [], _, _ => .nil
  | [], _ :: _, h, _ => by cases h
  | _ :: _, [], h, _ => by cases h
  | v :: hs, c :: cs, h, k => .cons (k 0 v c rfl rfl).dp (dps_of (Nat.succ.inj h) fun i v' c' e1 e2 => k (i + 1) v' c' (by simpa using e1) (by simpa using e2))
end
section
/-- a method's call within a try: its exceptions are wished for at the state of the call -/
def tMethE (C : Addr) (m : Str) (sp : Sp) (E : L2.St → XK) (ta : TE) (t : TA) : TE := fun σ H Q => ta σ H fun x H1 => ∃ a dx fs, x = .ref a ∧ H1 a = some (.ins C dx fs) ∧ fs.lookup m = none ∧ t σ H1 fun vs H2 => sp (x :: vs) H2 Q (E σ)
variable {X : Cx} {CX : CXT} {k : Nat} {f C : Addr} {fd : FuncData} {ps : List Str} {sp : Sp} {E : L2.St → XK} {m : Str} {pos apos : Pos} {e o : Expr} {es : List Expr} {ta : TE} {t : TA} {pl : Sem Bool}
theorem pe_methE (he : PE X o ta) (c : Cls X.K C) (hm : Meth X.K C m f) (F : FnOk X.prog X.w X.K X.mg X.base CX k f fd ps sp) (hr : Room k X.A) (hb : Binds X.K fd ps []) (hx : ∀ σ, PassesAt CX X σ (E σ)) (ha : PA X (e :: es) t)
    (h1 : starEach (e :: es) X.env = (false, eval e X.env) :: starEach es X.env := by rfl) (h2 : (backTo pos (starEach es X.env)).any (·.1) = false := by rfl)
    (ht : eval (.Call (.Attribute o m apos) (e :: es) [] pos) X.env = (eval o X.env >>= fun ov => standAt apos.atName >>= fun _ => holding [ov] (getMethod ov m pl) >>= fun r => callWith pos r.1 r.2 (backTo pos (starEach (e :: es) X.env)) (backToKw pos (keywordEach [] X.env))) := by rfl) :
    PE X (.Call (.Attribute o m apos) (e :: es) [] pos) (tMethE C m sp E ta t) :=
  ⟨fun pins s σ H Q I h => PySem.W.methodCall_KW (pl := pl) (thn (he.run pins s σ H _ I h) fun u s1 q => by
    obtain ⟨x, H1, I1, rx, a, _, _, ex, ea, l, q⟩ := q
    subst ex
    cases (show u = Value.ref a from rx)
    exact getmeth_ok I1 ea c hm l (PySem.W.callWith_K (first := [.ref a]) (h₀ := X.base) I.ok.mod.kin hm.kp (thn (ha.run pos pins s1 σ H1 _ I1 q) fun us s2 q2 => match q2 with
      | ⟨vs, _, I2, r, q3⟩ => ⟨I2.kIn, run_fnS (us := .ref a :: us) (vs := .ref a :: vs) F hr hb (hx σ) I2 (.cons rfl r) q3⟩) h1 h2)) ht⟩
theorem pe_methE0 (he : PE X o ta) (c : Cls X.K C) (hm : Meth X.K C m f) (F : FnOk X.prog X.w X.K X.mg X.base CX k f fd ps sp) (hr : Room k X.A) (hb : Binds X.K fd ps []) (hx : ∀ σ, PassesAt CX X σ (E σ))
    (ht : eval (.Call (.Attribute o m apos) [] [] pos) X.env = (eval o X.env >>= fun ov => standAt apos.atName >>= fun _ => holding [ov] (getMethod ov m pl) >>= fun r => callWith pos r.1 r.2 (backTo pos (starEach [] X.env)) (backToKw pos (keywordEach [] X.env))) := by rfl) :
    PE X (.Call (.Attribute o m apos) [] [] pos) (tMethE C m sp E ta tNil) :=
  ⟨fun pins s σ H Q I h => PySem.W.methodCall_KW (pl := pl) (thn (he.run pins s σ H _ I h) fun u s1 q => by
    obtain ⟨x, H1, I1, rx, a, _, _, ex, ea, l, q⟩ := q
    subst ex
    cases (show u = Value.ref a from rx)
    exact getmeth_ok I1 ea c hm l (PySem.W.callWith_K0 (first := [.ref a]) I1.kIn hm.kp (run_fnS (us := [.ref a]) (vs := [.ref a]) F hr hb (hx σ) I1 (.cons rfl .nil) q))) ht⟩
end
end K83
/-! the try statement; two sessions beside each other; a plan cut in two -/
namespace K83
open PySem PySem.Spec PyProof.Rows L2
section
variable {K : PySem.W.Frag} {σ : L2.St} {H : Hp} {Q : VK} {D : Ends} {a s : TS} {ta : TE} {t : TA}
theorem st_try (C : L2.St → Hp → Prop) (hg : ∀ R : L2.St → Hp → Prop, (∀ σ H, C σ H → R σ H) → a { D with nx := R } σ H) (ht : ∀ σ H1, C σ H1 → s D σ H1) : tSeq a s D σ H := hg _ ht
theorem st_methE {C : Addr} {m : Str} {sp : Sp} {E : L2.St → XK} (h : ta σ H fun x H1 => ∃ a dx fs, x = .ref a ∧ H1 a = some (.ins C dx fs) ∧ fs.lookup m = none ∧ t σ H1 fun vs H2 => sp (x :: vs) H2 Q (E σ)) : tMethE C m sp E ta t σ H Q := h
theorem st_xfV {n : Str} (h : ta σ H fun x H1 => ∃ (a C dd : Addr) (fs : List (Str × V)) (v : V), x = .ref a ∧ XfC K C ∧ PySem.W.findIn K (.ref C) n = some none ∧ H1 a = some (exV a (.ref C) (some dd)) ∧ H1 dd = some (.xd fs) ∧ fs.lookup n = some v ∧ Q v H1) : tXfV K n ta σ H Q := h
end
section
variable {K : PySem.W.Frag} {B H H' : Hp} {s hi x y C dx t : Addr} {fs : List (Str × V)} {ds : List Door} {p q : PosD} {made : List Stp} {hist : List (PosD × List Stp)}
/-- a session of which nothing changes -/
theorem SessAt.kp2 (S : SessAt K B H s hi ds p made hist) (k : Kp2 x y H H') (hx : B x = none) (hy : B y = none) (h1 : s ≠ x) (h2 : s ≠ y) (h3 : hi ≠ x) (h4 : hi ≠ y) (t : TK H H') : SessAt K B H' s hi ds p made hist := by
  obtain ⟨dx, tr, hv, cv, xs, g1, g2, g3, g4, g5, g6⟩ := S.ex
  exact ⟨Same.kp2 S.sm hx hy k, S.s0, S.h0, dx, tr, hv, cv, xs, g1, k _ _ g2 h1 h2, k _ _ g3 h3 h4, g4.tk t, g5.tk t, g6.tk t⟩
/-- a tree does not stand on an empty list -/
theorem TreeAt.woL (tr : TreeAt K H t ds) (h : H y = some (.lst [])) : TreeAt K (K83.wo H y) t ds := by
  obtain ⟨dxt, la, v, rs, h1, h2, h3, h4⟩ := tr.ex
  refine ⟨dxt, la, v, rs, ?_, ?_, h3, fun a r e => ?_⟩
  · rw [wo_ne (fun z => by rw [z, h] at h1; cases h1)]
    exact h1
  · rw [wo_ne (fun z => by
      rw [z, h] at h2
      have e : (rs.map V.ref) = [] := by simpa using h2.symm
      have l : rs.length = 0 := by rw [List.map_eq_nil_iff.mp e]; rfl
      omega)]
    exact h2
  · obtain ⟨kvs, g1, g2⟩ := h4 a r e
    exact ⟨kvs, by rw [wo_ne (fun z => by rw [z, h] at g1; cases g1)]; exact g1, g2⟩
theorem TreeAt.wo' (tr : TreeAt K B t ds) (sm : Same B H) (h : H x = some (.ins C dx fs)) (hl : fs.length ≠ 3) : TreeAt K (K83.wo B x) t ds := by
  cases e : B x with
  | none =>
    have : K83.wo B x = B := by
      funext b
      by_cases hb : b = x
      · rw [hb, wo_self, e]
      · rw [wo_ne hb]
    rw [this]
    exact tr
  | some o =>
    have e2 := sm _ _ e
    rw [h] at e2
    cases e2
    exact tr.wo e hl
theorem TreeAt.woL' (tr : TreeAt K B t ds) (sm : Same B H) (h : H y = some (.lst [])) : TreeAt K (K83.wo B y) t ds := by
  cases e : B y with
  | none =>
    have : K83.wo B y = B := by
      funext b
      by_cases hb : b = y
      · rw [hb, wo_self, e]
      · rw [wo_ne hb]
    rw [this]
    exact tr
  | some o =>
    have e2 := sm _ _ e
    rw [h] at e2
    cases e2
    exact tr.woL e
theorem wo_sub : Same (wo B x) B := fun b o e => by
  by_cases h : b = x
  · rw [h, wo_self] at e; cases e
  · rw [wo_ne h] at e
    exact e
/-- a session that does not stand on another one that is new -/
theorem SessAt.apart (S : SessAt K B H s hi ds p made hist) (h : H x = some (.ins C dx fs)) (hl : fs.length ≠ 3) (hy : H y = some (.lst [])) : ∃ B', SessAt K B' H s hi ds p made hist ∧ B' x = none ∧ B' y = none := by
  obtain ⟨dx', tr, hv, cv, xs, g1, g⟩ := S.ex
  have n : ∀ {B : Hp} {b c : Addr}, B b = none → wo B c b = none := fun {B b c} e => by
    by_cases h : b = c
    · rw [h, wo_self]
    · rw [wo_ne h]; exact e
  refine ⟨wo (wo B x) y, ⟨(wo_sub.trans wo_sub).trans S.sm, n (n S.s0), n (n S.h0), dx', tr, hv, cv, xs, (g1.wo' S.sm h hl).woL' (wo_sub.trans S.sm) hy, g⟩, n wo_self, wo_self⟩
end
section
variable {ds : List Door}
theorem runS_split : ∀ (l m : List Stp) (p q : PosD) (i : Nat), runS ds p (l ++ m) i = .inr q → ∃ r, runS ds p l i = .inr r ∧ runS ds r m (i + l.length) = .inr q
  | [], m, p, q, i, e => ⟨p, rfl, e⟩
  | s :: l, m, p, q, i, e => by
    rw [List.cons_append] at e
    cases hb : bl ds p s with
    | some k => rw [runS_some hb] at e; cases e
    | none =>
      rw [runS_none hb] at e
      obtain ⟨r, h1, h2⟩ := runS_split l m _ q (i + 1) e
      refine ⟨r, by rw [runS_none hb]; exact h1, ?_⟩
      rw [List.length_cons, show i + (l.length + 1) = i + 1 + l.length by omega]
      exact h2
/-- the state ahead of step j, and that step j goes -/
theorem runS_at {l : List Stp} {p q : PosD} {j : Nat} {s : Stp} (h : runS ds p l 0 = .inr q) (hj : l[j]? = some s) : ∃ r, runS ds p (l.take j) 0 = .inr r ∧ bl ds r s = none ∧ runS ds p (l.take (j + 1)) 0 = .inr (mv ds r s) := by
  have ht : l.take (j + 1) = l.take j ++ [s] := by rw [List.take_add_one, hj]; rfl
  have e : l = l.take (j + 1) ++ l.drop (j + 1) := (List.take_append_drop _ _).symm
  rw [e] at h
  obtain ⟨r1, h1, h2⟩ := runS_split _ _ _ _ _ h
  have h3 := h1
  rw [ht] at h3
  obtain ⟨r, h4, h5⟩ := runS_split _ _ _ _ _ h3
  refine ⟨r, h4, ?_⟩
  cases hb : bl ds r s with
  | some k => rw [runS_some hb] at h5; cases h5
  | none =>
    rw [runS_none hb] at h5
    have h6 : (Sum.inr (mv ds r s) : (Nat × Bool) ⊕ PosD) = .inr r1 := h5
    have h7 : mv ds r s = r1 := by injection h6
    exact ⟨rfl, by rw [h1, h7]⟩
theorem bl_none {p : PosD} {s : Stp} (h : bl ds p s = none) : p.1.getD s.1 0 = s.2.1 ∧ p.2.getD (doorI ds s) 0 ≠ s.1 := by
  unfold bl at h
  split at h
  · rename_i h1
    split at h
    · cases h
    · rename_i h2
      exact ⟨h1, h2⟩
  · cases h
end
section
variable {K : PySem.W.Frag} {σ : L2.St} {H : Hp} {Q : VK} {tk tv : TE} {r : List (TE × TE)} {QP : List (V × V) → Hp → Prop}
/-! a dictionary's display -/
theorem st_disp (h : ∀ p, H p = none → tPairs r σ (upd H p (.dK [])) fun ps H2 => H2 p = some (.dK []) ∧ ∃ kvs : List (Key × V), ps = kvs.map (fun kv => (kV kv.1, kv.2)) ∧ kvs.length ≤ 15 ∧ Q (.ref p) (upd H2 p (.dK (mergeK [] kvs)))) : tDisp r σ H Q := h
theorem st_pcons (h : tk σ H fun x H1 => tv σ H1 fun y H2 => tPairs r σ H2 fun ps H3 => QP ((x, y) :: ps) H3) : tPairs ((tk, tv) :: r) σ H QP := h
theorem st_pnil (h : QP [] H) : tPairs [] σ H QP := h
theorem merge3 {a b c : V} : mergeK [] [((.inr "doors" : Key), a), (.inr "current", b), (.inr "history", c)] = [(.inr "doors", a), (.inr "current", b), (.inr "history", c)] := rfl
theorem reach0 {ds : List Door} {p : PosD} (h : PosOk ds p) : Reach ds p 0 ⟨p, [], []⟩ :=
  ⟨h, rfl, rfl, fun s z => (by cases z), Nat.le_refl _, Nat.le_refl _, fun c z => (by cases z)⟩
theorem st_slL {a : Addr} {xs : List V} {lo hi : Option Int} (h : SqL K H a xs) (q : ∀ p, H p = none → Q (.ref p) (upd H p (.lst (cutV xs lo hi)))) : rSlL K (.ref a) lo hi H Q := ⟨a, xs, rfl, h, q⟩
end
end K83
namespace K83
open PySem PySem.Spec PyProof.Rows L2
local macro_rules | `(tactic| walk_at "go1") => `(tactic| first
  | ((with_reducible refine' st_var ?h ?q); (case h => exact rfl)) | with_reducible refine st_c ?_ | with_reducible refine st_op ?_ | with_reducible refine st_cons ?_ | with_reducible refine st_nil ?_ | with_reducible refine st_cb ?_
  | with_reducible refine st_I0 ?_ | with_reducible refine st_eqI ?_ | with_reducible refine st_neI ?_ | with_reducible refine st_eqS ?_ | with_reducible refine st_neS ?_ | with_reducible refine st_bl ?_ | with_reducible refine st_blV ?_ | with_reducible refine st_intV ?_
  | with_reducible refine st_tup ?_ | with_reducible refine st_lst ?_ | ((with_reducible refine st_new ?h ?_); (case h => exact Nat.le_of_ble_eq_true rfl)) | with_reducible refine st_call ?_ | with_reducible refine st_test ?_ | with_reducible refine st_B ?_
  | with_reducible refine st_and ?_ | with_reducible refine st_or ?_ | with_reducible refine st_not ?_ | with_reducible refine st_andV ?_ | with_reducible refine st_orV ?_ | with_reducible refine st_notV ?_ | with_reducible refine st_if ?_
  | with_reducible refine st_noPart ?_ | with_reducible refine st_part ?_ | with_reducible refine st_sl ?_ | with_reducible refine st_sl3 ?_ | with_reducible refine st_someV ?_ | with_reducible refine st_bm ?_ | with_reducible refine st_bm0 ?_ | with_reducible refine st_fld ?_ | with_reducible refine st_meth ?_ | with_reducible refine st_un ?_ | with_reducible refine st_U ?_
  | with_reducible refine st_seqA ?_ | with_reducible refine st_seqD ?_ | with_reducible refine st_seqI ?_ | with_reducible refine st_seqF ?_ | with_reducible refine st_seqIE ?_ | with_reducible refine st_seqG ?_ | with_reducible refine st_name ?_ | with_reducible refine st_asg ?_
  | with_reducible refine st_ret ?_ | with_reducible refine st_ifs ?_ | with_reducible refine st_drop ?_ | with_reducible refine st_sfld ?_ | with_reducible refine st_gcons ?_ | with_reducible refine st_gnil ?_
  | with_reducible refine iteT ?_ | with_reducible refine iteF ?_ | with_reducible refine iteNT ?_ | with_reducible refine iteNF ?_ | ((with_reducible refine' st_isiTT ?h ?q); (case h => assumption)) | ((with_reducible refine' st_lenT ?h ?q); (case h => assumption)) | ((with_reducible refine' st_lenL ?h ?q); (case h => first | assumption | exact SqL.of (by assumption)))
  | ((with_reducible refine' st_ixT ?h ?a ?q); (case h => assumption); (case a => exact rfl)) | ((with_reducible refine' st_ixL ?h ?a ?q); (case h => first | assumption | exact SqL.of (by assumption)); (case a => exact rfl))
  | ((with_reducible refine iteNS ?h ?_); (case h => exact rfl)) | ((with_reducible refine iteDT ?h ?_); (case h => exact rfl)) | ((with_reducible refine' st_gtup ?h ?l ?q); (case h => first | exact SqT.of upd_same | assumption); (case l => exact rfl))
  | with_reducible refine st_isNN ?_ | with_reducible refine st_isNR ?_ | with_reducible refine st_isNI ?_ | with_reducible refine st_notNN ?_ | with_reducible refine st_notNR ?_
  | ((with_reducible refine' st_fldQ ?h ?c ?n ?l ?q); (case h => assumption); (case c => first | (apply c_Tree; assumption) | (apply c_Simulation; assumption) | (apply c_Session; assumption)); (case n => first | (apply a_Tree_doors; assumption) | (apply a_Tree_size; assumption) | (apply a_Tree_around; assumption) | (apply a_Simulation_tree; assumption) | (apply a_Simulation_rooms; assumption) | (apply a_Simulation_barred; assumption) | (apply a_Simulation_done; assumption) | (apply a_Session_house; assumption) | (apply a_Session_tree; assumption) | (apply a_Session_current; assumption) | (apply a_Session_history; assumption)); (case l => exact rfl))
  | ((with_reducible refine' st_methQ ?h ?l ?q); (case h => assumption); (case l => exact rfl))
  | with_reducible refine st_int1B ?_ | with_reducible refine st_max2 ?_ | ((with_reducible refine' st_listL ?h ?q); (case h => first | assumption | exact SqL.of (by assumption))) | ((with_reducible refine' st_listT ?h ?q); (case h => assumption)) | ((with_reducible refine' st_tupL ?h ?q); (case h => first | assumption | exact SqL.of (by assumption)))
  | with_reducible refine st_lstRg ?_ | with_reducible refine st_rg1 ?_ | with_reducible refine st_dget ?_ | with_reducible refine st_isiII ?_ | with_reducible refine st_isiIB ?_)
local macro_rules | `(tactic| walk_at "go") => `(tactic| repeat (walk_at "go1"))
local macro_rules | `(tactic| walk_at "w1") => `(tactic| first
  | (walk_at "go1")
  | with_reducible refine st_for ?_ | with_reducible refine st_seqFr ?_ | with_reducible refine st_lc ?_ | with_reducible refine st_iRng1 ?_ | with_reducible refine st_iRng2 ?_ | with_reducible refine st_iEnum ?_ | with_reducible refine st_iEnumT ?_ | with_reducible refine st_iList ?_ | with_reducible refine st_iTup ?_
  | ((with_reducible refine' st_eT ?h ?q); (case h => assumption)) | ((with_reducible refine' st_iT ?h ?q); (case h => assumption)) | ((with_reducible refine' st_eL ?h ?q); (case h => first | assumption | exact SqL.of (by assumption))) | ((with_reducible refine' st_iL ?h ?q); (case h => first | assumption | exact SqL.of (by assumption)))
  | ((with_reducible refine' st_tyL ?h ?q); (case h => assumption)) | ((with_reducible refine' st_gunl ?h ?l ?q); (case h => exact SqL.of (by assumption)); (case l => exact rfl)) | with_reducible refine st_par ?_ | with_reducible refine st_seqP ?_ | with_reducible refine st_ab ?_ | with_reducible refine st_methE ?_ | with_reducible refine st_xfV ?_ | with_reducible refine st_bits ?_ | with_reducible refine st_make ?_ | with_reducible refine st_mkO ?_ | with_reducible refine iteNNT ?_ | with_reducible refine iteNNF ?_ | with_reducible refine st_gsub ?_ | with_reducible refine st_dput ?_ | with_reducible refine st_seqDp ?_)
local macro_rules | `(tactic| walk_at "w") => `(tactic| repeat (walk_at "w1"))
abbrev N_l_neighbours : List Str := ["_law_doors", "_law_place", "_law_found", "_law_index", "_law_ends"]
theorem sc_l_neighbours : FnScope N_l_neighbours ["_law_doors", "_law_place"] (defScope S_l_neighbours) := ⟨rfl, rfl, rfl, by decide +kernel, rfl, by decide +kernel, by decide +kernel⟩
def sp_l_neighbours (K : PySem.W.Frag) : Sp := fun vs H Q _ => ∃ (v : V) (ds : List Door) (a : Nat), vs = [v, vI a] ∧ Im K H v (dDoors ds) ∧ HouseOk ds ∧ ∀ (H' : Hp) (q : Addr) (xs : List V) (ns : List Door), ns.Perm (nbrs 0 ds a) → Same H H' → H q = none → H' q = some (.lst xs) → ImAll K H' xs (ns.map dPair) → Q (.ref q) H'
set_option maxHeartbeats 4000000 in
theorem ok_l_neighbours {P : Program} {w : World} {K : PySem.W.Frag} {mg : Str → Option Value} {base : Heap} (T : Tx K mg) : Ok P w K mg base CX0 2 d_l_neighbours ["_law_doors", "_law_place"] (sp_l_neighbours K) := by
  refine (f_l_neighbours T).ok sc_l_neighbours (fun vs H Q E h => ?_) (fun cdv A outer s H vs Q E hr h => ?_)
  · obtain ⟨v, ds, a, rfl, _⟩ := h
    rfl
  · obtain ⟨v, ds, a, rfl, hv, hO, k⟩ := h
    obtain ⟨w, xs, rfl, ha, hx⟩ := hv.tup_inv
    have hl : xs.length = ds.length := by rw [hx.len, List.length_map]
    have h5 := hO.len
    refine ⟨_, PSs.nox (pss_cons (ps_set (i := 2) sc_l_neighbours.nd rfl (Or.inl rfl) (pe_lst pa_nil))
      (pss_cons (ps_for PassesOwn.never rfl (pi_enumT (by rfl) (n_enumerate T) (pa_cons (pv 0) pa_nil)) (pg_tup rfl (pgs_cons (pg_name (i := 3) sc_l_neighbours.nd rfl (Or.inl rfl)) (pgs_cons (pg_name (i := 4) sc_l_neighbours.nd rfl (Or.inl rfl)) pgs_nil))) (pss_one (ps_if (pt_cmpR op_in_seq (pv 1) (pv 4) (by rfl)) (pss_one (ps_expr (pe_bm PySem.F.plainAttrs_list PySem.F.slot_list_append PySem.F.type_list_append mt_append (pv 2) (pa_cons (pe_tup (pa_cons (pe_ix ix_tup (pv 4) (pe_callTy call_int1A (by rfl) (n_int T) bt_int (pa_cons (pe_cmpR op_eq (pe_ix ix_tup (pv 4) pe_int (fun _ _ => rfl)) (pv 1) (nomark _)) pa_nil)) (fun _ _ => rfl)) (pa_cons (pv 3) pa_nil))) pa_nil)))) pss_nil)))
      (pss_one (ps_ret (pe_callB (cr_sortT (d := 2) (B := 1000) (by decide)) (by rfl) (n_sorted T) bt_sorted (pa_cons (pv 2) pa_nil)))))), ?_⟩
    try dsimp only [cxOf, Cx.nox, Cx.wish]
    have hstart : ∀ a0 a1 : V, L2.start N_l_neighbours [a0, a1] = [some a0, some a1, none, none, none] := fun _ _ => rfl
    rw [hstart]
    clear hstart
    walk_at "w"
    intro q nq
    have e1 := Same.new nq (o := .lst [])
    have q1 := upd_same (H := H) (a := q) (o := .lst [])
    have ha1 := (TK.same e1).seq ha
    generalize upd H q _ = H1 at *
    walk_at "w"
    refine for_eT xs (fun i σ H2 => ∃ (v3 v4 : Option V) (ys : List V), σ = [some (.ref w), some (vI a), some (.ref q), v3, v4] ∧ Same H H2 ∧ H2 q = some (.lst ys) ∧ ImAll K H2 ys ((nbrs 0 (ds.take i) a).map dPair)) ?_ ?_ ?_ ?_
    · exact ⟨none, none, [], rfl, e1, q1, .nil⟩
    · rintro i σ H2 _ ⟨_, _, _, _, sm, _⟩
      exact (TK.same sm).seq ha
    · rintro i x σ H2 hi ⟨v3, v4, ys, rfl, sm, hq, hy⟩ U nU
      obtain ⟨dd, hdd, him⟩ := hx.get' hi
      rw [List.getElem?_map] at hdd
      obtain ⟨d, hd, rfl⟩ := Option.map_eq_some_iff.mp hdd
      obtain ⟨il, ei⟩ := List.getElem?_eq_some_iff.mp hd
      obtain ⟨b, rfl, hb⟩ := him.pair_inv
      have e2 := Same.new nU (o := .tup [.int (i : Nat), .ref b])
      have hu : SqT K (upd H2 U (.tup [.int (i : Nat), .ref b])) U [.int (i : Nat), .ref b] := SqT.of upd_same
      have hb1 := (TK.same (sm.trans e2)).seq hb
      have hq1 := e2 _ _ hq
      have hy1 := hy.tk (TK.same e2)
      have sm1 := sm.trans e2
      generalize upd H2 U _ = H3 at *
      have ht : ds.take (i + 1) = ds.take i ++ [d] := by rw [List.take_add_one, hd]; rfl
      have hn : nbrs 0 (ds.take (i + 1)) a = nbrs 0 (ds.take i) a ++ if d.1 = a ∨ d.2 = a then [((if d.1 = a then d.2 else d.1), i)] else [] := by
        rw [ht, nbrs_snoc, List.length_take, Nat.min_eq_left (by omega), Nat.zero_add]
      have hyl := hy1.len
      have hnl := nbrs_len (ds.take i) 0 a
      rw [List.length_take] at hnl
      rw [List.length_map] at hyl
      walk_at "w"
      refine st_inT hb1 rfl rfl ?_
      rw [if_neg Bool.false_ne_true, inV_two]
      walk_at "w"
      by_cases hc : d.1 = a ∨ d.2 = a
      · rw [if_pos hc] at hn
        refine iteDT hc ?_
        walk_at "w"
        have e3 : decide ((d.1 : Int) = (a : Int)) = decide (d.1 = a) := by
          by_cases h : d.1 = a
          · rw [decide_eq_true h, decide_eq_true (by omega)]
          · rw [decide_eq_false h, decide_eq_false (by omega)]
        rw [e3]
        refine st_ixT (v := vI (if d.1 = a then d.2 else d.1)) hb1 ?_ ?_
        · by_cases h : d.1 = a
          · rw [decide_eq_true h, if_pos h]; rfl
          · rw [decide_eq_false h, if_neg h]; rfl
        walk_at "w"
        intro c nc
        have e4 := Same.new nc (o := .tup [vI (if d.1 = a then d.2 else d.1), .int (i : Nat)])
        have c4 := upd_same (H := H3) (a := c) (o := .tup [vI (if d.1 = a then d.2 else d.1), .int (i : Nat)])
        generalize upd H3 c _ = H4 at *
        have hq4 := e4 _ _ hq1
        walk_at "w"
        refine st_append hq4 (by omega) ⟨_, _, ys ++ [.ref c], rfl, Same.mut (sm1.trans e4) nq, upd_same, ?_⟩
        rw [hn, List.map_append]
        exact ((hy1.tk (TK.same e4)).append (.one (Im.pair (SqT.of c4)))).tk (TK.lst hq4)
      · rw [if_neg hc, List.append_nil] at hn
        refine iteDF hc ?_
        walk_at "w"
        exact ⟨_, _, ys, rfl, sm1, hq1, by rw [hn]; exact hy1⟩
    · rintro σ H2 ⟨v3, v4, ys, rfl, sm, hq, hy⟩
      rw [hl, List.take_length] at hy
      have hyl := hy.len
      rw [List.length_map] at hyl
      have hnl := nbrs_len ds 0 a
      walk_at "w"
      refine st_sort (d := 2) (ds := nbrs 0 ds a) (fun z => [z.1, z.2]) (SqL.of hq) hy (by omega) (fun z hz => ⟨rfl, fun n hn => ?_⟩) fun r zs es nr hp hz => ?_
      · have g1 := hO.lt (hO.nbr hz)
        rcases List.mem_cons.mp hn with rfl | hn
        · omega
        · rw [List.mem_singleton.mp hn]; omega
      · exact k _ r zs es hp (sm.trans (Same.new nr)) (Same.none sm nr) upd_same (hz.tk (TK.new nr))
abbrev N_l_moved : List Str := ["_law_doors", "_law_position", "_law_step", "_law_person", "_law_start", "_law_end", "_law_places", "_law_bars", "_law_index", "_law_new_places", "_law_other", "_law_number"]
theorem sc_l_moved : FnScope N_l_moved ["_law_doors", "_law_position", "_law_step"] (defScope S_l_moved) := ⟨rfl, rfl, rfl, by decide +kernel, rfl, by decide +kernel, by decide +kernel⟩
def movedOf (ds : List Door) (p : PosD) (s : Stp) : Str × PosD := match bl ds p s with
  | some k => (wordOf k, p)
  | none => ("done", mv ds p s)
theorem movedOf_ok {ds : List Door} {p : PosD} {s : Stp} (g : HouseOk ds) (h : PosOk ds p) (hs : StepOk ds p.1.length s) : PosOk ds (movedOf ds p s).2 ∧ (movedOf ds p s).2.1.length = p.1.length := by
  unfold movedOf
  cases bl ds p s with
  | some k => exact ⟨h, rfl⟩
  | none => exact ⟨h.mv g hs, mv_len⟩
def sp_l_moved (K : PySem.W.Frag) : Sp := fun vs H Q _ => ∃ (v w u : V) (ds : List Door) (p : PosD) (s : Stp), vs = [v, w, u] ∧ Im K H v (dDoors ds) ∧ HouseOk ds ∧ Im K H w (dPos p) ∧ PosOk ds p ∧ Im K H u (dStep s) ∧ StepOk ds p.1.length s ∧
  ∀ (H' : Hp) (q : Addr) (y : V), Same H H' → H q = none → H' q = some (.lst [.str (movedOf ds p s).1, y]) → Im K H' y (dPos (movedOf ds p s).2) → Q (.ref q) H'
set_option maxHeartbeats 4000000 in
theorem ok_l_moved {P : Program} {w : World} {K : PySem.W.Frag} {mg : Str → Option Value} {base : Heap} (T : Tx K mg) : Ok P w K mg base CX0 3 d_l_moved ["_law_doors", "_law_position", "_law_step"] (sp_l_moved K) := by
  refine (f_l_moved T).ok sc_l_moved (fun vs H Q E h => ?_) (fun cdv A outer s H vs Q E hr h => ?_)
  · obtain ⟨v, w, u, ds, p, s, rfl, _⟩ := h
    rfl
  · obtain ⟨v, w, u, ds, p, s, rfl, hv, hO, hw, hP, hu, hS, k⟩ := h
    obtain ⟨a, ra, ba, rfl, ha, hra, hba⟩ := hw.pos_inv
    obtain ⟨b, rfl, hb⟩ := hu.step_inv
    obtain ⟨s1, i, hi⟩ := hS
    obtain ⟨l1, l2, l3, l4⟩ := hO.lt hi
    refine ⟨_, PSs.nox (pss_cons (ps_asg (pv 2) (pg_tup rfl (pgs_cons (pg_name (i := 3) sc_l_moved.nd rfl (Or.inl rfl)) (pgs_cons (pg_name (i := 4) sc_l_moved.nd rfl (Or.inl rfl)) (pgs_cons (pg_name (i := 5) sc_l_moved.nd rfl (Or.inr rfl)) pgs_nil)))))
      (pss_cons (ps_asg (pv 1) (pg_tup rfl (pgs_cons (pg_name (i := 6) sc_l_moved.nd rfl (Or.inl rfl)) (pgs_cons (pg_name (i := 7) sc_l_moved.nd rfl (Or.inl rfl)) pgs_nil))))
      (pss_cons (ps_if (pt_cmpR op_ne (pe_ix ix_tup (pv 6) (pv 3) (fun _ _ => rfl)) (pv 4) (nomark _)) (pss_one (ps_ret (pe_lst (pa_cons pe_str (pa_cons (pv 1) pa_nil))))) pss_nil)
      (pss_cons (ps_set (i := 8) sc_l_moved.nd rfl (Or.inl rfl) (pe_ix ix_list (pe_lc (own := [("_law_other", 10), ("_law_number", 11)]) rfl sc_l_moved.nd (pi_list (pe_call (ok_l_neighbours T) (hr.mono (by decide)) (by rfl) (g_l_neighbours T) (f_l_neighbours T).kp (b_l_neighbours T) .nil pass0 (pa_cons (pv 0) (pa_cons (pv 4) pa_nil)))) (blkOk_by (own := [("_law_other", 10), ("_law_number", 11)]) (N := N_l_moved) (sc := defScope S_l_moved) (by decide +kernel)) (fun _ _ _ _ _ => (show PG _ _ (gTup K 2 _) from (pg_tup rfl (pgs_cons (pg_name (i := 10) sc_l_moved.nd rfl (Or.inl rfl)) (pgs_cons (pg_name (i := 11) sc_l_moved.nd rfl (Or.inl rfl)) pgs_nil))))) (fun _ _ _ _ _ => pts_one (pt_cmpR op_eq (pv 10) (pv 5) (nomark _))) (fun _ _ _ _ _ => (pv 11))) pe_int (fun _ _ => rfl)))
      (pss_cons (ps_if (pt_cmpR op_eq (pe_ix ix_tup (pv 7) (pv 8) (fun _ _ => rfl)) (pv 3) (nomark _)) (pss_one (ps_ret (pe_lst (pa_cons pe_str (pa_cons (pv 1) pa_nil))))) pss_nil)
      (pss_cons (ps_set (i := 9) sc_l_moved.nd rfl (Or.inl rfl) (pe_op op_catA (pe_op op_catA (pe_slice sl_tupA (pv 6) po_none (po_some (pv 3))) (pe_tup (pa_cons (pv 5) pa_nil))) (pe_slice sl_tupA (pv 6) (po_some (pe_op op_add (pv 3) pe_int)) po_none)))
      (pss_one (ps_ret (pe_lst (pa_cons pe_str (pa_cons (pe_tup (pa_cons (pv 9) (pa_cons (pe_op op_catA (pe_op op_catA (pe_slice sl_tupA (pv 7) po_none (po_some (pv 8))) (pe_tup (pa_cons (pv 3) pa_nil))) (pe_slice sl_tupA (pv 7) (po_some (pe_op op_add (pv 8) pe_int)) po_none)) pa_nil))) pa_nil))))))))))), ?_⟩
    try dsimp only [cxOf, Cx.nox, Cx.wish]
    have hstart : ∀ a0 a1 a2 : V, L2.start N_l_moved [a0, a1, a2] = [some a0, some a1, some a2, none, none, none, none, none, none, none, none, none] := fun _ _ _ => rfl
    rw [hstart]
    clear hstart
    walk_at "w"
    refine st_ixT hra (at_map s1) ?_
    walk_at "w"
    by_cases haway : p.1.getD s.1 0 = s.2.1
    · refine iteNDT (by omega) ?_
      walk_at "w"
      refine ⟨v, ds, s.2.1, rfl, hv, hO, fun H1 q xs ns hp e1 nq hq hx => ?_⟩
      have xl := hx.len
      rw [List.length_map] at xl
      have nl := hp.length_eq
      have n5 := nbrs_len ds 0 s.2.1
      have h5 := hO.len
      walk_at "w"
      refine lc_listB xs fun Dl nD => ⟨fun j H2 => Same H1 H2 ∧ H2 Dl = some (.lst (((ns.take j).filter (fun z => decide (z.1 = s.2.2))).map fun z => vI z.2)), ⟨Same.new nD, upd_same⟩, ?_, ?_, ?_⟩
      · rintro j H2 _ ⟨sm, _⟩
        exact SqL.of (sm _ _ hq)
      · rintro j x H2 hj ⟨sm, hD⟩
        obtain ⟨dd, hdd, him⟩ := hx.get' hj
        rw [List.getElem?_map] at hdd
        obtain ⟨z, hz, rfl⟩ := Option.map_eq_some_iff.mp hdd
        obtain ⟨il, _⟩ := List.getElem?_eq_some_iff.mp hz
        obtain ⟨c, rfl, hc⟩ := (him.tk (TK.same sm)).pair_inv
        have ht : ns.take (j + 1) = ns.take j ++ [z] := by rw [List.take_add_one, hz]; rfl
        have fl := List.length_filter_le (fun z : Nat × Nat => decide (z.1 = s.2.2)) (ns.take j)
        rw [List.length_take] at fl
        walk_at "w"
        refine ⟨rfl, ?_⟩
        walk_at "w"
        by_cases hz2 : z.1 = s.2.2
        · refine iteDT (show ((z.1 : Nat) : Int) = (s.2.2 : Int) by omega) ?_
          walk_at "w"
          refine ⟨_, hD, small16 (by rw [List.length_map]; exact Nat.lt_of_le_of_lt fl (by omega)), Same.mut sm nD, ?_⟩
          rw [upd_same, ht, List.filter_append, List.map_append, List.filter_cons, if_pos (decide_eq_true hz2)]
          rfl
        · refine iteDF (show ¬ ((z.1 : Nat) : Int) = (s.2.2 : Int) by omega) ?_
          refine ⟨sm, ?_⟩
          rw [hD, ht, List.filter_append, List.filter_cons, if_neg (by rw [decide_eq_false hz2]; exact Bool.false_ne_true), List.filter_nil, List.append_nil]
      · rintro H2 ⟨sm, hD⟩
        rw [show xs.length = ns.length from xl, List.take_length] at hD
        have hf : ((ns.filter (fun z => decide (z.1 = s.2.2))).map fun z => vI z.2)[0]? = some (vI i) := by
          have hm : (s.2.2, i) ∈ ns.filter (fun z => decide (z.1 = s.2.2)) := List.mem_filter.mpr ⟨hp.mem_iff.mpr (hO.nbr_of hi), decide_eq_true rfl⟩
          cases hF : ns.filter (fun z => decide (z.1 = s.2.2)) with
          | nil => rw [hF] at hm; cases hm
          | cons z r =>
            have hz : z ∈ ns.filter (fun z => decide (z.1 = s.2.2)) := by rw [hF]; exact List.mem_cons_self
            obtain ⟨z1, z2⟩ := List.mem_filter.mp hz
            have z3 := hO.nbr (hp.mem_iff.mp z1)
            rw [of_decide_eq_true z2, hi] at z3
            rw [Option.some.inj z3]
            rfl
        have e2 := e1.trans sm
        have hdi : doorI ds s = i := by unfold doorI; rw [hi]; rfl
        walk_at "w"
        refine st_ixL (SqL.of hD) (atI_nat (j := 0) hf) ?_
        have hba2 := (TK.same e2).seq hba
        have hwr := (Im.ints hra).tk (TK.same e2)
        have hwb := (Im.ints hba).tk (TK.same e2)
        walk_at "w"
        refine st_ixT hba2 (at_map (by rw [hP.bl]; exact l4)) ?_
        walk_at "w"
        by_cases hbar : p.2.getD i 0 = s.1
        · refine iteDT (by omega) ?_
          have hb : bl ds p s = some false := by
            unfold bl
            rw [if_pos haway, hdi, if_pos hbar]
          have em : movedOf ds p s = (wordOf false, p) := by unfold movedOf; rw [hb]
          rw [em] at k
          walk_at "w"
          intro r nr
          exact k _ r _ (e2.trans (Same.new nr)) (Same.none e2 nr) upd_same (hw.tk (TK.same (e2.trans (Same.new nr))))
        · refine iteDF (by omega) ?_
          have hb : bl ds p s = none := by
            unfold bl
            rw [if_pos haway, hdi, if_neg hbar]
          have em : movedOf ds p s = (("done" : Str), mv ds p s) := by unfold movedOf; rw [hb]
          rw [em] at k
          walk_at "w"
          refine st_slTo hwr fun H3 t1 e3 i1 => ?_
          walk_at "w"
          intro c nc
          have e4 := e3.trans (Same.new nc (o := .tup [vI s.2.2]))
          have i2 : Im K (upd H3 c (.tup [vI s.2.2])) (.ref c) (.tuple [dI s.2.2]) := .tup (SqT.of upd_same) (.cons (.int _) .nil)
          have i1' := i1.tk (TK.new nc (o := .tup [vI s.2.2]))
          generalize upd H3 c _ = H4 at *
          walk_at "w"
          have pl1 := hP.few
          refine st_catIm i1' i2 (by rw [List.length_take, List.length_map]; show _ + 1 ≤ 1000; omega) fun H5 t2 e5' i3 => ?_
          have e5 := e4.trans e5'
          walk_at "w"
          refine st_slFrom (s.1 + 1) (by omega) (hwr.tk (TK.same e5)) fun H6 t3 e6' i4 => ?_
          have e6 := e5.trans e6'
          refine st_catIm (i3.tk (TK.same e6')) i4 (by rw [List.length_append, List.length_take, List.length_drop, List.length_map]; show _ + 1 + _ ≤ 1000; omega) fun H7 t4 e7' i5 => ?_
          have e7 := e6.trans e7'
          have i5' : Im K H7 t4 (dInts (p.1.set s.1 s.2.2)) := by
            have e : (p.1.map dI).take s.1 ++ [dI s.2.2] ++ (p.1.map dI).drop (s.1 + 1) = (p.1.set s.1 s.2.2).map dI := by
              rw [← set_cut s1, List.map_append, List.map_append, List.map_take, List.map_drop]; rfl
            rw [e] at i5
            exact i5
          walk_at "w"
          have b5 := hP.bl
          have h5' := hO.len
          refine st_slTo (hwb.tk (TK.same e7)) fun H8 t5 e8' i6 => ?_
          have e8 := e7.trans e8'
          walk_at "w"
          intro c2 nc2
          have e9 := e8.trans (Same.new nc2 (o := .tup [vI s.1]))
          have i7 : Im K (upd H8 c2 (.tup [vI s.1])) (.ref c2) (.tuple [dI s.1]) := .tup (SqT.of upd_same) (.cons (.int _) .nil)
          have i6' := i6.tk (TK.new nc2 (o := .tup [vI s.1]))
          have i59 := (i5'.tk (TK.same e8')).tk (TK.new nc2 (o := .tup [vI s.1]))
          generalize upd H8 c2 _ = H9 at *
          walk_at "w"
          refine st_catIm i6' i7 (by rw [List.length_take, List.length_map]; show _ + 1 ≤ 1000; omega) fun HA t6 eA' i8 => ?_
          have eA := e9.trans eA'
          walk_at "w"
          refine st_slFrom (i + 1) (by omega) (hwb.tk (TK.same eA)) fun HB t7 eB' i9 => ?_
          have eB := eA.trans eB'
          refine st_catIm (i8.tk (TK.same eB')) i9 (by rw [List.length_append, List.length_take, List.length_drop, List.length_map]; show _ + 1 + _ ≤ 1000; omega) fun HC t8 eC' iA => ?_
          have eC := eB.trans eC'
          have iA' : Im K HC t8 (dInts (p.2.set i s.1)) := by
            have e : (p.2.map dI).take i ++ [dI s.1] ++ (p.2.map dI).drop (i + 1) = (p.2.set i s.1).map dI := by
              rw [← set_cut (show i < p.2.length by omega), List.map_append, List.map_append, List.map_take, List.map_drop]; rfl
            rw [e] at iA
            exact iA
          have i5C := i59.tk (TK.same ((eA'.trans eB').trans eC'))
          walk_at "w"
          intro c3 nc3
          have eD := eC.trans (Same.new nc3 (o := .tup [t4, t8]))
          have c3' := upd_same (H := HC) (a := c3) (o := .tup [t4, t8])
          have iAD := iA'.tk (TK.new nc3 (o := .tup [t4, t8]))
          have i5D := i5C.tk (TK.new nc3 (o := .tup [t4, t8]))
          generalize upd HC c3 _ = HD at *
          walk_at "w"
          intro r nr
          refine k _ r _ ((e2.trans eD).trans (Same.new nr)) (Same.none (e2.trans eD) nr) upd_same ?_
          have em2 : mv ds p s = (p.1.set s.1 s.2.2, p.2.set i s.1) := by unfold mv; rw [hdi]
          show Im K _ _ (dPos (mv ds p s))
          rw [em2]
          exact (Im.two (SqT.of c3') i5D iAD).tk (TK.new nr)
    · refine iteNDF (by omega) ?_
      have hb : bl ds p s = some true := by
        unfold bl
        rw [if_neg haway]
      have em : movedOf ds p s = (wordOf true, p) := by unfold movedOf; rw [hb]
      rw [em] at k
      walk_at "w"
      intro q nq
      exact k _ q _ (Same.new nq) nq upd_same (hw.tk (TK.new nq))
abbrev N_l_apply_steps : List Str := ["_law_doors", "_law_position", "_law_steps_here", "_law_index", "_law_step", "_law_word"]
theorem sc_l_apply_steps : FnScope N_l_apply_steps ["_law_doors", "_law_position", "_law_steps_here"] (defScope S_l_apply_steps) := ⟨rfl, rfl, rfl, by decide +kernel, rfl, by decide +kernel, by decide +kernel⟩
def sp_l_apply_steps (K : PySem.W.Frag) : Sp := fun vs H Q _ => ∃ (v w : V) (l : Addr) (xs : List V) (ds : List Door) (p : PosD) (ss : List Stp), vs = [v, w, .ref l] ∧ Im K H v (dDoors ds) ∧ HouseOk ds ∧ Im K H w (dPos p) ∧ PosOk ds p ∧ H l = some (.lst xs) ∧ ImAll K H xs (ss.map dStep) ∧
  (∀ s ∈ ss, StepOk ds p.1.length s) ∧ (∀ i k, runS ds p ss 0 = .inl (i, k) → ∀ (H' : Hp) (q : Addr), Same H H' → H q = none → H' q = some (.lst [vI i, .str (wordOf k)]) → Q (.ref q) H') ∧ (∀ q, runS ds p ss 0 = .inr q → ∀ (H' : Hp) (u : V), Same H H' → Im K H' u (dPos q) → Q u H')
set_option maxHeartbeats 4000000 in
theorem ok_l_apply_steps {P : Program} {w : World} {K : PySem.W.Frag} {mg : Str → Option Value} {base : Heap} (T : Tx K mg) : Ok P w K mg base CX0 4 d_l_apply_steps ["_law_doors", "_law_position", "_law_steps_here"] (sp_l_apply_steps K) := by
  refine (f_l_apply_steps T).ok sc_l_apply_steps (fun vs H Q E h => ?_) (fun cdv A outer s H vs Q E hr h => ?_)
  · obtain ⟨v, w, l, xs, ds, p, ss, rfl, _⟩ := h
    rfl
  · obtain ⟨v, w, l, xs, ds, p, ss, rfl, hv, hO, hw, hP, hl, hx, hS, k1, k2⟩ := h
    have hlen : xs.length = ss.length := by rw [hx.len, List.length_map]
    refine ⟨_, PSs.nox (pss_cons (ps_for PassesOwn.never rfl (pi_enum (by rfl) (n_enumerate T) (pa_cons (pv 2) pa_nil)) (pg_tup rfl (pgs_cons (pg_name (i := 3) sc_l_apply_steps.nd rfl (Or.inl rfl)) (pgs_cons (pg_name (i := 4) sc_l_apply_steps.nd rfl (Or.inl rfl)) pgs_nil))) (pss_cons (ps_asg (pe_call (ok_l_moved T) (hr.mono (by decide)) (by rfl) (g_l_moved T) (f_l_moved T).kp (b_l_moved T) .nil pass0 (pa_cons (pv 0) (pa_cons (pv 1) (pa_cons (pv 4) pa_nil)))) (pg_unl rfl (pgs_cons (pg_name (i := 5) sc_l_apply_steps.nd rfl (Or.inl rfl)) (pgs_cons (pg_name (i := 1) sc_l_apply_steps.nd rfl (Or.inl rfl)) pgs_nil))))
      (pss_one (ps_if (pt_cmpR op_ne (pv 5) pe_str (nomark _)) (pss_one (ps_ret (pe_lst (pa_cons (pv 3) (pa_cons (pv 5) pa_nil))))) pss_nil))))
      (pss_one (ps_ret (pv 1)))), ?_⟩
    try dsimp only [cxOf, Cx.nox, Cx.wish]
    have hstart : ∀ a0 a1 a2 : V, L2.start N_l_apply_steps [a0, a1, a2] = [some a0, some a1, some a2, none, none, none] := fun _ _ _ => rfl
    rw [hstart]
    clear hstart
    walk_at "w"
    refine for_eL xs (fun i σ H' => ∃ (y : V) (v3 v4 v5 : Option V) (q : PosD), σ = [some v, some y, some (.ref l), v3, v4, v5] ∧ Same H H' ∧ Im K H' y (dPos q) ∧ PosOk ds q ∧ q.1.length = p.1.length ∧ runS ds p ss 0 = runS ds q (ss.drop i) i) ?_ ?_ ?_ ?_
    · exact ⟨w, none, none, none, p, rfl, Same.refl _, hw, hP, rfl, rfl⟩
    · rintro i σ H' _ ⟨y, v3, v4, v5, q, _, sm, _⟩
      exact SqL.of (sm _ _ hl)
    · rintro i x σ H2 hi ⟨y, v3, v4, v5, q, rfl, sm, hy, hQ, hq, hrun⟩ U nU
      obtain ⟨dd, hdd, him⟩ := hx.get' hi
      rw [List.getElem?_map] at hdd
      obtain ⟨d, hd, rfl⟩ := Option.map_eq_some_iff.mp hdd
      have e2 := Same.new nU (o := .tup [.int (i : Nat), x])
      have hu : SqT K (upd H2 U (.tup [.int (i : Nat), x])) U [.int (i : Nat), x] := SqT.of upd_same
      have sm1 := sm.trans e2
      have hy1 := hy.tk (TK.same e2)
      generalize upd H2 U _ = H3 at *
      have hS1 := hS d (List.mem_of_getElem? hd)
      rw [← hq] at hS1
      have hdrop : ss.drop i = d :: ss.drop (i + 1) := by
        obtain ⟨hil, e⟩ := List.getElem?_eq_some_iff.mp hd
        rw [List.drop_eq_getElem_cons hil, e]
      rw [hdrop] at hrun
      walk_at "w"
      refine ⟨v, y, x, ds, q, d, rfl, hv.tk (TK.same sm1), hO, hy1, hQ, him.tk (TK.same sm1), hS1, fun H4 b u e4 nb b4 hu4 => ?_⟩
      have sm4 := sm1.trans e4
      walk_at "w"
      cases hb : bl ds q d with
      | some kk =>
        have em : movedOf ds q d = (wordOf kk, q) := by unfold movedOf; rw [hb]
        rw [em]
        rw [runS_some hb] at hrun
        rw [decide_eq_false (word_ne kk)]
        walk_at "w"
        intro r nr
        exact k1 i kk hrun _ r (sm4.trans (Same.new nr)) (Same.none sm4 nr) upd_same
      | none =>
        have em : movedOf ds q d = (("done" : Str), mv ds q d) := by unfold movedOf; rw [hb]
        rw [em] at hu4 ⊢
        rw [runS_none hb] at hrun
        rw [decide_eq_true rfl]
        walk_at "w"
        exact ⟨u, _, _, _, mv ds q d, rfl, sm4, hu4, hQ.mv hO hS1, by rw [mv_len, hq], hrun⟩
    · rintro σ H2 ⟨y, v3, v4, v5, q, rfl, sm, hy, hQ, hq, hrun⟩
      rw [hlen, List.drop_length] at hrun
      walk_at "w"
      exact k2 q hrun _ y sm hy
abbrev N_l_apply_action : List Str := ["_law_model", "_law_action", "_law_name", "_law_argument", "_law_position", "_law_made", "_law_doors", "_law_steps_here", "_law_shift", "_law_person", "_law_target", "_law_start", "_law_result", "_law_other", "_law_index"]
theorem sc_l_apply_action : FnScope N_l_apply_action ["_law_model", "_law_action"] (defScope S_l_apply_action) := ⟨rfl, rfl, rfl, by decide +kernel, rfl, by decide +kernel, by decide +kernel⟩
def sp_l_apply_action (K : PySem.W.Frag) : Sp := fun vs H Q _ => ∃ (M mh : Addr) (X : List Addr) (v : V) (ds : List Door) (st : Sta) (a : Act), vs = [.ref M, v] ∧ ModelAt K H X M mh ds st ∧ M ∈ X ∧ (∀ x ∈ X, H x ≠ none) ∧ HouseOk ds ∧ PosOk ds st.p ∧ st.made.length ≤ 400 ∧ st.hist.length ≤ 400 ∧ ActAt K H X v a ∧ ActOk ds st.p a ∧
  ∀ (H' : Hp) (q : Addr) (xs : List V), Kp2 M mh H H' → ModelAt K H' X M mh ds (stepA ds st a).2 → H q = none → H' q = some (.lst xs) → ImAll K H' xs (dOut (stepA ds st a).1) → Q (.ref q) H'
set_option maxHeartbeats 4000000 in
theorem ok_l_apply_action {P : Program} {w : World} {K : PySem.W.Frag} {mg : Str → Option Value} {base : Heap} (T : Tx K mg) : Ok P w K mg base CX0 5 d_l_apply_action ["_law_model", "_law_action"] (sp_l_apply_action K) := by
  refine (f_l_apply_action T).ok sc_l_apply_action (fun vs H Q E h => ?_) (fun cdv A outer s H vs Q E hr h => ?_)
  · obtain ⟨M, mh, X, v, ds, st, a, rfl, _⟩ := h
    rfl
  · obtain ⟨M, mh, X, v, ds, st, a, rfl, hM, hMX, hX, hO, hP, hm4, hh4, hA, hAo, k⟩ := h
    obtain ⟨dv, cv, hs, m1, m2, m3, m4, m5, m6⟩ := hM.ex
    have m3' := m3
    obtain ⟨ca, ml, pz, mxs, rfl, c1, c2, c3, c4, c5⟩ := m3
    have hMm : M ≠ mh := fun z => by rw [z, m4] at m1; cases m1
    obtain ⟨pa, ra, ba, rfl, q1, q2, q3⟩ := c2.pos_inv
    have mxl := c4.len
    rw [List.length_map] at mxl
    have mxl : mxs.length = st.made.length := mxl
    have nX : ∀ {H2 : Hp}, Same H H2 → ∀ y, H2 y = none → y ∉ X := fun e y hy hx => hX y hx (Same.none e hy)
    have hv : ∃ (av : Addr) (nm : Str) (arg : V), v = .ref av ∧ SqT K H av [.str nm, arg] ∧ ((nm = "undo" ∧ a = .undo) ∨ (nm = "play" ∧ ∃ l xs ss, a = .play ss ∧ arg = .ref l ∧ H l = some (.lst xs) ∧ l ∉ X ∧ ImAll K H xs (ss.map dStep)) ∨
        (nm = "go" ∧ ∃ i j, a = .go i j ∧ Im K H arg (dPair (i, j)))) := by
      cases a with
      | undo =>
        obtain ⟨av, x1, x2, rfl, a1, a2, a3⟩ := Im.two_inv hA
        have := a2.str_inv; subst this
        exact ⟨av, _, _, rfl, a1, .inl ⟨rfl, rfl⟩⟩
      | play ss =>
        obtain ⟨av, l, xs, rfl, a1, a2, a3, a4⟩ := hA
        exact ⟨av, _, _, rfl, a1, .inr (.inl ⟨rfl, l, xs, ss, rfl, rfl, a2, a3, a4⟩)⟩
      | go i j =>
        obtain ⟨av, x1, x2, rfl, a1, a2, a3⟩ := Im.two_inv hA
        have := a2.str_inv; subst this
        exact ⟨av, _, _, rfl, a1, .inr (.inr ⟨rfl, i, j, rfl, a3⟩)⟩
    obtain ⟨av, nm, arg, rfl, a1, hv⟩ := hv
    refine ⟨_, PSs.nox (pss_cons (ps_asg (pv 1) (pg_tup rfl (pgs_cons (pg_name (i := 2) sc_l_apply_action.nd rfl (Or.inl rfl)) (pgs_cons (pg_name (i := 3) sc_l_apply_action.nd rfl (Or.inl rfl)) pgs_nil))))
      (pss_cons (ps_asg (pe_dget (room1 hr) (pv 0) pe_str (fun _ _ => rfl)) (pg_tup rfl (pgs_cons (pg_name (i := 4) sc_l_apply_action.nd rfl (Or.inl rfl)) (pgs_cons (pg_name (i := 5) sc_l_apply_action.nd rfl (Or.inl rfl)) pgs_nil))))
      (pss_cons (ps_set (i := 6) sc_l_apply_action.nd rfl (Or.inl rfl) (pe_dget (room1 hr) (pv 0) pe_str (fun _ _ => rfl)))
      (pss_cons (ps_if (pt_cmpR op_eq (pv 2) pe_str (nomark _)) (pss_cons (ps_if (pt_cmpR (op_eqD hr.units) (pe_dget (room1 hr) (pv 0) pe_str (fun _ _ => rfl)) (pe_lst pa_nil) (nomark _)) (pss_one (ps_ret (pe_lst (pa_cons pe_str pa_nil)))) pss_nil)
      (pss_cons (ps_dput (room1 hr) (pv 0) pe_str (pe_bm0 PySem.F.plainAttrs_list PySem.F.slot_list_pop PySem.F.type_list_pop mt_pop (pe_dget (room1 hr) (pv 0) pe_str (fun _ _ => rfl))) rfl)
      (pss_one (ps_ret (pe_lst (pa_cons pe_str (pa_cons pe_non pa_nil))))))) pss_nil)
      (pss_cons (ps_par (i := 7) (j := 8) (by rfl) sc_l_apply_action.nd rfl rfl (by decide) rfl rfl (pa_cons (pv 3) (pa_cons pe_int pa_nil)) (by rfl))
      (pss_cons (ps_if (pt_cmpR op_eq (pv 2) pe_str (nomark _)) (pss_cons (ps_asg (pv 3) (pg_tup rfl (pgs_cons (pg_name (i := 9) sc_l_apply_action.nd rfl (Or.inl rfl)) (pgs_cons (pg_name (i := 10) sc_l_apply_action.nd rfl (Or.inl rfl)) pgs_nil))))
      (pss_cons (ps_set (i := 11) sc_l_apply_action.nd rfl (Or.inl rfl) (pe_ix ix_tup (pe_ix ix_tup (pv 4) pe_int (fun _ _ => rfl)) (pv 9) (fun _ _ => rfl)))
      (pss_cons (ps_if (pt_cmpR op_notIn_seq (pv 10) (pe_lc (own := [("_law_other", 13), ("_law_index", 14)]) rfl sc_l_apply_action.nd (pi_list (pe_call (ok_l_neighbours T) (hr.mono (by decide)) (by rfl) (g_l_neighbours T) (f_l_neighbours T).kp (b_l_neighbours T) .nil pass0 (pa_cons (pv 6) (pa_cons (pv 11) pa_nil)))) (blkOk_by (own := [("_law_other", 13), ("_law_index", 14)]) (N := N_l_apply_action) (sc := defScope S_l_apply_action) (by decide +kernel)) (fun _ _ _ _ _ => (show PG _ _ (gTup K 2 _) from (pg_tup rfl (pgs_cons (pg_name (i := 13) sc_l_apply_action.nd rfl (Or.inl rfl)) (pgs_cons (pg_name (i := 14) sc_l_apply_action.nd rfl (Or.inl rfl)) pgs_nil))))) (fun _ _ _ _ _ => pts_nil) (fun _ _ _ _ _ => (pv 13))) (by rfl)) (pss_one (ps_ret (pe_lst (pa_cons pe_str (pa_cons (pe_callB call_lenA (by rfl) (n_len T) bt_len (pa_cons (pv 5) pa_nil)) (pa_cons (pe_tup (pa_cons pe_str pa_nil)) pa_nil)))))) pss_nil)
      (pss_one (ps_par (i := 7) (j := 8) (by rfl) sc_l_apply_action.nd rfl rfl (by decide) rfl rfl (pa_cons (pe_lst (pa_cons (pe_tup (pa_cons (pv 9) (pa_cons (pv 11) (pa_cons (pv 10) pa_nil)))) pa_nil)) (pa_cons (pe_callB call_lenA (by rfl) (n_len T) bt_len (pa_cons (pv 5) pa_nil)) pa_nil)) (by rfl)))))) pss_nil)
      (pss_cons (ps_set (i := 12) sc_l_apply_action.nd rfl (Or.inl rfl) (pe_call (ok_l_apply_steps T) (hr.mono (by decide)) (by rfl) (g_l_apply_steps T) (f_l_apply_steps T).kp (b_l_apply_steps T) .nil pass0 (pa_cons (pv 6) (pa_cons (pv 4) (pa_cons (pv 7) pa_nil)))))
      (pss_cons (ps_if (pt_val (pe_callB call_isi (by rfl) (n_isinstance T) bt_isinstance (pa_cons (pv 12) (pa_cons (pe_bltn (v := .ty "list") (by rfl) (n_list T) bt_list rfl) pa_nil)))) (pss_one (ps_ret (pe_lst (pa_cons pe_str (pa_cons (pe_op op_add (pe_ix ix_list (pv 12) pe_int (fun _ _ => rfl)) (pv 8)) (pa_cons (pe_tup (pa_cons (pe_ix ix_list (pv 12) pe_int (fun _ _ => rfl)) pa_nil)) pa_nil)))))) pss_nil)
      (pss_cons (ps_expr (pe_bm PySem.F.plainAttrs_list PySem.F.slot_list_append PySem.F.type_list_append mt_append (pe_dget (room1 hr) (pv 0) pe_str (fun _ _ => rfl)) (pa_cons (pe_dget (room1 hr) (pv 0) pe_str (fun _ _ => rfl)) pa_nil)))
      (pss_cons (ps_dput (room1 hr) (pv 0) pe_str (pe_tup (pa_cons (pv 12) (pa_cons (pe_op op_cat (pv 5) (pe_callTy call_listA (by rfl) (n_list T) bt_list (pa_cons (pv 7) pa_nil))) pa_nil))) rfl)
      (pss_one (ps_ret (pe_lst (pa_cons pe_str (pa_cons (pv 12) pa_nil))))))))))))))), ?_⟩
    try dsimp only [cxOf, Cx.nox, Cx.wish]
    have hstart : ∀ a0 a1 : V, L2.start N_l_apply_action [a0, a1] = [some a0, some a1, none, none, none, none, none, none, none, none, none, none, none, none, none] := fun _ _ => rfl
    rw [hstart]
    clear hstart
    walk_at "w"
    refine st_dgetS (v := .ref ca) m1 rfl ?_
    walk_at "w"
    refine st_dgetS (v := dv) m1 rfl ?_
    walk_at "w"
    by_cases hu : nm = "undo"
    · subst hu
      rcases hv with ⟨_, rfl⟩ | ⟨z, _⟩ | ⟨z, _⟩
      · rw [decide_eq_true rfl]
        walk_at "w"
        refine st_dgetS (v := .ref mh) m1 rfl ?_
        walk_at "w"
        intro n nn
        have e1 := Same.new nn (o := .lst [])
        have n1 := upd_same (H := H) (a := n) (o := .lst [])
        have m41 := e1 _ _ m4
        have m11 := e1 _ _ m1
        have dpe := dps_of m5 fun i v c e1' e2 => (m6 i v c e1' e2).keep (TK.same e1) (KpX.same e1)
        have hM1 := hM.same e1
        generalize upd H n _ = H1 at *
        refine st_eqD (j := 4) (k := 1) (d := .list (st.hist.map dCurM)) (e := .list []) (.lst (SqL.of m41) dpe) (.lst (SqL.of n1) .nil) (Sh.lst fun d hd => ?_) (Sh.lst fun d hd => (by cases hd)) (by decide) (by decide) ?_
        · obtain ⟨z, _, rfl⟩ := List.mem_map.mp hd
          exact Sh.curM z
        rw [eqv_nil]
        cases e : st.hist.getLast? with
        | none =>
          have en : st.hist = [] := by simpa using e
          rw [stepA_un e] at k
          rw [en]
          refine st_blV (iteT ?_)
          walk_at "w"
          intro r nr
          have e2 := Same.new nr (o := .lst [.str "nothing"])
          exact k _ r _ (Kp2.same (e1.trans e2)) (hM1.same e2) (Same.none e1 nr) upd_same (.one (.str _))
        | some c =>
          rw [stepA_us e] at k
          obtain ⟨y', hy'⟩ := List.getLast?_eq_some_iff.mp e
          have hl0 : st.hist.length = st.hist.dropLast.length + 1 := by rw [hy']; simp
          have en : (st.hist.map dCurM).isEmpty = false := by rw [hy']; simp
          rw [en]
          have hlast : hs[hs.length - 1]? = some (hs[hs.length - 1]'(by omega)) := List.getElem?_eq_getElem (by omega)
          have hc : st.hist[hs.length - 1]? = some c := by
            rw [m5, ← List.getLast?_eq_getElem?]
            exact e
          have hcm := m6 _ _ _ hlast hc
          generalize hs[hs.length - 1]'_ = y at *
          refine st_blV (iteF ?_)
          walk_at "w"
          refine st_dgetS (v := .ref mh) m11 rfl ?_
          walk_at "w"
          refine ⟨mh, hs, y, rfl, rfl, m41, hlast, ?_⟩
          have k2 : Kp2 M mh H (upd H1 mh (.lst hs.dropLast)) := (Kp2.same e1).trans (Kp2.two Kp1.refl.upd)
          have m12 := (upd_ne (H := H1) (o := .lst hs.dropLast) hMm).trans m11
          have m42 := upd_same (H := H1) (a := mh) (o := .lst hs.dropLast)
          generalize upd H1 mh _ = H2 at *
          walk_at "w"
          refine st_dputS m12 (show 3 < 1000 by decide) ?_
          rw [put_cur]
          have k3 : Kp2 M mh H (upd H2 M (.dK [(.inr "doors", dv), (.inr "current", y), (.inr "history", .ref mh)])) := k2.trans (Kp2.one Kp1.refl.upd)
          have m13 := upd_same (H := H2) (a := M) (o := .dK [(.inr "doors", dv), (.inr "current", y), (.inr "history", .ref mh)])
          have m43 := (upd_ne (H := H2) (o := .dK [(.inr "doors", dv), (.inr "current", y), (.inr "history", .ref mh)]) hMm.symm).trans m42
          generalize upd H2 M _ = H3 at *
          have tk := k3.tkD m1 m4
          have kx : KpX X H H3 := KpX.two k3 hMX hM.mx
          have MM : ModelAt K H3 X M mh ds ⟨c.1, c.2, st.hist.dropLast⟩ := ⟨hM.mx, dv, y, hs.dropLast, m13, m2.tk tk, hcm.keep tk kx, m43, by rw [List.length_dropLast, List.length_dropLast, m5], fun i v c' e1' e2' => by
            have il : i < hs.dropLast.length := (List.getElem?_eq_some_iff.mp e1').1
            rw [List.length_dropLast] at il
            rw [List.getElem?_dropLast, if_pos il] at e1'
            rw [List.getElem?_dropLast, if_pos (by omega)] at e2'
            exact (m6 i v c' e1' e2').keep tk kx⟩
          walk_at "w"
          intro r nr
          exact k _ r _ (k3.trans (Kp2.same (Same.new nr))) (MM.same (Same.new nr)) (Kp2.none k3 nr (fun z => by rw [z, m13] at nr; cases nr) (fun z => by rw [z, m43] at nr; cases nr)) upd_same (.cons (.str _) (.one .non))
      · exact absurd z (by decide)
      · exact absurd z (by decide)
    · rw [decide_eq_false (fun z => hu (V.str.inj z))]
      walk_at "w"
      refine st_join (fun σ H' => ∃ (l : Addr) (xs : List V) (ss : List Stp) (sh : Nat) (v9 v10 v11 v12 v13 v14 : Option V), σ = [some (.ref M), some (.ref av), some (.str nm), some arg, some (.ref pa), some (.ref ml), some dv, some (.ref l), some (vI sh), v9, v10, v11, v12, v13, v14] ∧ Same H H' ∧
        H' l = some (.lst xs) ∧ l ∉ X ∧ ImAll K H' xs (ss.map dStep) ∧ (∀ s ∈ ss, StepOk ds st.p.1.length s) ∧ ss.length ≤ 6 ∧ fin1 st ss sh (runS ds st.p ss 0) = stepA ds st a) (fun hc => ?_) (fun hc R hR => ?_) (fun σ H1 hC => ?_)
      · rcases hv with ⟨z, _⟩ | ⟨rfl, l, xs, ss, rfl, rfl, b1, b2, b3⟩ | ⟨rfl, _⟩
        · exact absurd z hu
        · exact ⟨l, xs, ss, 0, _, _, _, _, _, _, rfl, Same.refl _, b1, b2, b3, hAo.2, hAo.1, rfl⟩
        · exact absurd hc (by decide)
      · rcases hv with ⟨z, _⟩ | ⟨rfl, _⟩ | ⟨rfl, i, j, rfl, b1⟩
        · exact absurd z hu
        · exact absurd hc (by decide)
        · obtain ⟨b, rfl, hb⟩ := b1.pair_inv
          walk_at "w"
          obtain ⟨hai, hbj⟩ := hAo
          refine st_ixT q2 (at_map hai) ?_
          walk_at "w"
          refine ⟨dv, ds, st.p.1.getD i 0, rfl, m2, hO, fun H3 nq nv ns hp e3 nnq nl3 nx => ?_⟩
          have nvl := nx.len
          rw [List.length_map] at nvl
          have nl := hp.length_eq
          have n5 := nbrs_len ds 0 (st.p.1.getD i 0)
          have h5 := hO.len
          walk_at "w"
          refine lc_listB nv fun Dl nD2 => ⟨fun j H4 => Same H3 H4 ∧ H4 Dl = some (.lst ((ns.take j).map fun z => vI z.1)), ⟨Same.new nD2, upd_same⟩, ?_, ?_, ?_⟩
          · rintro j H4 _ ⟨sm, _⟩
            exact SqL.of (sm _ _ nl3)
          · rintro jj x H4 hj ⟨sm, hD⟩
            obtain ⟨dd, hdd, him⟩ := nx.get' hj
            rw [List.getElem?_map] at hdd
            obtain ⟨z, hz, rfl⟩ := Option.map_eq_some_iff.mp hdd
            obtain ⟨il, _⟩ := List.getElem?_eq_some_iff.mp hz
            obtain ⟨c, rfl, hc⟩ := (him.tk (TK.same sm)).pair_inv
            have ht : ns.take (jj + 1) = ns.take jj ++ [z] := by rw [List.take_add_one, hz]; rfl
            walk_at "w"
            refine ⟨rfl, yes_ (iteT ?_)⟩
            walk_at "w"
            refine ⟨_, hD, small16 (by rw [List.length_map, List.length_take]; omega), Same.mut sm nD2, ?_⟩
            rw [upd_same, ht, List.map_append]
            rfl
          · rintro H4 ⟨sm, hD⟩
            rw [nvl, List.take_length] at hD
            have s4 := e3.trans sm
            have eL : (ns.map fun z => vI z.1) = (ns.map (·.1)).map vI := by rw [List.map_map]; rfl
            rw [eL] at hD
            have c34 := s4 _ _ c3
            refine st_inL (SqL.of hD) rfl (flat_nats _) ?_
            rw [if_pos rfl, inV_nats]
            cases hd : doorOf ds (st.p.1.getD i 0) j with
            | none =>
              rw [stepA_gn hd] at k
              have hn : ¬ j ∈ ns.map (·.1) := fun h => by
                have := (mem_nbr hO hp).mp h
                rw [hd] at this
                cases this
              rw [decide_eq_false hn]
              walk_at "w"
              intro u nu
              have e5 := s4.trans (Same.new nu (o := .tup [.str "away"]))
              have u5 := upd_same (H := H4) (a := u) (o := .tup [.str "away"])
              generalize upd H4 u _ = H5 at *
              walk_at "w"
              intro r nr
              have e6 := Same.new nr (o := .lst [.str "blocked", .int (mxs.length : Int), .ref u])
              refine k _ r _ (Kp2.same (e5.trans e6)) (hM.same (e5.trans e6)) (Same.none e5 nr) upd_same (.cons (.str _) (.cons (by rw [mxl]; exact .int _) (.one (.tup (xs := [.str "away"]) (SqT.of (e6 _ _ u5)) (.cons (.str _) .nil)))))
            | some dI' =>
              have hn : j ∈ ns.map (·.1) := (mem_nbr hO hp).mpr (by rw [hd]; rfl)
              rw [decide_eq_true hn]
              walk_at "w"
              intro u nu
              have e5 := Same.new nu (o := .tup [vI i, vI (st.p.1.getD i 0), vI j])
              have u5 := upd_same (H := H4) (a := u) (o := .tup [vI i, vI (st.p.1.getD i 0), vI j])
              have s5 := s4.trans e5
              generalize upd H4 u _ = H5 at *
              walk_at "w"
              intro l nl'
              have e6 := Same.new nl' (o := .lst [.ref u])
              have l6 := upd_same (H := H5) (a := l) (o := .lst [.ref u])
              have s6 := s5.trans e6
              have u6 := e6 _ _ u5
              have c36 := s6 _ _ c3
              have lX : l ∉ X := nX s5 l nl'
              generalize upd H5 l _ = H6 at *
              walk_at "w"
              refine hR _ _ ⟨l, _, [(i, st.p.1.getD i 0, j)], mxs.length, _, _, _, _, _, _, rfl, s6, l6, lX, .one (.step (SqT.of u6)), fun s hs => by rw [List.mem_singleton.mp hs]; exact ⟨hai, dI', hd⟩, (show 1 ≤ 6 by decide), ?_⟩
              rw [stepA_gs hd, mxl]
      · obtain ⟨l, xs, ss, sh, v9, v10, v11, v12, v13, v14, rfl, e1, l1, lX, x1, hS, h6, hfin⟩ := hC
        walk_at "w"
        refine ⟨dv, .ref pa, l, xs, ds, st.p, ss, rfl, m2.tk (TK.same e1), hO, c2.tk (TK.same e1), hP, l1, x1, hS, fun i kk hrun H2 q e2 nq q2' => ?_, fun q hrun H2 u e2 hu2 => ?_⟩
        · rw [hrun] at hfin
          have hfin' : stepA ds st a = (.blocked (i + sh) kk, st) := hfin.symm
          rw [hfin'] at k
          have s2 := e1.trans e2
          walk_at "w"
          refine st_isiLL q2' ?_
          walk_at "w"
          intro t nt
          have e3 := Same.new nt (o := .tup [.str (wordOf kk)])
          have t3 := upd_same (H := H2) (a := t) (o := .tup [.str (wordOf kk)])
          have s3 := s2.trans e3
          generalize upd H2 t _ = H3 at *
          walk_at "w"
          intro r nr
          have e4 := Same.new nr (o := .lst [.str "blocked", .int ((i : Int) + (sh : Int)), .ref t])
          exact k _ r _ (Kp2.same (s3.trans e4)) (hM.same (s3.trans e4)) (Same.none s3 nr) upd_same (.cons (.str _) (.cons (by rw [show (i : Int) + (sh : Int) = ((i + sh : Nat) : Int) by omega]; exact .int _) (.one (.tup (SqT.of (e4 _ _ t3)) (.cons (.str _) .nil)))))
        · rw [hrun] at hfin
          have hfin' : stepA ds st a = (.done q, ⟨q, st.made ++ ss, st.hist ++ [(st.p, st.made)]⟩) := hfin.symm
          rw [hfin'] at k
          have s2 := e1.trans e2
          have m12 := s2 _ _ m1
          have m42 := s2 _ _ m4
          obtain ⟨qa, qra, qba, rfl, qq1, qq2, qq3⟩ := hu2.pos_inv
          have lmh : l ≠ mh := fun z => lX (z ▸ hM.mx)
          have lM : l ≠ M := fun z => lX (z ▸ hMX)
          have mlmh : ml ≠ mh := fun z => c5 (z ▸ hM.mx)
          have mlM : ml ≠ M := fun z => c5 (z ▸ hMX)
          have l2 := e2 _ _ l1
          have xl := x1.len
          rw [List.length_map] at xl
          walk_at "w"
          refine st_isiTL qq1 ?_
          walk_at "w"
          refine st_dgetS (v := .ref mh) m12 rfl ?_
          walk_at "w"
          refine st_dgetS (v := .ref ca) m12 rfl ?_
          walk_at "w"
          refine st_append m42 (by omega) ?_
          have k3 : Kp2 M mh H (upd H2 mh (.lst (hs ++ [.ref ca]))) := (Kp2.same s2).trans (Kp2.two Kp1.refl.upd)
          have t3 : TK H2 (upd H2 mh (.lst (hs ++ [.ref ca]))) := TK.lst m42
          have m13 := (upd_ne (H := H2) (o := .lst (hs ++ [.ref ca])) hMm).trans m12
          have m43 := upd_same (H := H2) (a := mh) (o := .lst (hs ++ [.ref ca]))
          have l3 := (upd_ne (H := H2) (o := .lst (hs ++ [.ref ca])) lmh).trans l2
          have c33 := (upd_ne (H := H2) (o := .lst (hs ++ [.ref ca])) mlmh).trans (s2 _ _ c3)
          generalize upd H2 mh _ = H3 at *
          have hu3 := hu2.tk t3
          have x3 := (x1.tk (TK.same e2)).tk t3
          walk_at "w"
          intro l' nl'
          have e4 := Same.new nl' (o := .lst xs)
          have l4 := upd_same (H := H3) (a := l') (o := .lst xs)
          have c34 := e4 _ _ c33
          generalize upd H3 l' _ = H4 at *
          refine ⟨ml, l', mxs, xs, rfl, rfl, c34, l4, by rw [sizeLine_eq]; omega, fun z nz => ?_⟩
          have e5' := Same.new nz (o := .lst (mxs ++ xs))
          have e5 := e4.trans e5'
          have z5 := upd_same (H := H4) (a := z) (o := .lst (mxs ++ xs))
          have zn : z ∉ X := fun hx => hX z hx (Kp2.none (k3.trans (Kp2.same e4)) nz (fun w => by rw [w, e4 _ _ m13] at nz; cases nz) (fun w => by rw [w, e4 _ _ m43] at nz; cases nz))
          generalize upd H4 z _ = H5 at *
          walk_at "w"
          intro c' nc'
          have e6 := e5.trans (Same.new nc' (o := .tup [.ref qa, .ref z]))
          have z6 := Same.new nc' (o := .tup [.ref qa, .ref z]) _ _ z5
          have c6 := upd_same (H := H5) (a := c') (o := .tup [.ref qa, .ref z])
          generalize upd H5 c' _ = H6 at *
          have k6 := k3.trans (Kp2.same e6)
          have m16 := e6 _ _ m13
          have m46 := e6 _ _ m43
          walk_at "w"
          refine st_dputS m16 (show 3 < 1000 by decide) ?_
          rw [put_cur]
          have k7 : Kp2 M mh H (upd H6 M (.dK [(.inr "doors", dv), (.inr "current", .ref c'), (.inr "history", .ref mh)])) := k6.trans (Kp2.one Kp1.refl.upd)
          have t7 : TK H6 (upd H6 M (.dK [(.inr "doors", dv), (.inr "current", .ref c'), (.inr "history", .ref mh)])) := TK.dK m16
          have m17 := upd_same (H := H6) (a := M) (o := .dK [(.inr "doors", dv), (.inr "current", .ref c'), (.inr "history", .ref mh)])
          have m47 := (upd_ne (H := H6) (o := .dK [(.inr "doors", dv), (.inr "current", .ref c'), (.inr "history", .ref mh)]) hMm.symm).trans m46
          have z7 := (upd_ne (H := H6) (o := .dK [(.inr "doors", dv), (.inr "current", .ref c'), (.inr "history", .ref mh)]) (show z ≠ M from fun w => zn (by rw [w]; exact hMX))).trans z6
          generalize upd H6 M _ = H7 at *
          have t37 := (TK.same e6).trans t7
          have hu7 := hu3.tk t37
          have x7 := x3.tk t37
          have tk := k7.tkD m1 m4
          have kx : KpX X H H7 := KpX.two k7 hMX hM.mx
          have MM : ModelAt K H7 X M mh ds ⟨q, st.made ++ ss, st.hist ++ [(st.p, st.made)]⟩ := ⟨hM.mx, dv, .ref c', hs ++ [.ref ca], m17, m2.tk tk, ⟨c', z, .ref qa, mxs ++ xs, rfl, t7.seq (SqT.of c6), hu7, z7, by rw [List.map_append]; exact (c4.tk tk).append x7, zn⟩, m47, by rw [List.length_append, List.length_append, m5]; rfl, fun i v c'' e1' e2' => by
            by_cases il : i < hs.length
            · rw [List.getElem?_append_left il] at e1'
              rw [List.getElem?_append_left (by omega)] at e2'
              exact (m6 i v c'' e1' e2').keep tk kx
            · rw [List.getElem?_append_right (by omega)] at e1' e2'
              have i0 : i - hs.length = 0 := by
                have := (List.getElem?_eq_some_iff.mp e1').1
                simp at this
                omega
              rw [i0] at e1'
              rw [← m5, i0] at e2'
              have h1 : V.ref ca = v := by simpa using e1'
              have h2 : (st.p, st.made) = c'' := by simpa using e2'
              rw [← h1, ← h2]
              exact m3'.keep tk kx⟩
          walk_at "w"
          intro r nr
          exact k _ r _ (k7.trans (Kp2.same (Same.new nr))) (MM.same (Same.new nr)) (Kp2.none k7 nr (fun w => by rw [w, m17] at nr; cases nr) (fun w => by rw [w, m47] at nr; cases nr)) upd_same (.cons (.str _) (.one (hu7.tk (TK.new nr))))
abbrev N_mb_init : List Str := ["self", "index", "reason"]
theorem sc_mb_init : FnScope N_mb_init ["self", "index", "reason"] (defScope S_mb_init) := ⟨rfl, rfl, rfl, by decide +kernel, rfl, by decide +kernel, by decide +kernel⟩
abbrev sp_mb_init (K : PySem.W.Frag) : Sp := spMB (He.ga K "MoveBlocked")
theorem b_mb_init {K : PySem.W.Frag} {mg : Str → Option Value} (T : Tx K mg) : Binds K (fdAt K (He.fAd K d_mb_init.at_)) ["self", "index", "reason"] [] := by
  obtain ⟨ds, h1, h2⟩ := (f_mb_init T).binds1 (ps := ["self", "index", "reason"]) 3 2 (by decide) (by decide) fun T kV doc pm an cdv ct us its hu hi => match us, its, hu, hi with
    | [a, b, c], [d, e], _, _ => ⟨_, rfl, rfl⟩
  have e : ds = [] := by cases h1; rfl
  rw [← e]
  exact h2
set_option maxHeartbeats 4000000 in
theorem ok_mb_init {P : Program} {w : World} {K : PySem.W.Frag} {mg : Str → Option Value} {base : Heap} (T : Tx K mg) : Ok P w K mg base CX0 2 d_mb_init ["self", "index", "reason"] (sp_mb_init K) := by
  refine (f_mb_init T).ok sc_mb_init (fun vs H Q E h => ?_) (fun cdv A outer s H vs Q E hr h => ?_)
  · obtain ⟨a, i, r, rfl, _⟩ := h
    rfl
  · obtain ⟨a, i, r, rfl, ha, k⟩ := h
    have O := (exOne_ok T.exs.mb).1
    refine ⟨_, PSs.nox (pss_cons (ps_expr (pe_baseinit T.exs.ba (by rfl) (g_LastThroughError T) (pa_cons (pv 0) (pa_cons (pv 1) (pa_cons (pv 2) pa_nil)))))
      (pss_cons (ps_ost (pv 0) (pv 1))
      (pss_one (ps_ost (pv 0) (pv 2))))), ?_⟩
    try dsimp only [cxOf, Cx.nox, Cx.wish]
    have hstart : ∀ a0 a1 a2 : V, L2.start N_mb_init [a0, a1, a2] = [some a0, some a1, some a2] := fun _ _ _ => rfl
    rw [hstart]
    clear hstart
    walk_at "w"
    refine ⟨_, rfl, _, rfl, _, rfl, a, _, _, rfl, (show 2 ≤ 1000 by decide), O, ha, ?_⟩
    refine ⟨_, rfl, _, rfl, a, _, rfl, O, a_MoveBlocked_index T, .inl ⟨ha, fun dx nd ne => ?_⟩⟩
    refine ⟨_, rfl, _, rfl, a, _, rfl, O, a_MoveBlocked_reason T, .inr ⟨dx, [(("index" : Str), i)], upd_same, ?_, ?_, ?_⟩⟩
    · rw [upd_ne ne, upd_same]
    · exact (show 1 ≤ 900 by decide)
    · exact k dx nd ne
abbrev N_is_whole : List Str := ["value"]
theorem sc_is_whole : FnScope N_is_whole ["value"] (defScope S_is_whole) := ⟨rfl, rfl, rfl, by decide +kernel, rfl, by decide +kernel, by decide +kernel⟩
def sp_is_whole (K : PySem.W.Frag) : Sp := fun vs H Q _ => ∃ i : Int, vs = [.int i] ∧ Q (.bl (decide (0 ≤ i))) H
set_option maxHeartbeats 4000000 in
theorem ok_is_whole {P : Program} {w : World} {K : PySem.W.Frag} {mg : Str → Option Value} {base : Heap} (T : Tx K mg) : Ok P w K mg base CX0 2 d_is_whole ["value"] (sp_is_whole K) := by
  refine (f_is_whole T).ok sc_is_whole (fun vs H Q E h => ?_) (fun cdv A outer s H vs Q E hr h => ?_)
  · obtain ⟨i, rfl, _⟩ := h
    rfl
  · obtain ⟨i, rfl, k⟩ := h
    refine ⟨_, PSs.nox (pss_one (ps_ret (pe_and (pe_callB call_isi (by rfl) (n_isinstance T) bt_isinstance (pa_cons (pv 0) (pa_cons (pe_bltn (v := .ty "int") (by rfl) (n_int T) bt_int rfl) pa_nil))) (pe_and (pe_not (pe_callB call_isi (by rfl) (n_isinstance T) bt_isinstance (pa_cons (pv 0) (pa_cons (pe_bltn (v := .ty "bool") (by rfl) (n_bool T) bt_bool rfl) pa_nil)))) (pe_one (pe_cmpR op_ge (pv 0) pe_int (nomark _))))))), ?_⟩
    try dsimp only [cxOf, Cx.nox, Cx.wish]
    have hstart : ∀ a0 : V, L2.start N_is_whole [a0] = [some a0] := fun _ => rfl
    rw [hstart]
    clear hstart
    walk_at "go"
    exact k
abbrev N_is_index : List Str := ["value", "count"]
theorem sc_is_index : FnScope N_is_index ["value", "count"] (defScope S_is_index) := ⟨rfl, rfl, rfl, by decide +kernel, rfl, by decide +kernel, by decide +kernel⟩
def sp_is_index (K : PySem.W.Frag) : Sp := fun vs H Q _ => ∃ i n : Int, vs = [.int i, .int n] ∧ Q (.bl (decide (0 ≤ i ∧ i < n))) H
set_option maxHeartbeats 4000000 in
theorem ok_is_index {P : Program} {w : World} {K : PySem.W.Frag} {mg : Str → Option Value} {base : Heap} (T : Tx K mg) : Ok P w K mg base CX0 3 d_is_index ["value", "count"] (sp_is_index K) := by
  refine (f_is_index T).ok sc_is_index (fun vs H Q E h => ?_) (fun cdv A outer s H vs Q E hr h => ?_)
  · obtain ⟨i, n, rfl, _⟩ := h
    rfl
  · obtain ⟨i, n, rfl, k⟩ := h
    refine ⟨_, PSs.nox (pss_one (ps_ret (pe_and (pe_call (ok_is_whole T) (hr.mono (by decide)) (by rfl) (g_is_whole T) (f_is_whole T).kp (b_is_whole T) .nil pass0 (pa_cons (pv 0) pa_nil)) (pe_one (pe_cmpR op_lt (pv 0) (pv 1) (nomark _)))))), ?_⟩
    try dsimp only [cxOf, Cx.nox, Cx.wish]
    have hstart : ∀ a0 a1 : V, L2.start N_is_index [a0, a1] = [some a0, some a1] := fun _ _ => rfl
    rw [hstart]
    clear hstart
    walk_at "go"
    refine ⟨i, rfl, ?_⟩
    walk_at "go"
    refine ite2 (fun c => ?_) (fun c => ?_)
    · walk_at "go"
      have e : decide (0 ≤ i ∧ i < n) = decide (i < n) := by simp [of_decide_eq_true c]
      rw [e] at k
      exact k
    · have e : decide (0 ≤ i ∧ i < n) = false := by
        have : ¬ 0 ≤ i := fun z => c (decide_eq_true z)
        simp [this]
      rw [e] at k
      exact k
abbrev N_require_person : List Str := ["state", "person"]
theorem sc_require_person : FnScope N_require_person ["state", "person"] (defScope S_require_person) := ⟨rfl, rfl, rfl, by decide +kernel, rfl, by decide +kernel, by decide +kernel⟩
def sp_require_person (K : PySem.W.Frag) : Sp := fun vs H Q _ => ∃ (v : V) (p : PosD) (r : Nat), vs = [v, vI r] ∧ Im K H v (dPos p) ∧ r < p.1.length ∧ Q .non H
set_option maxHeartbeats 4000000 in
theorem ok_require_person {P : Program} {w : World} {K : PySem.W.Frag} {mg : Str → Option Value} {base : Heap} (T : Tx K mg) : Ok P w K mg base CX0 4 d_require_person ["state", "person"] (sp_require_person K) := by
  refine (f_require_person T).ok sc_require_person (fun vs H Q E h => ?_) (fun cdv A outer s H vs Q E hr h => ?_)
  · obtain ⟨v, p, r, rfl, _⟩ := h
    rfl
  · obtain ⟨v, p, r, rfl, hv, hr1, k⟩ := h
    obtain ⟨a, ra, ba, rfl, ha, hra, hba⟩ := hv.pos_inv
    refine ⟨_, PSs.nox (pss_one (ps_if (pt_not (pt_val (pe_call (ok_is_index T) (hr.mono (by decide)) (by rfl) (g_is_index T) (f_is_index T).kp (b_is_index T) .nil pass0 (pa_cons (pv 1) (pa_cons (pe_callB call_lenA (by rfl) (n_len T) bt_len (pa_cons (pe_ix ix_tup (pv 0) pe_int (fun _ _ => rfl)) pa_nil)) pa_nil))))) (pss_one ps_never) pss_nil)), ?_⟩
    try dsimp only [cxOf, Cx.nox, Cx.wish]
    have hstart : ∀ a0 a1 : V, L2.start N_require_person [a0, a1] = [some a0, some a1] := fun _ _ => rfl
    rw [hstart]
    clear hstart
    walk_at "go"
    refine ⟨_, _, rfl, ?_⟩
    rw [List.length_map, decide_eq_true (show (0 : Int) ≤ (r : Int) ∧ (r : Int) < (p.1.length : Int) by omega)]
    walk_at "go"
    exact k
abbrev N_require_room : List Str := ["house", "room"]
theorem sc_require_room : FnScope N_require_room ["house", "room"] (defScope S_require_room) := ⟨rfl, rfl, rfl, by decide +kernel, rfl, by decide +kernel, by decide +kernel⟩
def sp_require_room (K : PySem.W.Frag) : Sp := fun vs H Q _ => ∃ (v : V) (ds : List Door) (r : Nat), vs = [v, vI r] ∧ Im K H v (dDoors ds) ∧ r < ds.length + 1 ∧ Q .non H
set_option maxHeartbeats 4000000 in
theorem ok_require_room {P : Program} {w : World} {K : PySem.W.Frag} {mg : Str → Option Value} {base : Heap} (T : Tx K mg) : Ok P w K mg base CX0 4 d_require_room ["house", "room"] (sp_require_room K) := by
  refine (f_require_room T).ok sc_require_room (fun vs H Q E h => ?_) (fun cdv A outer s H vs Q E hr h => ?_)
  · obtain ⟨v, ds, r, rfl, _⟩ := h
    rfl
  · obtain ⟨v, ds, r, rfl, hv, hr1, k⟩ := h
    obtain ⟨a, xs, rfl, ha, hx⟩ := hv.tup_inv
    have hl : xs.length = ds.length := by rw [hx.len, List.length_map]
    refine ⟨_, PSs.nox (pss_one (ps_if (pt_not (pt_val (pe_call (ok_is_index T) (hr.mono (by decide)) (by rfl) (g_is_index T) (f_is_index T).kp (b_is_index T) .nil pass0 (pa_cons (pv 1) (pa_cons (pe_op op_add (pe_callB call_lenA (by rfl) (n_len T) bt_len (pa_cons (pv 0) pa_nil)) pe_int) pa_nil))))) (pss_one ps_never) pss_nil)), ?_⟩
    try dsimp only [cxOf, Cx.nox, Cx.wish]
    have hstart : ∀ a0 a1 : V, L2.start N_require_room [a0, a1] = [some a0, some a1] := fun _ _ => rfl
    rw [hstart]
    clear hstart
    walk_at "go"
    refine ⟨_, _, rfl, ?_⟩
    walk_at "go"
    rw [decide_eq_true (show (0 : Int) ≤ (r : Int) ∧ (r : Int) < (xs.length : Int) + 1 by omega)]
    walk_at "go"
    exact k
abbrev N_t_door_between : List Str := ["self", "a", "b"]
theorem sc_t_door_between : FnScope N_t_door_between ["self", "a", "b"] (defScope S_t_door_between) := ⟨rfl, rfl, rfl, by decide +kernel, rfl, by decide +kernel, by decide +kernel⟩
def sp_t_door_between (K : PySem.W.Frag) : Sp := fun vs H Q _ => ∃ (t : Addr) (ds : List Door) (a b i : Nat), vs = [.ref t, vI a, vI b] ∧ TreeAt K H t ds ∧ a < ds.length + 1 ∧ doorOf ds a b = some i ∧ Q (vI i) H
set_option maxHeartbeats 4000000 in
theorem ok_t_door_between {P : Program} {w : World} {K : PySem.W.Frag} {mg : Str → Option Value} {base : Heap} (T : Tx K mg) : Ok P w K mg base CX0 2 d_t_door_between ["self", "a", "b"] (sp_t_door_between K) := by
  refine (f_t_door_between T).ok sc_t_door_between (fun vs H Q E h => ?_) (fun cdv A outer s H vs Q E hr h => ?_)
  · obtain ⟨t, ds, a, b, i, rfl, _⟩ := h
    rfl
  · obtain ⟨t, ds, a, b, i, rfl, ht, ha, hi, k⟩ := h
    obtain ⟨dx, la, v, rs, h1, h2, h3, h4⟩ := ht.ex
    refine ⟨_, PSs.nox (pss_one (ps_ret (pe_dget (room1 hr) (pe_ix ix_list (pe_fld (pv 0) rfl) (pv 1) (fun _ _ => rfl)) (pv 2) (fun _ _ => rfl)))), ?_⟩
    try dsimp only [cxOf, Cx.nox, Cx.wish]
    have hstart : ∀ a0 a1 a2 : V, L2.start N_t_door_between [a0, a1, a2] = [some a0, some a1, some a2] := fun _ _ _ => rfl
    rw [hstart]
    clear hstart
    walk_at "go"
    obtain ⟨r, hr1⟩ : ∃ r, rs[a]? = some r := ⟨rs[a], List.getElem?_eq_getElem (by omega)⟩
    obtain ⟨kvs, g1, g2⟩ := h4 a r hr1
    refine st_ixL (SqL.of h2) (atI_nat (by rw [List.getElem?_map, hr1]; rfl)) ?_
    walk_at "go"
    refine ⟨r, vI i, rfl, ?_, k⟩
    have e := DGet.k (k := .inl (b : Int)) g1
    rw [g2 b, hi] at e
    exact e
abbrev N_s_can_go : List Str := ["self", "person", "room"]
theorem sc_s_can_go : FnScope N_s_can_go ["self", "person", "room"] (defScope S_s_can_go) := ⟨rfl, rfl, rfl, by decide +kernel, rfl, by decide +kernel, by decide +kernel⟩
def sp_s_can_go (K : PySem.W.Frag) : Sp := fun vs H Q _ => ∃ (B : Hp) (s rl bl dl t : Addr) (ds : List Door) (p : PosD) (n a b i : Nat), vs = [.ref s, vI a, vI b] ∧ SimAt K B H s rl bl dl t ds p n ∧ HouseOk ds ∧ PosOk ds p ∧ a < p.1.length ∧ doorOf ds (p.1.getD a 0) b = some i ∧ Q (.bl (!decide (p.2.getD i 0 = a))) H
set_option maxHeartbeats 4000000 in
theorem ok_s_can_go {P : Program} {w : World} {K : PySem.W.Frag} {mg : Str → Option Value} {base : Heap} (T : Tx K mg) : Ok P w K mg base CX0 3 d_s_can_go ["self", "person", "room"] (sp_s_can_go K) := by
  refine (f_s_can_go T).ok sc_s_can_go (fun vs H Q E h => ?_) (fun cdv A outer s H vs Q E hr h => ?_)
  · obtain ⟨B, s, rl, bl, dl, t, ds, p, n, a, b, i, rfl, _⟩ := h
    rfl
  · obtain ⟨B, s, rl, bl, dl, t, ds, p, n, a, b, i, rfl, S, hO, hP, ha, hi, k⟩ := h
    obtain ⟨dx, ob⟩ := S.obj
    have hr1 := S.rooms
    have hT := S.tree.same S.sm
    obtain ⟨dxt, la, tv, rs, ht1, _⟩ := hT.ex
    have hb1 := S.bars
    obtain ⟨l1, l2, l3, l4⟩ := hO.lt hi
    refine ⟨_, PSs.nox (pss_one (ps_ret (pe_cmpR op_ne (pe_ix ix_list (pe_fld (pv 0) rfl) (pe_meth (pe_fld (pv 0) rfl) (c_Tree T) (m_Tree_door_between T) (ok_t_door_between T) (hr.mono (by decide)) (b_t_door_between T) .nil pass0 (pa_cons (pe_ix ix_list (pe_fld (pv 0) rfl) (pv 1) (fun _ _ => rfl)) (pa_cons (pv 2) pa_nil))) (fun _ _ => rfl)) (pv 1) (nomark _)))), ?_⟩
    try dsimp only [cxOf, Cx.nox, Cx.wish]
    have hstart : ∀ a0 a1 a2 : V, L2.start N_s_can_go [a0, a1, a2] = [some a0, some a1, some a2] := fun _ _ _ => rfl
    rw [hstart]
    clear hstart
    walk_at "w"
    refine st_ixL (SqL.of hr1) (at_map ha) ?_
    walk_at "w"
    refine ⟨t, ds, _, b, i, rfl, hT, l1, hi, ?_⟩
    walk_at "w"
    refine st_ixL (SqL.of hb1) (at_map (by rw [hP.bl]; exact l4)) ?_
    walk_at "w"
    have e : decide (((p.2.getD i 0 : Nat) : Int) = (a : Int)) = decide (p.2.getD i 0 = a) := by
      by_cases h : p.2.getD i 0 = a
      · rw [decide_eq_true h, decide_eq_true (by omega)]
      · rw [decide_eq_false h, decide_eq_false (by omega)]
    rw [e]
    exact k
abbrev N_s_go : List Str := ["self", "person", "room", "start"]
theorem sc_s_go : FnScope N_s_go ["self", "person", "room"] (defScope S_s_go) := ⟨rfl, rfl, rfl, by decide +kernel, rfl, by decide +kernel, by decide +kernel⟩
def sp_s_go (K : PySem.W.Frag) : Sp := fun vs H Q _ => ∃ (B : Hp) (s rl bl dl t : Addr) (ds : List Door) (p : PosD) (n a b i : Nat), vs = [.ref s, vI a, vI b] ∧ SimAt K B H s rl bl dl t ds p n ∧ HouseOk ds ∧ PosOk ds p ∧ n < 900 ∧ a < p.1.length ∧ doorOf ds (p.1.getD a 0) b = some i ∧
  ∀ H', SimAt K B H' s rl bl dl t ds (mv ds p (a, p.1.getD a 0, b)) (n + 1) → Q .non H'
set_option maxHeartbeats 4000000 in
theorem ok_s_go {P : Program} {w : World} {K : PySem.W.Frag} {mg : Str → Option Value} {base : Heap} (T : Tx K mg) : Ok P w K mg base CX0 3 d_s_go ["self", "person", "room"] (sp_s_go K) := by
  refine (f_s_go T).ok sc_s_go (fun vs H Q E h => ?_) (fun cdv A outer s H vs Q E hr h => ?_)
  · obtain ⟨B, s, rl, bl, dl, t, ds, p, n, a, b, i, rfl, _⟩ := h
    rfl
  · obtain ⟨B, s, rl, bl, dl, t, ds, p, n, a, b, i, rfl, S, hO, hP, hn, ha, hi, k⟩ := h
    obtain ⟨dx, ob⟩ := S.obj
    have hr1 := S.rooms
    have hT := S.tree.same S.sm
    obtain ⟨dxt, la, tv, rs, ht1, _⟩ := hT.ex
    have hb1 := S.bars
    obtain ⟨xs, hd1, hxs⟩ := S.done
    obtain ⟨l1, l2, l3, l4⟩ := hO.lt hi
    have sr : s ≠ rl := fun z => by rw [z, hr1] at ob; cases ob
    have sb : s ≠ bl := fun z => by rw [z, hb1] at ob; cases ob
    have sd : s ≠ dl := fun z => by rw [z, hd1] at ob; cases ob
    refine ⟨_, PSs.nox (pss_cons (ps_set (i := 3) sc_s_go.nd rfl (Or.inl rfl) (pe_ix ix_list (pe_fld (pv 0) rfl) (pv 1) (fun _ _ => rfl)))
      (pss_cons (ps_asg (pv 1) (pg_sub (pe_fld (pv 0) rfl) (pe_meth (pe_fld (pv 0) rfl) (c_Tree T) (m_Tree_door_between T) (ok_t_door_between T) (hr.mono (by decide)) (b_t_door_between T) .nil pass0 (pa_cons (pv 3) (pa_cons (pv 2) pa_nil))) set_list))
      (pss_cons (ps_asg (pv 2) (pg_sub (pe_fld (pv 0) rfl) (pv 1) set_list))
      (pss_one (ps_expr (pe_bm PySem.F.plainAttrs_list PySem.F.slot_list_append PySem.F.type_list_append mt_append (pe_fld (pv 0) rfl) (pa_cons (pe_tup (pa_cons (pv 1) (pa_cons (pv 3) (pa_cons (pv 2) pa_nil)))) pa_nil))))))), ?_⟩
    try dsimp only [cxOf, Cx.nox, Cx.wish]
    have hstart : ∀ a0 a1 a2 : V, L2.start N_s_go [a0, a1, a2] = [some a0, some a1, some a2, none] := fun _ _ _ => rfl
    rw [hstart]
    clear hstart
    walk_at "w"
    refine st_ixL (SqL.of hr1) (at_map ha) ?_
    walk_at "w"
    refine ⟨t, ds, _, b, i, rfl, hT, l1, hi, ?_⟩
    walk_at "w"
    refine st_setL (j := 0) hb1 (ixN_nat (by rw [List.length_map, hP.bl]; exact l4)) ?_
    have eb : (p.2.map vI).set i (vI a) = (p.2.set i a).map vI := by rw [List.map_set]
    rw [eb]
    have m1 := Same.mut S.sm S.b0 (o := .lst ((p.2.set i a).map vI))
    have ob1 := (upd_ne (H := H) (o := .lst ((p.2.set i a).map vI)) sb).trans ob
    have r1 := (upd_ne (H := H) (o := .lst ((p.2.set i a).map vI)) S.rb).trans hr1
    have d1 := (upd_ne (H := H) (o := .lst ((p.2.set i a).map vI)) S.bd.symm).trans hd1
    have b1 := upd_same (H := H) (a := bl) (o := .lst ((p.2.set i a).map vI))
    generalize upd H bl _ = H1 at *
    walk_at "w"
    refine st_setL (j := 0) r1 (ixN_nat (by rw [List.length_map]; exact ha)) ?_
    have er : (p.1.map vI).set a (vI b) = (p.1.set a b).map vI := by rw [List.map_set]
    rw [er]
    have m2 := Same.mut m1 S.r0 (o := .lst ((p.1.set a b).map vI))
    have ob2 := (upd_ne (H := H1) (o := .lst ((p.1.set a b).map vI)) sr).trans ob1
    have d2 := (upd_ne (H := H1) (o := .lst ((p.1.set a b).map vI)) S.rd.symm).trans d1
    have b2 := (upd_ne (H := H1) (o := .lst ((p.1.set a b).map vI)) S.rb.symm).trans b1
    have r2 := upd_same (H := H1) (a := rl) (o := .lst ((p.1.set a b).map vI))
    generalize upd H1 rl _ = H2 at *
    walk_at "w"
    intro c nc
    have e3 := Same.new nc (o := .tup [vI a, vI (p.1.getD a 0), vI b])
    refine st_append (e3 _ _ d2) (by omega) ?_
    refine k _ ⟨Same.mut (m2.trans e3) S.d0, S.tree, S.s0, S.r0, S.b0, S.d0, S.rb, S.rd, S.bd, ⟨dx, ?_⟩, ?_, ?_, _, upd_same, by rw [List.length_append, hxs]; rfl⟩
    · rw [upd_ne sd]; exact e3 _ _ ob2
    · rw [upd_ne S.rd]; exact e3 _ _ r2
    · rw [upd_ne S.bd]
      have : doorI ds (a, p.1.getD a 0, b) = i := by unfold doorI; simp only; rw [hi]; rfl
      show _ = some (HO.lst ((p.2.set (doorI ds (a, p.1.getD a 0, b)) a).map vI))
      rw [this]
      exact e3 _ _ b2
abbrev N_s_block : List Str := ["self", "plan", "index", "person", "start", "end"]
theorem sc_s_block : FnScope N_s_block ["self", "plan"] (defScope S_s_block) := ⟨rfl, rfl, rfl, by decide +kernel, rfl, by decide +kernel, by decide +kernel⟩
def sp_s_block (K : PySem.W.Frag) : Sp := fun vs H Q _ => ∃ (B : Hp) (s rl bl dl t l : Addr) (ds : List Door) (p : PosD) (xs : List V) (ss : List Stp), vs = [.ref s, .ref l] ∧ SimAt K B H s rl bl dl t ds p 0 ∧ HouseOk ds ∧ PosOk ds p ∧ B l = some (.lst xs) ∧ ImAll K B xs (ss.map dStep) ∧ ss.length ≤ 800 ∧
  (∀ x ∈ ss, StepOk ds p.1.length x) ∧ (∀ i k, runS ds p ss 0 = .inl (i, k) → ∀ H' v, Same B H' → Im K H' v (.tuple [dI i, dWord k]) → Q v H') ∧ (∀ q, runS ds p ss 0 = .inr q → ∀ H', SimAt K B H' s rl bl dl t ds q ss.length → Q .non H')
set_option maxHeartbeats 4000000 in
theorem ok_s_block {P : Program} {w : World} {K : PySem.W.Frag} {mg : Str → Option Value} {base : Heap} (T : Tx K mg) : Ok P w K mg base CX0 4 d_s_block ["self", "plan"] (sp_s_block K) := by
  refine (f_s_block T).ok sc_s_block (fun vs H Q E h => ?_) (fun cdv A outer s H vs Q E hr h => ?_)
  · obtain ⟨B, s, rl, bl, dl, t, l, ds, p, xs, ss, rfl, _⟩ := h
    rfl
  · obtain ⟨B, s, rl, bl, dl, t, l, ds, p, xs, ss, rfl, S, hO, hP, hl, hx, h8, hS, k1, k2⟩ := h
    have hlen : xs.length = ss.length := by rw [hx.len, List.length_map]
    have hl1 := S.sm _ _ hl
    refine ⟨_, PSs.nox (pss_cons (ps_for PassesOwn.never rfl (pi_enum (by rfl) (n_enumerate T) (pa_cons (pv 1) pa_nil)) (pg_tup rfl (pgs_cons (pg_name (i := 2) sc_s_block.nd rfl (Or.inl rfl)) (pgs_cons (pg_tup rfl (pgs_cons (pg_name (i := 3) sc_s_block.nd rfl (Or.inl rfl)) (pgs_cons (pg_name (i := 4) sc_s_block.nd rfl (Or.inl rfl)) (pgs_cons (pg_name (i := 5) sc_s_block.nd rfl (Or.inl rfl)) pgs_nil)))) pgs_nil))) (pss_cons (ps_if (pt_cmpR op_ne (pe_ix ix_list (pe_fld (pv 0) rfl) (pv 3) (fun _ _ => rfl)) (pv 4) (nomark _)) (pss_one (ps_ret (pe_tup (pa_cons (pv 2) (pa_cons (pe_tup (pa_cons pe_str pa_nil)) pa_nil))))) pss_nil)
      (pss_cons (ps_if (pt_not (pt_val (pe_meth (pv 0) (c_Simulation T) (m_Simulation_can_go T) (ok_s_can_go T) (hr.mono (by decide)) (b_s_can_go T) .nil pass0 (pa_cons (pv 3) (pa_cons (pv 5) pa_nil))))) (pss_one (ps_ret (pe_tup (pa_cons (pv 2) (pa_cons (pe_tup (pa_cons pe_str pa_nil)) pa_nil))))) pss_nil)
      (pss_one (ps_expr (pe_meth (pv 0) (c_Simulation T) (m_Simulation_go T) (ok_s_go T) (hr.mono (by decide)) (b_s_go T) .nil pass0 (pa_cons (pv 3) (pa_cons (pv 5) pa_nil))))))))
      (pss_one (ps_ret pe_non))), ?_⟩
    try dsimp only [cxOf, Cx.nox, Cx.wish]
    have hstart : ∀ a0 a1 : V, L2.start N_s_block [a0, a1] = [some a0, some a1, none, none, none, none] := fun _ _ => rfl
    rw [hstart]
    clear hstart
    walk_at "w"
    refine for_eL xs (fun i σ H' => ∃ (q : PosD) (v2 v3 v4 v5 : Option V), σ = [some (.ref s), some (.ref l), v2, v3, v4, v5] ∧ SimAt K B H' s rl bl dl t ds q i ∧ PosOk ds q ∧ q.1.length = p.1.length ∧ runS ds p ss 0 = runS ds q (ss.drop i) i) ?_ ?_ ?_ ?_
    · exact ⟨p, none, none, none, none, rfl, S, hP, rfl, rfl⟩
    · rintro i σ H' _ ⟨q, v2, v3, v4, v5, _, S', _⟩
      exact SqL.of (S'.sm _ _ hl)
    · rintro i x σ H' hi ⟨q, v2, v3, v4, v5, rfl, S', hQ, hql, hrun⟩ U nU
      obtain ⟨dd, hdd, him⟩ := hx.get' hi
      rw [List.getElem?_map] at hdd
      obtain ⟨d, hd, rfl⟩ := Option.map_eq_some_iff.mp hdd
      have il : i < ss.length := (List.getElem?_eq_some_iff.mp hd).1
      obtain ⟨b, rfl, hb⟩ := him.step_inv
      have e1 := Same.new nU (o := .tup [.int (i : Nat), .ref b])
      have S1 := S'.same e1
      have hb1 := (TK.same S1.sm).seq hb
      have hu : SqT K (upd H' U (.tup [.int (i : Nat), .ref b])) U [.int (i : Nat), .ref b] := SqT.of upd_same
      generalize upd H' U _ = H1 at *
      obtain ⟨dx, ob1⟩ := S1.obj
      have hr1 := S1.rooms
      obtain ⟨st1, j, st2⟩ := hS d (List.mem_of_getElem? hd)
      have hdrop : ss.drop i = d :: ss.drop (i + 1) := by
        obtain ⟨hil, e⟩ := List.getElem?_eq_some_iff.mp hd
        rw [List.drop_eq_getElem_cons hil, e]
      rw [hdrop] at hrun
      walk_at "w"
      refine st_ixL (SqL.of hr1) (at_map (by rw [hql]; exact st1)) ?_
      walk_at "w"
      by_cases haway : q.1.getD d.1 0 = d.2.1
      · refine iteNDT (by omega) ?_
        have hj : doorOf ds (q.1.getD d.1 0) d.2.2 = some j := by rw [haway]; exact st2
        have hdi : doorI ds d = j := by unfold doorI; rw [st2]; rfl
        walk_at "w"
        refine ⟨B, s, rl, bl, dl, t, ds, q, i, d.1, d.2.2, j, rfl, S1, hO, hQ, by rw [hql]; exact st1, hj, ?_⟩
        walk_at "w"
        by_cases hbar : q.2.getD j 0 = d.1
        · have hb : K83.bl ds q d = some false := by
            unfold K83.bl
            rw [if_pos haway, hdi, if_pos hbar]
          rw [runS_some hb] at hrun
          rw [decide_eq_true hbar]
          walk_at "w"
          intro c nc
          walk_at "w"
          intro c2 nc2
          have e2 := Same.new nc (o := .tup [.str "barred"])
          have e3 := Same.new nc2 (o := .tup [.int (i : Nat), .ref c])
          exact k1 i false hrun _ _ ((S1.sm.trans e2).trans e3) (Im.two (SqT.of upd_same) (.int _) (.tup (SqT.of (e3 _ _ upd_same)) (.cons (.str _) .nil)))
        · have hb : K83.bl ds q d = none := by
            unfold K83.bl
            rw [if_pos haway, hdi, if_neg hbar]
          rw [runS_none hb] at hrun
          rw [decide_eq_false hbar]
          walk_at "w"
          refine ⟨B, s, rl, bl, dl, t, ds, q, i, d.1, d.2.2, j, rfl, S1, hO, hQ, by omega, by rw [hql]; exact st1, hj, fun H2 S2 => ?_⟩
          have ed : (d.1, q.1.getD d.1 0, d.2.2) = d := by rw [haway]
          rw [ed] at S2
          refine ⟨mv ds q d, _, _, _, _, rfl, S2, hQ.mv hO (by rw [hql]; exact hS d (List.mem_of_getElem? hd)), by rw [mv_len, hql], hrun⟩
      · refine iteNDF (by omega) ?_
        have hb : K83.bl ds q d = some true := by
          unfold K83.bl
          rw [if_neg haway]
        rw [runS_some hb] at hrun
        walk_at "w"
        intro c nc
        walk_at "w"
        intro c2 nc2
        have e2 := Same.new nc (o := .tup [.str "away"])
        have e3 := Same.new nc2 (o := .tup [.int (i : Nat), .ref c])
        exact k1 i true hrun _ _ ((S1.sm.trans e2).trans e3) (Im.two (SqT.of upd_same) (.int _) (.tup (SqT.of (e3 _ _ upd_same)) (.cons (.str _) .nil)))
    · rintro σ H' ⟨q, v2, v3, v4, v5, rfl, S', hQ, hql, hrun⟩
      rw [hlen, List.drop_length] at hrun
      rw [hlen] at S'
      walk_at "w"
      exact k2 q hrun _ S'
abbrev N_s_init : List Str := ["self", "tree", "state"]
theorem sc_s_init : FnScope N_s_init ["self", "tree", "state"] (defScope S_s_init) := ⟨rfl, rfl, rfl, by decide +kernel, rfl, by decide +kernel, by decide +kernel⟩
def sp_s_init (K : PySem.W.Frag) : Sp := fun vs H Q _ => ∃ (B : Hp) (s t dx : Addr) (v : V) (ds : List Door) (p : PosD), vs = [.ref s, .ref t, v] ∧ Same B H ∧ B s = none ∧ H s = some (.ins (He.ga K "Simulation") dx []) ∧ TreeAt K B t ds ∧ Im K H v (dPos p) ∧
  ∀ H' rl bl dl, SimAt K B H' s rl bl dl t ds p 0 → Q .non H'
set_option maxHeartbeats 4000000 in
theorem ok_s_init {P : Program} {w : World} {K : PySem.W.Frag} {mg : Str → Option Value} {base : Heap} (T : Tx K mg) : Ok P w K mg base CX0 2 d_s_init ["self", "tree", "state"] (sp_s_init K) := by
  refine (f_s_init T).ok sc_s_init (fun vs H Q E h => ?_) (fun cdv A outer s H vs Q E hr h => ?_)
  · obtain ⟨B, s, t, dx, v, ds, p, rfl, _⟩ := h
    rfl
  · obtain ⟨B, s, t, dx, v, ds, p, rfl, sm, s0, hs, ht, hv, k⟩ := h
    obtain ⟨a, ra, ba, rfl, ha, hra, hba⟩ := hv.pos_inv
    refine ⟨_, PSs.nox (pss_cons (ps_fld (pv 0) (pv 1) rfl)
      (pss_cons (ps_fld (pv 0) (pe_callTy call_listA (by rfl) (n_list T) bt_list (pa_cons (pe_ix ix_tup (pv 2) pe_int (fun _ _ => rfl)) pa_nil)) rfl)
      (pss_cons (ps_fld (pv 0) (pe_callTy call_listA (by rfl) (n_list T) bt_list (pa_cons (pe_ix ix_tup (pv 2) pe_int (fun _ _ => rfl)) pa_nil)) rfl)
      (pss_one (ps_fld (pv 0) (pe_lst pa_nil) rfl))))), ?_⟩
    try dsimp only [cxOf, Cx.nox, Cx.wish]
    have hstart : ∀ a0 a1 a2 : V, L2.start N_s_init [a0, a1, a2] = [some a0, some a1, some a2] := fun _ _ _ => rfl
    rw [hstart]
    clear hstart
    walk_at "w"
    refine st_sfldQ (gs := [("tree", .ref t)]) hs (c_Simulation T) (a_Simulation_tree T) (by decide) rfl ?_
    have t1 := TK.ins hs (o := .ins (He.ga K "Simulation") dx [("tree", .ref t)])
    have s1 := upd_same (H := H) (a := s) (o := .ins (He.ga K "Simulation") dx [("tree", .ref t)])
    have m1 := Same.mut sm s0 (o := .ins (He.ga K "Simulation") dx [("tree", .ref t)])
    generalize upd H s _ = H1 at *
    have ha1 := t1.seq ha
    have hra1 := t1.seq hra
    have hba1 := t1.seq hba
    walk_at "w"
    intro rl nr
    walk_at "w"
    have hne : s ≠ rl := fun z => by rw [z, nr] at s1; cases s1
    have hnB : ∀ x, H1 x = none → B x = none := fun x e => by
      cases e1 : B x with
      | none => rfl
      | some o => rw [m1 _ _ e1] at e; cases e
    refine st_sfldQ (gs := [("tree", .ref t), ("rooms", .ref rl)]) (by rw [upd_ne hne]; exact s1) (c_Simulation T) (a_Simulation_rooms T) (show ([("tree", V.ref t)] : List (Str × V)).length < 1000 from Nat.le_of_ble_eq_true rfl) rfl ?_
    have t2 := t1.trans ((TK.new nr (o := .lst (p.1.map vI))).trans (TK.ins (H := upd H1 rl (.lst (p.1.map vI))) (by rw [upd_ne hne]; exact s1) (o := .ins (He.ga K "Simulation") dx [("tree", .ref t), ("rooms", .ref rl)])))
    have s2 := upd_same (H := upd H1 rl (.lst (p.1.map vI))) (a := s) (o := .ins (He.ga K "Simulation") dx [("tree", .ref t), ("rooms", .ref rl)])
    have m2 := Same.mut (Same.mut m1 (hnB _ nr) (o := .lst (p.1.map vI))) s0 (o := .ins (He.ga K "Simulation") dx [("tree", .ref t), ("rooms", .ref rl)])
    have r2 : (upd (upd H1 rl (.lst (p.1.map vI))) s (.ins (He.ga K "Simulation") dx [("tree", .ref t), ("rooms", .ref rl)])) rl = some (.lst (p.1.map vI)) := by rw [upd_ne hne.symm, upd_same]
    generalize upd (upd H1 rl _) s _ = H2 at *
    have ha2 := t2.seq ha
    have hba2 := t2.seq hba
    walk_at "w"
    intro bl nb
    walk_at "w"
    have hne2 : s ≠ bl := fun z => by rw [z, nb] at s2; cases s2
    have hrb : rl ≠ bl := fun z => by rw [z, nb] at r2; cases r2
    have hnB2 : ∀ x, H2 x = none → B x = none := fun x e => by
      cases e1 : B x with
      | none => rfl
      | some o => rw [m2 _ _ e1] at e; cases e
    refine st_sfldQ (gs := [("tree", .ref t), ("rooms", .ref rl), ("barred", .ref bl)]) (by rw [upd_ne hne2]; exact s2) (c_Simulation T) (a_Simulation_barred T) (show ([("tree", V.ref t), ("rooms", .ref rl)] : List (Str × V)).length < 1000 from Nat.le_of_ble_eq_true rfl) rfl ?_
    have s3 := upd_same (H := upd H2 bl (.lst (p.2.map vI))) (a := s) (o := .ins (He.ga K "Simulation") dx [("tree", .ref t), ("rooms", .ref rl), ("barred", .ref bl)])
    have m3 := Same.mut (Same.mut m2 (hnB2 _ nb) (o := .lst (p.2.map vI))) s0 (o := .ins (He.ga K "Simulation") dx [("tree", .ref t), ("rooms", .ref rl), ("barred", .ref bl)])
    have r3 : (upd (upd H2 bl (.lst (p.2.map vI))) s (.ins (He.ga K "Simulation") dx [("tree", .ref t), ("rooms", .ref rl), ("barred", .ref bl)])) rl = some (.lst (p.1.map vI)) := by rw [upd_ne hne.symm, upd_ne hrb, r2]
    have b3 : (upd (upd H2 bl (.lst (p.2.map vI))) s (.ins (He.ga K "Simulation") dx [("tree", .ref t), ("rooms", .ref rl), ("barred", .ref bl)])) bl = some (.lst (p.2.map vI)) := by rw [upd_ne hne2.symm, upd_same]
    generalize upd (upd H2 bl _) s _ = H3 at *
    walk_at "w"
    intro dl nd
    walk_at "w"
    have hne3 : s ≠ dl := fun z => by rw [z, nd] at s3; cases s3
    have hrd : rl ≠ dl := fun z => by rw [z, nd] at r3; cases r3
    have hbd : bl ≠ dl := fun z => by rw [z, nd] at b3; cases b3
    have hnB3 : ∀ x, H3 x = none → B x = none := fun x e => by
      cases e1 : B x with
      | none => rfl
      | some o => rw [m3 _ _ e1] at e; cases e
    refine st_sfldQ (gs := [("tree", .ref t), ("rooms", .ref rl), ("barred", .ref bl), ("done", .ref dl)]) (by rw [upd_ne hne3]; exact s3) (c_Simulation T) (a_Simulation_done T) (show ([("tree", V.ref t), ("rooms", .ref rl), ("barred", .ref bl)] : List (Str × V)).length < 1000 from Nat.le_of_ble_eq_true rfl) rfl ?_
    refine k _ rl bl dl ⟨Same.mut (Same.mut m3 (hnB3 _ nd)) s0, ht, s0, hnB _ nr, hnB2 _ nb, hnB3 _ nd, hrb, hrd, hbd, ⟨dx, upd_same⟩, ?_, ?_, [], ?_, rfl⟩
    · rw [upd_ne hne.symm, upd_ne hrd, r3]
    · rw [upd_ne hne2.symm, upd_ne hbd, b3]
    · rw [upd_ne hne3.symm, upd_same]
abbrev N_s_state : List Str := ["self"]
theorem sc_s_state : FnScope N_s_state ["self"] (defScope S_s_state) := ⟨rfl, rfl, rfl, by decide +kernel, rfl, by decide +kernel, by decide +kernel⟩
def sp_s_state (K : PySem.W.Frag) : Sp := fun vs H Q _ => ∃ (B : Hp) (s rl bl dl t : Addr) (ds : List Door) (p : PosD) (n : Nat), vs = [.ref s] ∧ SimAt K B H s rl bl dl t ds p n ∧ ∀ H' v, Same H H' → Im K H' v (dPos p) → Q v H'
set_option maxHeartbeats 4000000 in
theorem ok_s_state {P : Program} {w : World} {K : PySem.W.Frag} {mg : Str → Option Value} {base : Heap} (T : Tx K mg) : Ok P w K mg base CX0 2 d_s_state ["self"] (sp_s_state K) := by
  refine (f_s_state T).ok sc_s_state (fun vs H Q E h => ?_) (fun cdv A outer s H vs Q E hr h => ?_)
  · obtain ⟨B, s, rl, bl, dl, t, ds, p, n, rfl, _⟩ := h
    rfl
  · obtain ⟨B, s, rl, bl, dl, t, ds, p, n, rfl, S, k⟩ := h
    obtain ⟨dx, ob⟩ := S.obj
    have hr1 := S.rooms
    have hb1 := S.bars
    refine ⟨_, PSs.nox (pss_one (ps_ret (pe_tup (pa_cons (pe_callTy call_tupA (by rfl) (n_tuple T) bt_tuple (pa_cons (pe_fld (pv 0) rfl) pa_nil)) (pa_cons (pe_callTy call_tupA (by rfl) (n_tuple T) bt_tuple (pa_cons (pe_fld (pv 0) rfl) pa_nil)) pa_nil))))), ?_⟩
    try dsimp only [cxOf, Cx.nox, Cx.wish]
    have hstart : ∀ a0 : V, L2.start N_s_state [a0] = [some a0] := fun _ => rfl
    rw [hstart]
    clear hstart
    walk_at "w"
    intro x nx
    have e1 := Same.new nx (o := .tup (p.1.map vI))
    have ob1 := e1 _ _ ob
    have hb2 := e1 _ _ hb1
    have x1 := upd_same (H := H) (a := x) (o := .tup (p.1.map vI))
    generalize upd H x _ = H1 at *
    walk_at "w"
    intro y ny
    have e2 := e1.trans (Same.new ny (o := .tup (p.2.map vI)))
    have x2 := Same.new ny (o := .tup (p.2.map vI)) _ _ x1
    have y2 := upd_same (H := H1) (a := y) (o := .tup (p.2.map vI))
    generalize upd H1 y _ = H2 at *
    walk_at "w"
    intro z nz
    have e3 := Same.new nz (o := .tup [.ref x, .ref y])
    exact k _ _ (e2.trans e3) (Im.pos (SqT.of upd_same) (SqT.of (e3 _ _ x2)) (SqT.of (e3 _ _ y2)))
abbrev N_x_advance : List Str := ["self", "plan", "state", "made", "simulation", "blocked"]
theorem sc_x_advance : FnScope N_x_advance ["self", "plan"] (defScope S_x_advance) := ⟨rfl, rfl, rfl, by decide +kernel, rfl, by decide +kernel, by decide +kernel⟩
-- import D_mb_init
def sp_x_advance (K : PySem.W.Frag) : Sp := fun vs H Q E => ∃ (B : Hp) (s hi l : Addr) (xs : List V) (ds : List Door) (p : PosD) (made : List Stp) (hist : List (PosD × List Stp)) (ss : List Stp), vs = [.ref s, .ref l] ∧ SessAt K B H s hi ds p made hist ∧ HouseOk ds ∧ PosOk ds p ∧
  H l = some (.lst xs) ∧ l ≠ hi ∧ ImAll K H xs (ss.map dStep) ∧ ss.length ≤ 200 ∧ made.length ≤ 400 ∧ hist.length ≤ 400 ∧ (∀ x ∈ ss, StepOk ds p.1.length x) ∧
  (∀ i k, runS ds p ss 0 = .inl (i, k) → ∀ H' d v r, Same H H' → H d = none → H' d = some (.xd [("reason", r), ("index", v)]) → v = vI i → Im K H' r (dWord k) → E (.ref (He.ga K "MoveBlocked")) (some d) H') ∧
  (∀ q, runS ds p ss 0 = .inr q → ∀ H' u, Kp2 s hi H H' → SessAt K B H' s hi ds q (made ++ ss) (hist ++ [(p, made)]) → Im K H' u (dPos q) → Q u H')
set_option maxHeartbeats 4000000 in
theorem ok_x_advance {P : Program} {w : World} {K : PySem.W.Frag} {mg : Str → Option Value} {base : Heap} (T : Tx K mg) : Ok P w K mg base (L2.CX P w) 5 d_x_advance ["self", "plan"] (sp_x_advance K) := by
  refine (f_x_advance T).ok sc_x_advance (fun vs H Q E h => ?_) (fun cdv A outer s H vs Q E hr h => ?_)
  · obtain ⟨B, s, hi, l, xs, ds, p, made, hist, ss, rfl, _⟩ := h
    rfl
  · obtain ⟨B, s, hi, l, xs, ds, p, made, hist, ss, rfl, S, hO, hP, hl, hlh, hx, h2, h4, h5, hS, k1, k2⟩ := h
    obtain ⟨dx, t, hv, cv, hs, g1, g2, g3, g4, g5, g6⟩ := S.ex
    obtain ⟨c, pz, mz, rfl, c1, c2, c3⟩ := g5.two_inv
    obtain ⟨m, ms, rfl, m1, m2⟩ := c3.tup_inv
    refine ⟨_, (pss_cons (ps_asg (pe_fld (pv 0) rfl) (pg_tup rfl (pgs_cons (pg_name (i := 2) sc_x_advance.nd rfl (Or.inl rfl)) (pgs_cons (pg_name (i := 3) sc_x_advance.nd rfl (Or.inl rfl)) pgs_nil))))
      (pss_cons (ps_set (i := 4) sc_x_advance.nd rfl (Or.inl rfl) (pe_make (k_Simulation T) (ok_s_init T) (hr.mono (by decide)) (by rfl) (g_Simulation T) (b_s_init T) .nil pass0 (pa_cons (pe_fld (pv 0) rfl) (pa_cons (pv 2) pa_nil))))
      (pss_cons (ps_set (i := 5) sc_x_advance.nd rfl (Or.inl rfl) (pe_meth (pv 4) (c_Simulation T) (m_Simulation_block T) (ok_s_block T) (hr.mono (by decide)) (b_s_block T) .nil pass0 (pa_cons (pv 1) pa_nil)))
      (pss_cons (ps_if (pt_cmpR op_notN1 (pv 5) pe_non (nomark _)) (pss_one (ps_raise rfl (takes_of rfl rfl rfl rfl) (pmk_oex (exOne_ok T.exs.mb).1 T.exs.iM T.exs.tM (ok_mb_init T) (hr.mono (by decide)) (b_mb_init T) .nil pass0 (by rfl) (g_MoveBlocked T) (pa_cons (pe_ix ix_tup (pv 5) pe_int (fun _ _ => rfl)) (pa_cons (pe_ix ix_tup (pv 5) pe_int (fun _ _ => rfl)) pa_nil))))) pss_nil)
      (pss_cons (ps_expr (pe_bm PySem.F.plainAttrs_list PySem.F.slot_list_append PySem.F.type_list_append mt_append (pe_fld (pv 0) rfl) (pa_cons (pe_fld (pv 0) rfl) pa_nil)))
      (pss_cons (ps_fld (pv 0) (pe_tup (pa_cons (pe_meth0 (pv 4) (c_Simulation T) (m_Simulation_state T) (ok_s_state T) (hr.mono (by decide)) (b_s_state T) .nil pass0) (pa_cons (pe_op op_catA (pv 3) (pe_callTy call_tupA (by rfl) (n_tuple T) bt_tuple (pa_cons (pv 1) pa_nil))) pa_nil))) rfl)
      (pss_one (ps_ret (pe_meth0 (pv 4) (c_Simulation T) (m_Simulation_state T) (ok_s_state T) (hr.mono (by decide)) (b_s_state T) .nil pass0))))))))), ?_⟩
    try dsimp only [cxOf, Cx.nox, Cx.wish]
    have hstart : ∀ a0 a1 : V, L2.start N_x_advance [a0, a1] = [some a0, some a1, none, none, none, none] := fun _ _ => rfl
    rw [hstart]
    clear hstart
    have hnhi : s ≠ hi := fun z => by rw [z, g3] at g2; cases g2
    have hls : l ≠ s := fun z => by rw [z, g2] at hl; cases hl
    walk_at "w"
    intro s2 dx2 ns nd ne
    have e1 := same_make (o := .ins (He.ga K "Simulation") dx2 []) (u := .own s2) (Same.refl H) ns nd
    have x1 := upd_same (H := upd H dx2 (.own s2)) (a := s2) (o := .ins (He.ga K "Simulation") dx2 [])
    generalize upd (upd H dx2 _) s2 _ = H1 at *
    refine ⟨H, s2, t, dx2, pz, ds, p, rfl, e1, ns, x1, g1.same S.sm, c2.tk (TK.same e1), fun H2 rl bl dl S2 => ⟨rfl, ?_⟩⟩
    obtain ⟨dxs, ob2⟩ := S2.obj
    walk_at "w"
    refine ⟨H, s2, rl, bl, dl, t, l, ds, p, xs, ss, rfl, S2, hO, hP, hl, hx, by omega, hS, fun i k hrun H3 v e3 hv => ?_, fun q hrun H3 S3 => ?_⟩
    · obtain ⟨a, x, y, rfl, a1, a2, a3⟩ := hv.two_inv
      have := a2.int_inv
      subst this
      walk_at "w"
      refine st_mkO ?_
      walk_at "w"
      refine st_mkB fun d nd => ?_
      exact k1 i k hrun _ d _ y (e3.trans (Same.new nd)) (Same.none e3 nd) upd_same rfl (a3.tk (TK.new nd))
    · have g23 := S3.sm _ _ g2
      have g33 := S3.sm _ _ g3
      have hl3 := S3.sm _ _ hl
      have hB1 : Same B (wo (wo H s) hi) := wo2_of S.sm S.s0 S.h0
      have S3' := S3.base wo2_same (g1.same hB1)
      have ob3 := S3.obj
      have n1 : s2 ≠ hi := fun z => by rw [← z, S3.s0] at g3; cases g3
      have n2 : rl ≠ hi := fun z => by rw [← z, S3.r0] at g3; cases g3
      have n3 : bl ≠ hi := fun z => by rw [← z, S3.b0] at g3; cases g3
      have n4 : dl ≠ hi := fun z => by rw [← z, S3.d0] at g3; cases g3
      have k1 : s2 ≠ s := fun z => by rw [← z, S3.s0] at g2; cases g2
      have k3 : rl ≠ s := fun z => by rw [← z, S3.r0] at g2; cases g2
      have k4 : bl ≠ s := fun z => by rw [← z, S3.b0] at g2; cases g2
      have k5 : dl ≠ s := fun z => by rw [← z, S3.d0] at g2; cases g2
      have zs : (wo (wo H s) hi) s = none := by rw [wo_ne hnhi, wo_self]
      walk_at "w"
      have hlen3 : hs.length = hist.length := by rw [g6.len, List.length_map]
      refine st_append g33 (by omega) ?_
      have S4 := S3'.mut (o := .lst (hs ++ [.ref c])) wo_self n1 n2 n3 n4
      have kA : Kp2 s hi H (upd H3 hi (.lst (hs ++ [.ref c]))) := (Kp2.same S3.sm).trans (Kp2.two Kp1.refl.upd)
      have g24 := (upd_ne (H := H3) (o := .lst (hs ++ [.ref c])) hnhi).trans g23
      have g34 := upd_same (H := H3) (a := hi) (o := .lst (hs ++ [.ref c]))
      have hl4 := (upd_ne (H := H3) (o := .lst (hs ++ [.ref c])) hlh).trans hl3
      generalize upd H3 hi _ = H4 at *
      obtain ⟨dx4, ob4⟩ := S4.obj
      walk_at "w"
      refine ⟨_, s2, rl, bl, dl, t, ds, q, _, rfl, S4, fun H5 u e5 hu => ?_⟩
      have kB := kA.trans (Kp2.same e5)
      have g25 := e5 _ _ g24
      have g35 := e5 _ _ g34
      have hl5 := e5 _ _ hl4
      have S5 := S4.same e5
      walk_at "w"
      intro tp ntp
      have e6 := Same.new ntp (o := .tup xs)
      have tp6 := upd_same (H := H5) (a := tp) (o := .tup xs)
      have S6 := S5.same e6
      have kC := kB.trans (Kp2.same e6)
      have hu6 := hu.tk (TK.same e6)
      generalize upd H5 tp _ = H6 at *
      have tC := kC.tk g2 g3
      walk_at "w"
      refine st_catIm (xd := made.map dStep) (yd := ss.map dStep) (c3.tk tC) (.tup (SqT.of tp6) (hx.tk tC)) (by rw [List.length_map, List.length_map]; omega) fun H7 z e7 hz => ?_
      rw [← List.map_append] at hz
      walk_at "w"
      intro cc ncc
      have e8 := e7.trans (Same.new ncc (o := .tup [u, z]))
      have c8 := upd_same (H := H7) (a := cc) (o := .tup [u, z])
      have hu8 := hu6.tk (TK.same e8)
      have hz8 := hz.tk (TK.new ncc (o := .tup [u, z]))
      generalize upd H7 cc _ = H8 at *
      have kD := kC.trans (Kp2.same e8)
      have S8 := S6.same e8
      have g28 := e8 _ _ (e6 _ _ g25)
      have g38 := e8 _ _ (e6 _ _ g35)
      walk_at "w"
      refine st_sfldQ (gs := [("house", hv), ("tree", .ref t), ("current", .ref cc), ("history", .ref hi)]) g28 (c_Session T) (a_Session_current T) (show 4 < 1000 by decide) rfl ?_
      have S9 := S8.mut (x := s) (o := .ins (He.ga K "Session") dx [("house", hv), ("tree", .ref t), ("current", .ref cc), ("history", .ref hi)]) zs k1 k3 k4 k5
      have kE : Kp2 s hi H (upd H8 s (.ins (He.ga K "Session") dx [("house", hv), ("tree", .ref t), ("current", .ref cc), ("history", .ref hi)])) := kD.trans (Kp2.one Kp1.refl.upd)
      have g29 := upd_same (H := H8) (a := s) (o := .ins (He.ga K "Session") dx [("house", hv), ("tree", .ref t), ("current", .ref cc), ("history", .ref hi)])
      have g39 := (upd_ne (H := H8) (o := .ins (He.ga K "Session") dx [("house", hv), ("tree", .ref t), ("current", .ref cc), ("history", .ref hi)]) hnhi.symm).trans g38
      have t9 : TK H8 (upd H8 s (.ins (He.ga K "Session") dx [("house", hv), ("tree", .ref t), ("current", .ref cc), ("history", .ref hi)])) := TK.ins g28
      generalize upd H8 s _ = H9 at *
      obtain ⟨dx9, ob9⟩ := S9.obj
      walk_at "w"
      refine ⟨_, s2, rl, bl, dl, t, ds, q, _, rfl, S9, fun HA u2 eA hu2 => ?_⟩
      have kF := kE.trans (Kp2.same eA)
      have tF := kF.tk g2 g3
      refine k2 q hrun HA u2 kF ⟨Same.kp2 S.sm S.s0 S.h0 kF, S.s0, S.h0, dx, t, hv, .ref cc, hs ++ [.ref c], g1, eA _ _ g29, eA _ _ g39, g4.tk tF, ?_, ?_⟩ hu2
      · exact (Im.two (SqT.of c8) hu8 hz8).tk (t9.trans (TK.same eA))
      · rw [List.map_append]
        exact (g6.tk tF).append (.one (g5.tk tF))
abbrev N_x_go : List Str := ["self", "person", "room", "state", "made", "start"]
theorem sc_x_go : FnScope N_x_go ["self", "person", "room"] (defScope S_x_go) := ⟨rfl, rfl, rfl, by decide +kernel, rfl, by decide +kernel, by decide +kernel⟩
-- import D_mb_init
def sp_x_go (K : PySem.W.Frag) : Sp := fun vs H Q E => ∃ (B : Hp) (s hi : Addr) (ds : List Door) (p : PosD) (made : List Stp) (hist : List (PosD × List Stp)) (a b : Nat), vs = [.ref s, vI a, vI b] ∧ SessAt K B H s hi ds p made hist ∧ HouseOk ds ∧ PosOk ds p ∧
  a < p.1.length ∧ b < ds.length + 1 ∧ made.length ≤ 400 ∧ hist.length ≤ 400 ∧
  (∀ k : Bool, (doorOf ds (p.1.getD a 0) b = none ∧ k = true ∨ (∃ i, doorOf ds (p.1.getD a 0) b = some i ∧ p.2.getD i 0 = a) ∧ k = false) →
    ∀ H' d v r, Same H H' → H d = none → H' d = some (.xd [("reason", r), ("index", v)]) → v = vI made.length → Im K H' r (dWord k) → E (.ref (He.ga K "MoveBlocked")) (some d) H') ∧
  (∀ i, doorOf ds (p.1.getD a 0) b = some i → p.2.getD i 0 ≠ a → ∀ H' u, Kp2 s hi H H' → SessAt K B H' s hi ds (mv ds p (a, p.1.getD a 0, b)) (made ++ [(a, p.1.getD a 0, b)]) (hist ++ [(p, made)]) → Im K H' u (dPos (mv ds p (a, p.1.getD a 0, b))) → Q u H')
set_option maxHeartbeats 4000000 in
theorem ok_x_go {P : Program} {w : World} {K : PySem.W.Frag} {mg : Str → Option Value} {base : Heap} (T : Tx K mg) : Ok P w K mg base (L2.CX P w) 6 d_x_go ["self", "person", "room"] (sp_x_go K) := by
  refine (f_x_go T).ok sc_x_go (fun vs H Q E h => ?_) (fun cdv A outer s H vs Q E hr h => ?_)
  · obtain ⟨B, s, hi, ds, p, made, hist, a, b, rfl, _⟩ := h
    rfl
  · obtain ⟨B, s, hi, ds, p, made, hist, a, b, rfl, S, hO, hP, ha, hb, h4, h5, k1, k2⟩ := h
    obtain ⟨dx, t, hv, cv, hs, g1, g2, g3, g4, g5, g6⟩ := S.ex
    obtain ⟨c, pz, mz, rfl, c1, c2, c3⟩ := g5.two_inv
    obtain ⟨m, ms, rfl, m1, m2⟩ := c3.tup_inv
    obtain ⟨pa, ra, ba, rfl, q1, q2, q3⟩ := c2.pos_inv
    have hml : ms.length = made.length := by rw [m2.len, List.length_map]
    have hst : p.1.getD a 0 < ds.length + 1 := hP.room a _ (get_of ha)
    obtain ⟨dxt, la, tv, rs, t1, t2, t3, t4⟩ := (g1.same S.sm).ex
    refine ⟨_, (pss_cons (ps_asg (pe_fld (pv 0) rfl) (pg_tup rfl (pgs_cons (pg_name (i := 3) sc_x_go.nd rfl (Or.inl rfl)) (pgs_cons (pg_name (i := 4) sc_x_go.nd rfl (Or.inl rfl)) pgs_nil))))
      (pss_cons (ps_expr (pe_call (ok_require_person T) (hr.mono (by decide)) (by rfl) (g_require_person T) (f_require_person T).kp (b_require_person T) .nil pass0 (pa_cons (pv 3) (pa_cons (pv 1) pa_nil))))
      (pss_cons (ps_expr (pe_call (ok_require_room T) (hr.mono (by decide)) (by rfl) (g_require_room T) (f_require_room T).kp (b_require_room T) .nil pass0 (pa_cons (pe_fld (pv 0) rfl) (pa_cons (pv 2) pa_nil))))
      (pss_cons (ps_set (i := 5) sc_x_go.nd rfl (Or.inl rfl) (pe_ix ix_tup (pe_ix ix_tup (pv 3) pe_int (fun _ _ => rfl)) (pv 1) (fun _ _ => rfl)))
      (pss_cons (ps_if (pt_cmp (pc_dnotin (room1 hr) (pv 2) (pe_ix ix_list (pe_fld (pe_fld (pv 0) rfl) rfl) (pv 5) (fun _ _ => rfl)))) (pss_one (ps_raise rfl (takes_of rfl rfl rfl rfl) (pmk_oex (exOne_ok T.exs.mb).1 T.exs.iM T.exs.tM (ok_mb_init T) (hr.mono (by decide)) (b_mb_init T) .nil pass0 (by rfl) (g_MoveBlocked T) (pa_cons (pe_callB call_lenA (by rfl) (n_len T) bt_len (pa_cons (pv 4) pa_nil)) (pa_cons (pe_tup (pa_cons pe_str pa_nil)) pa_nil))))) pss_nil)
      (pss_cons (ps_if (pt_cmpR op_eq (pe_ix ix_tup (pe_ix ix_tup (pv 3) pe_int (fun _ _ => rfl)) (pe_meth (pe_fld (pv 0) rfl) (c_Tree T) (m_Tree_door_between T) (ok_t_door_between T) (hr.mono (by decide)) (b_t_door_between T) .nil pass0 (pa_cons (pv 5) (pa_cons (pv 2) pa_nil))) (fun _ _ => rfl)) (pv 1) (nomark _)) (pss_one (ps_raise rfl (takes_of rfl rfl rfl rfl) (pmk_oex (exOne_ok T.exs.mb).1 T.exs.iM T.exs.tM (ok_mb_init T) (hr.mono (by decide)) (b_mb_init T) .nil pass0 (by rfl) (g_MoveBlocked T) (pa_cons (pe_callB call_lenA (by rfl) (n_len T) bt_len (pa_cons (pv 4) pa_nil)) (pa_cons (pe_tup (pa_cons pe_str pa_nil)) pa_nil))))) pss_nil)
      (pss_one (ps_ret (pe_meth (pv 0) (c_Session T) (m_Session_advance T) (ok_x_advance T) (hr.mono (by decide)) (b_x_advance T) .nil (passes_call (takes_of rfl rfl rfl rfl) (fun _ _ _ _ h => h)) (pa_cons (pe_lst (pa_cons (pe_tup (pa_cons (pv 1) (pa_cons (pv 5) (pa_cons (pv 2) pa_nil)))) pa_nil)) pa_nil)))))))))), ?_⟩
    try dsimp only [cxOf, Cx.nox, Cx.wish]
    have hstart : ∀ a0 a1 a2 : V, L2.start N_x_go [a0, a1, a2] = [some a0, some a1, some a2, none, none, none] := fun _ _ _ => rfl
    rw [hstart]
    clear hstart
    walk_at "w"
    refine ⟨_, p, a, rfl, c2, ha, ?_⟩
    walk_at "w"
    refine ⟨hv, ds, b, rfl, g4, hb, ?_⟩
    walk_at "w"
    refine st_ixT q2 (at_map ha) ?_
    walk_at "w"
    rw [show (p, made).1.1.getD a 0 = p.1.getD a 0 from rfl]
    obtain ⟨r, hr1⟩ : ∃ r, rs[p.1.getD a 0]? = some r := ⟨rs[p.1.getD a 0], List.getElem?_eq_getElem (by omega)⟩
    obtain ⟨kvs, r1, r2⟩ := t4 _ r hr1
    have g1H := g1.same S.sm
    refine st_dnin ?_
    walk_at "w"
    refine st_ixL (SqL.of t2) (atI_nat (by rw [List.getElem?_map, hr1]; rfl)) ?_
    refine st_dinI r1 ?_
    rw [r2]
    cases hd : doorOf ds (p.1.getD a 0) b with
    | none =>
      refine st_blV (iteT ?_)
      refine st_mkO ?_
      walk_at "w"
      intro w nw
      walk_at "w"
      refine st_mkB fun d nd => ?_
      have e2 := (Same.new nw (o := .tup [.str "away"])).trans (Same.new nd (o := .xd [(("reason" : Str), .ref w), (("index" : Str), .int (ms.length : Int))]))
      refine k1 true (.inl ⟨hd, rfl⟩) _ d _ _ e2 (Same.none (Same.new nw) nd) upd_same (by rw [hml]) (.tup (xs := [.str "away"]) (SqT.of (by rw [upd_ne (fun z => by rw [z, upd_same] at nd; cases nd), upd_same])) (.cons (.str _) .nil))
    | some i =>
      obtain ⟨l1, l2, l3, l4⟩ := hO.lt hd
      refine st_blV (iteF ?_)
      walk_at "w"
      refine ⟨t, ds, _, b, i, rfl, g1H, hst, hd, ?_⟩
      walk_at "w"
      refine st_ixT q3 (at_map (by rw [hP.bl]; exact l4)) ?_
      walk_at "w"
      by_cases hbar : p.2.getD i 0 = a
      · refine iteDT (show ((p.2.getD i 0 : Nat) : Int) = (a : Int) by omega) ?_
        refine st_mkO ?_
        walk_at "w"
        intro w nw
        walk_at "w"
        refine st_mkB fun d nd => ?_
        have e2 := (Same.new nw (o := .tup [.str "barred"])).trans (Same.new nd (o := .xd [(("reason" : Str), .ref w), (("index" : Str), .int (ms.length : Int))]))
        refine k1 false (.inr ⟨⟨i, hd, hbar⟩, rfl⟩) _ d _ _ e2 (Same.none (Same.new nw) nd) upd_same (by rw [hml]) (.tup (xs := [.str "barred"]) (SqT.of (by rw [upd_ne (fun z => by rw [z, upd_same] at nd; cases nd), upd_same])) (.cons (.str _) .nil))
      · refine iteDF (show ¬ ((p.2.getD i 0 : Nat) : Int) = (a : Int) by omega) ?_
        walk_at "w"
        intro w nw
        have e2 := Same.new nw (o := .tup [vI a, vI (p.1.getD a 0), vI b])
        have w2 := upd_same (H := H) (a := w) (o := .tup [vI a, vI (p.1.getD a 0), vI b])
        generalize upd H w _ = H2 at *
        walk_at "w"
        intro l nl
        have e3' := Same.new nl (o := .lst [.ref w])
        have e3 := e2.trans e3'
        have l3' := upd_same (H := H2) (a := l) (o := .lst [.ref w])
        have w3 := e3' _ _ w2
        generalize upd H2 l _ = H3 at *
        have hbl : bl ds p (a, p.1.getD a 0, b) = none := by
          unfold bl doorI
          simp only [if_pos]
          rw [hd]
          exact if_neg hbar
        have hrun : runS ds p [(a, p.1.getD a 0, b)] 0 = .inr (mv ds p (a, p.1.getD a 0, b)) := runS_none hbl
        refine ⟨B, s, hi, l, _, ds, p, made, hist, [(a, p.1.getD a 0, b)], rfl, S.same e3, hO, hP, l3', fun z => (by rw [z, e2 _ _ g3] at nl; cases nl), .cons (.step (SqT.of w3)) .nil, (show 1 ≤ 200 by decide), h4, h5, fun x hx => ?_, fun i2 k hr => ?_, fun q hq H' u e4 => ?_⟩
        · rw [List.mem_singleton.mp hx]
          exact ⟨ha, i, hd⟩
        · rw [hrun] at hr; cases hr
        · rw [hrun] at hq
          cases hq
          exact k2 i hd hbar H' u ((Kp2.same e3).trans e4)
abbrev N_is_move : List Str := ["house", "people", "value", "part"]
theorem sc_is_move : FnScope N_is_move ["house", "people", "value"] (defScope S_is_move) := ⟨rfl, rfl, rfl, by decide +kernel, rfl, by decide +kernel, by decide +kernel⟩
def sp_is_move (K : PySem.W.Frag) : Sp := fun vs H Q _ => ∃ (v w : V) (ds : List Door) (n : Nat) (s : Stp), vs = [v, vI n, w] ∧ Im K H v (dDoors ds) ∧ HouseOk ds ∧ Im K H w (dStep s) ∧ StepOk ds n s ∧ ∀ H', Same H H' → Q (.bl true) H'
set_option maxHeartbeats 4000000 in
theorem ok_is_move {P : Program} {w : World} {K : PySem.W.Frag} {mg : Str → Option Value} {base : Heap} (T : Tx K mg) : Ok P w K mg base CX0 3 d_is_move ["house", "people", "value"] (sp_is_move K) := by
  refine (f_is_move T).ok sc_is_move (fun vs H Q E h => ?_) (fun cdv A outer s H vs Q E hr h => ?_)
  · obtain ⟨v, w, ds, n, s, rfl, _⟩ := h
    rfl
  · obtain ⟨v, w, ds, n, s, rfl, hv, hO, hw, hS, k⟩ := h
    obtain ⟨a, xs, rfl, ha, hx⟩ := hv.tup_inv
    obtain ⟨b, rfl, hb⟩ := hw.step_inv
    have hl : xs.length = ds.length := by rw [hx.len, List.length_map]
    refine ⟨_, PSs.nox (pss_cons (ps_if (PW.pt (pw_or (pt_not (pt_val (pe_callB call_isi (by rfl) (n_isinstance T) bt_isinstance (pa_cons (pv 2) (pa_cons (pe_bltn (v := .ty "tuple") (by rfl) (n_tuple T) bt_tuple rfl) pa_nil))))) (pw_or (pt_cmpR op_ne (pe_callB call_lenA (by rfl) (n_len T) bt_len (pa_cons (pv 2) pa_nil)) pe_int (nomark _)) (pw_or1 (pt_not (pt_val (pe_callB (cr_all rfl) (by rfl) (n_all T) bt_all (pa_cons (pe_lc (own := [("part", 3)]) rfl sc_is_move.nd (pi_tup (pv 2)) (blkOk_by (own := [("part", 3)]) (N := N_is_move) (sc := defScope S_is_move) (by decide +kernel)) (fun _ _ _ _ _ => pg_name (i := 3) sc_is_move.nd rfl (Or.inl rfl)) (fun _ _ _ _ _ => pts_nil) (fun _ _ _ _ _ => (pe_call (ok_is_whole T) (hr.mono (by decide)) (by rfl) (g_is_whole T) (f_is_whole T).kp (b_is_whole T) .nil pass0 (pa_cons (pv 3) pa_nil)))) pa_nil)))))))) (pss_one (ps_ret pe_bl)) pss_nil)
      (pss_one (ps_ret (pe_and (pe_cmpR op_lt (pe_ix ix_tup (pv 2) pe_int (fun _ _ => rfl)) (pv 1) (nomark _)) (pe_one (pe_or (pe_cmpR (op_inTD (room65 hr)) (pe_slice sl_tupA (pv 2) (po_some pe_int) po_none) (pv 0) (by rfl)) (pe_one (pe_cmpR (op_inTD (room65 hr)) (pe_slice3 (pv 2) po_none (po_some pe_int) (pe_un un_neg pe_int)) (pv 0) (by rfl))))))))), ?_⟩
    try dsimp only [cxOf, Cx.nox, Cx.wish]
    have hstart : ∀ a0 a1 a2 : V, L2.start N_is_move [a0, a1, a2] = [some a0, some a1, some a2, none] := fun _ _ _ => rfl
    rw [hstart]
    clear hstart
    walk_at "go"
    refine ⟨_, rfl, b, rfl, ⟨_, hb⟩, fun Dl nD => lc_mapT (K := K) (a := b) (fun _ => .bl true) nD hb (by simp) (fun x => rfl) ?_ ?_⟩
    · intro x H2 Q2 hxm sm kq
      have hx : ∃ z : Nat, x = vI z := by
        rcases List.mem_cons.mp hxm with rfl | hxm
        · exact ⟨_, rfl⟩
        rcases List.mem_cons.mp hxm with rfl | hxm
        · exact ⟨_, rfl⟩
        rw [List.mem_singleton.mp hxm]
        exact ⟨_, rfl⟩
      obtain ⟨z, rfl⟩ := hx
      walk_at "go"
      refine ⟨_, rfl, ?_⟩
      rw [decide_eq_true (show (0 : Int) ≤ (z : Int) by omega)]
      exact kq
    · intro H2 sm hD
      have hb2 := (TK.same sm).seq hb
      have hv2 := hv.tk (TK.same sm)
      walk_at "go"
      refine st_allT (SqL.of hD) ?_
      walk_at "go"
      obtain ⟨h1, i, hi⟩ := hS
      rw [decide_eq_true (show (s.1 : Int) < (n : Int) by omega)]
      walk_at "go"
      refine st_sl13 hb2 fun c nc => ?_
      walk_at "go"
      have hin : (s.2.1, s.2.2) ∈ ds ∨ (s.2.2, s.2.1) ∈ ds := by
        obtain ⟨d, h1, h2⟩ := doorOf_get hi
        have hm := List.mem_of_getElem? h1
        rcases isD_iff.mp h2 with rfl | rfl
        · exact .inl hm
        · exact .inr hm
      refine st_inTD (d := dPair (s.2.1, s.2.2)) (Im.pair (SqT.of upd_same)) (hv2.tk (TK.new nc)) (Sh.pair _) (Sh.doors ds) (by decide) (by decide) ?_
      rw [any_pair]
      by_cases hc : (s.2.1, s.2.2) ∈ ds
      · refine st_blV (iteDT hc ?_)
        exact k _ (sm.trans (Same.new nc))
      · refine st_blV (iteDF hc ?_)
        walk_at "go"
        have hb3 := (TK.new nc (o := .tup [vI s.2.1, vI s.2.2])).seq hb2
        walk_at "go"
        refine st_sl3b hb3 fun d nd => ?_
        walk_at "go"
        refine st_inTD (d := dPair (s.2.2, s.2.1)) (Im.pair (SqT.of upd_same)) ((hv2.tk (TK.new nc)).tk (TK.new nd)) (Sh.pair _) (Sh.doors ds) (by decide) (by decide) ?_
        rw [any_pair, decide_eq_true (hin.resolve_left hc)]
        exact k _ ((sm.trans (Same.new nc)).trans (Same.new nd))
abbrev N_plan_fault : List Str := ["house", "people", "value", "index", "move"]
theorem sc_plan_fault : FnScope N_plan_fault ["house", "people", "value"] (defScope S_plan_fault) := ⟨rfl, rfl, rfl, by decide +kernel, rfl, by decide +kernel, by decide +kernel⟩
def sp_plan_fault (K : PySem.W.Frag) : Sp := fun vs H Q _ => ∃ (v : V) (l : Addr) (xs : List V) (ds : List Door) (n : Nat) (ss : List Stp), vs = [v, vI n, .ref l] ∧ Im K H v (dDoors ds) ∧ HouseOk ds ∧ H l = some (.lst xs) ∧ ImAll K H xs (ss.map dStep) ∧ (∀ s ∈ ss, StepOk ds n s) ∧ ∀ H', Same H H' → Q .non H'
set_option maxHeartbeats 4000000 in
theorem ok_plan_fault {P : Program} {w : World} {K : PySem.W.Frag} {mg : Str → Option Value} {base : Heap} (T : Tx K mg) : Ok P w K mg base CX0 4 d_plan_fault ["house", "people", "value"] (sp_plan_fault K) := by
  refine (f_plan_fault T).ok sc_plan_fault (fun vs H Q E h => ?_) (fun cdv A outer s H vs Q E hr h => ?_)
  · obtain ⟨v, l, xs, ds, n, ss, rfl, _⟩ := h
    rfl
  · obtain ⟨v, l, xs, ds, n, ss, rfl, hv, hO, hl, hx, hS, k⟩ := h
    refine ⟨_, PSs.nox (pss_cons (ps_if (pt_not (pt_val (pe_callB call_isi (by rfl) (n_isinstance T) bt_isinstance (pa_cons (pv 2) (pa_cons (pe_bltn (v := .ty "list") (by rfl) (n_list T) bt_list rfl) pa_nil))))) (pss_one (ps_ret (pe_tup (pa_cons pe_str pa_nil)))) pss_nil)
      (pss_cons (ps_for PassesOwn.never rfl (pi_enum (by rfl) (n_enumerate T) (pa_cons (pv 2) pa_nil)) (pg_tup rfl (pgs_cons (pg_name (i := 3) sc_plan_fault.nd rfl (Or.inl rfl)) (pgs_cons (pg_name (i := 4) sc_plan_fault.nd rfl (Or.inl rfl)) pgs_nil))) (pss_one (ps_if (pt_not (pt_val (pe_call (ok_is_move T) (hr.mono (by decide)) (by rfl) (g_is_move T) (f_is_move T).kp (b_is_move T) .nil pass0 (pa_cons (pv 0) (pa_cons (pv 1) (pa_cons (pv 4) pa_nil)))))) (pss_one (ps_ret (pe_tup (pa_cons pe_str (pa_cons (pv 3) pa_nil))))) pss_nil)))
      (pss_one (ps_ret pe_non)))), ?_⟩
    try dsimp only [cxOf, Cx.nox, Cx.wish]
    have hstart : ∀ a0 a1 a2 : V, L2.start N_plan_fault [a0, a1, a2] = [some a0, some a1, some a2, none, none] := fun _ _ _ => rfl
    rw [hstart]
    clear hstart
    walk_at "go"
    refine st_isiLL hl ?_
    walk_at "go"
    refine ⟨_, rfl, l, xs, rfl, SqL.of hl, for_enumL (K := K) (a := l) (xs := xs) (fun i σ H' => ∃ (v1 v2 : Option V), σ = [some v, some (vI n), some (.ref l), v1, v2] ∧ Same H H') ?_ ?_ ?_ ?_⟩
    · exact ⟨none, none, rfl, Same.refl _⟩
    · rintro i σ H' _ ⟨v1, v2, _, sm⟩
      exact SqL.of (sm _ _ hl)
    · rintro i x σ H' hi ⟨v1, v2, rfl, sm⟩ U nU
      obtain ⟨dd, hdd, him⟩ := hx.get' hi
      rw [List.getElem?_map] at hdd
      obtain ⟨d, hd, rfl⟩ := Option.map_eq_some_iff.mp hdd
      have sm1 := sm.trans (Same.new nU (o := .tup [.int (i : Nat), x]))
      walk_at "go"
      refine ⟨v, x, ds, n, d, rfl, hv.tk (TK.same sm1), hO, him.tk (TK.same sm1), hS d (List.mem_of_getElem? hd), fun H2 sm2 => ?_⟩
      walk_at "go"
      exact ⟨_, _, rfl, sm1.trans sm2⟩
    · rintro σ H' ⟨v1, v2, rfl, sm⟩
      walk_at "go"
      exact k _ sm
abbrev N_require_plan : List Str := ["house", "people", "plan", "reason"]
theorem sc_require_plan : FnScope N_require_plan ["house", "people", "plan"] (defScope S_require_plan) := ⟨rfl, rfl, rfl, by decide +kernel, rfl, by decide +kernel, by decide +kernel⟩
def sp_require_plan (K : PySem.W.Frag) : Sp := fun vs H Q _ => ∃ (v : V) (l : Addr) (xs : List V) (ds : List Door) (n : Nat) (ss : List Stp), vs = [v, vI n, .ref l] ∧ Im K H v (dDoors ds) ∧ HouseOk ds ∧ H l = some (.lst xs) ∧ ImAll K H xs (ss.map dStep) ∧ (∀ s ∈ ss, StepOk ds n s) ∧ ∀ H', Same H H' → Q .non H'
set_option maxHeartbeats 4000000 in
theorem ok_require_plan {P : Program} {w : World} {K : PySem.W.Frag} {mg : Str → Option Value} {base : Heap} (T : Tx K mg) : Ok P w K mg base CX0 5 d_require_plan ["house", "people", "plan"] (sp_require_plan K) := by
  refine (f_require_plan T).ok sc_require_plan (fun vs H Q E h => ?_) (fun cdv A outer s H vs Q E hr h => ?_)
  · obtain ⟨v, l, xs, ds, n, ss, rfl, _⟩ := h
    rfl
  · obtain ⟨v, l, xs, ds, n, ss, rfl, hv, hO, hl, hx, hS, k⟩ := h
    refine ⟨_, PSs.nox (pss_cons (ps_set (i := 3) sc_require_plan.nd rfl (Or.inl rfl) (pe_call (ok_plan_fault T) (hr.mono (by decide)) (by rfl) (g_plan_fault T) (f_plan_fault T).kp (b_plan_fault T) .nil pass0 (pa_cons (pv 0) (pa_cons (pv 1) (pa_cons (pv 2) pa_nil)))))
      (pss_one (ps_if (pt_cmpR op_notN1 (pv 3) pe_non (nomark _)) (pss_one ps_never) pss_nil))), ?_⟩
    try dsimp only [cxOf, Cx.nox, Cx.wish]
    have hstart : ∀ a0 a1 a2 : V, L2.start N_require_plan [a0, a1, a2] = [some a0, some a1, some a2, none] := fun _ _ _ => rfl
    rw [hstart]
    clear hstart
    walk_at "go"
    refine ⟨_, l, xs, ds, n, ss, rfl, hv, hO, hl, hx, hS, fun H2 sm2 => ?_⟩
    walk_at "go"
    exact k _ sm2
abbrev N_x_play : List Str := ["self", "plan"]
theorem sc_x_play : FnScope N_x_play ["self", "plan"] (defScope S_x_play) := ⟨rfl, rfl, rfl, by decide +kernel, rfl, by decide +kernel, by decide +kernel⟩
def sp_x_play (K : PySem.W.Frag) : Sp := sp_x_advance K
set_option maxHeartbeats 4000000 in
theorem ok_x_play {P : Program} {w : World} {K : PySem.W.Frag} {mg : Str → Option Value} {base : Heap} (T : Tx K mg) : Ok P w K mg base (L2.CX P w) 6 d_x_play ["self", "plan"] (sp_x_play K) := by
  refine (f_x_play T).ok sc_x_play (fun vs H Q E h => ?_) (fun cdv A outer s H vs Q E hr h => ?_)
  · obtain ⟨B, s, hi, l, xs, ds, p, made, hist, ss, rfl, _⟩ := h
    rfl
  · obtain ⟨B, s, hi, l, xs, ds, p, made, hist, ss, rfl, S, hO, hP, hl, hlh, hx, h2, h4, h5, hS, k1, k2⟩ := h
    obtain ⟨dx, t, hv, cv, hs, g1, g2, g3, g4, g5, g6⟩ := S.ex
    obtain ⟨c, pz, mz, rfl, c1, c2, c3⟩ := g5.two_inv
    obtain ⟨pa, ra, ba, rfl, q1, q2, q3⟩ := c2.pos_inv
    refine ⟨_, (pss_cons (ps_expr (pe_call (ok_require_plan T) (hr.mono (by decide)) (by rfl) (g_require_plan T) (f_require_plan T).kp (b_require_plan T) .nil pass0 (pa_cons (pe_fld (pv 0) rfl) (pa_cons (pe_callB call_lenA (by rfl) (n_len T) bt_len (pa_cons (pe_ix ix_tup (pe_ix ix_tup (pe_fld (pv 0) rfl) pe_int (fun _ _ => rfl)) pe_int (fun _ _ => rfl)) pa_nil)) (pa_cons (pv 1) pa_nil)))))
      (pss_one (ps_ret (pe_meth (pv 0) (c_Session T) (m_Session_advance T) (ok_x_advance T) (hr.mono (by decide)) (b_x_advance T) .nil (passes_call (takes_of rfl rfl rfl rfl) (fun _ _ _ _ h => h)) (pa_cons (pv 1) pa_nil))))), ?_⟩
    try dsimp only [cxOf, Cx.nox, Cx.wish]
    have hstart : ∀ a0 a1 : V, L2.start N_x_play [a0, a1] = [some a0, some a1] := fun _ _ => rfl
    rw [hstart]
    clear hstart
    walk_at "w"
    refine ⟨hv, l, xs, ds, p.1.length, ss, by rw [List.length_map]; rfl, g4, hO, hl, hx, hS, fun H1 e1 => ?_⟩
    have g21 := e1 _ _ g2
    walk_at "w"
    refine ⟨B, s, hi, l, xs, ds, p, made, hist, ss, rfl, S.same e1, hO, hP, e1 _ _ hl, hlh, hx.tk (TK.same e1), h2, h4, h5, hS, fun i k hr H' d v r e2 nd => k1 i k hr H' d v r (e1.trans e2) (Same.none e1 nd), fun q hq H' u e2 => k2 q hq H' u ((Kp2.same e1).trans e2)⟩
abbrev N_x_undo : List Str := ["self"]
theorem sc_x_undo : FnScope N_x_undo ["self"] (defScope S_x_undo) := ⟨rfl, rfl, rfl, by decide +kernel, rfl, by decide +kernel, by decide +kernel⟩
def sp_x_undo (K : PySem.W.Frag) : Sp := fun vs H Q E => ∃ (B : Hp) (s hi : Addr) (ds : List Door) (p : PosD) (made : List Stp) (hist : List (PosD × List Stp)), vs = [.ref s] ∧ SessAt K B H s hi ds p made hist ∧
  (hist = [] → ∀ H', Same H H' → E (.ref (He.ga K "NothingToUndo")) none H') ∧ (∀ h0 q m, hist = h0 ++ [(q, m)] → ∀ H', Kp2 s hi H H' → SessAt K B H' s hi ds q m h0 → Q .non H')
set_option maxHeartbeats 4000000 in
theorem ok_x_undo {P : Program} {w : World} {K : PySem.W.Frag} {mg : Str → Option Value} {base : Heap} (T : Tx K mg) : Ok P w K mg base (L2.CX P w) 2 d_x_undo ["self"] (sp_x_undo K) := by
  refine (f_x_undo T).ok sc_x_undo (fun vs H Q E h => ?_) (fun cdv A outer s H vs Q E hr h => ?_)
  · obtain ⟨B, s, hi, ds, p, made, hist, rfl, _⟩ := h
    rfl
  · obtain ⟨B, s, hi, ds, p, made, hist, rfl, S, k1, k2⟩ := h
    obtain ⟨dx, t, hv, cv, hs, g1, g2, g3, g4, g5, g6⟩ := S.ex
    have hlen3 : hs.length = hist.length := by rw [g6.len, List.length_map]
    have hnhi : s ≠ hi := fun z => by rw [z, g3] at g2; cases g2
    refine ⟨_, (pss_cons (ps_if (pt_cmpR (op_eqD hr.units) (pe_fld (pv 0) rfl) (pe_lst pa_nil) (nomark _)) (pss_one (ps_raise rfl (takes_of rfl rfl rfl rfl) (pmk_own0 PySem.F.excBase_ValueError (e_NothingToUndo T).1 (g_NothingToUndo T) (e_NothingToUndo T).2.1 (raises_own (e_NothingToUndo T).2.2.1 (e_NothingToUndo T).2.2.2) (by rfl)))) pss_nil)
      (pss_one (ps_fld (pv 0) (pe_bm0 PySem.F.plainAttrs_list PySem.F.slot_list_pop PySem.F.type_list_pop mt_pop (pe_fld (pv 0) rfl)) rfl))), ?_⟩
    try dsimp only [cxOf, Cx.nox, Cx.wish]
    have hstart : ∀ a0 : V, L2.start N_x_undo [a0] = [some a0] := fun _ => rfl
    rw [hstart]
    clear hstart
    walk_at "w"
    intro n nn
    have e1 := Same.new nn (o := .lst [])
    have n1 := upd_same (H := H) (a := n) (o := .lst [])
    generalize upd H n _ = H1 at *
    refine st_eqD (j := 4) (k := 1) (d := .list (hist.map dCur)) (e := .list []) (.lst (SqL.of (e1 _ _ g3)) ((g6.tk (TK.same e1)).dp)) (.lst (SqL.of n1) .nil) (Sh.lst fun d hd => ?_) (Sh.lst fun d hd => (by cases hd)) (by decide) (by decide) ?_
    · obtain ⟨z, _, rfl⟩ := List.mem_map.mp hd
      exact Sh.cur z
    · rcases List.eq_nil_or_concat hist with rfl | ⟨h0, z, rfl⟩
      · exact st_blV (iteT (k1 rfl H1 e1))
      · have en : PyData.eqv (.list ((h0 ++ [z]).map dCur)) (.list []) = false := by
          rw [List.map_append]
          cases h0.map dCur <;> simp [PyData.eqv, PyData.eqvAll]
        rw [List.concat_eq_append] at *
        rw [en]
        refine st_blV (iteF ?_)
        have g21 := e1 _ _ g2
        have g31 := e1 _ _ g3
        walk_at "w"
        have hl1 : hs.length = h0.length + 1 := by rw [hlen3, List.length_append]; rfl
        obtain ⟨y, y1, y2⟩ := g6.get (i := h0.length) (d := dCur z) (by rw [List.map_append, List.getElem?_append_right (by rw [List.length_map]; exact Nat.le_refl _), List.length_map, Nat.sub_self]; rfl)
        have yd := g6.dropLast
        rw [List.map_append, List.map_cons, List.map_nil, List.dropLast_concat] at yd
        refine ⟨hi, hs, y, rfl, rfl, g31, by rw [hl1]; exact y1, ?_⟩
        have k3 : Kp2 s hi H (upd H1 hi (.lst hs.dropLast)) := (Kp2.same e1).trans (Kp2.two Kp1.refl.upd)
        have g22 := (upd_ne (H := H1) (o := .lst hs.dropLast) hnhi).trans g21
        have g32 := upd_same (H := H1) (a := hi) (o := .lst hs.dropLast)
        generalize upd H1 hi _ = H2 at *
        walk_at "w"
        refine st_sfldQ (gs := [("house", hv), ("tree", .ref t), ("current", y), ("history", .ref hi)]) g22 (c_Session T) (a_Session_current T) (show 4 < 1000 by decide) rfl ?_
        have kE : Kp2 s hi H (upd H2 s (.ins (He.ga K "Session") dx [("house", hv), ("tree", .ref t), ("current", y), ("history", .ref hi)])) := k3.trans (Kp2.one Kp1.refl.upd)
        have tk := kE.tk g2 g3
        exact k2 h0 z.1 z.2 rfl _ kE ⟨Same.kp2 S.sm S.s0 S.h0 kE, S.s0, S.h0, dx, t, hv, y, _, g1, upd_same, by rw [upd_ne hnhi.symm]; exact g32, g4.tk tk, y2.tk tk, yd.tk tk⟩
abbrev N_l_call_action : List Str := ["_law_session", "_law_action", "_law_name", "_law_argument", "_law_error", "_law_result", "e"]
theorem sc_l_call_action : FnScope N_l_call_action ["_law_session", "_law_action"] (defScope S_l_call_action) := ⟨rfl, rfl, rfl, by decide +kernel, rfl, by decide +kernel, by decide +kernel⟩
-- import D_x_go
def sp_l_call_action (K : PySem.W.Frag) : Sp := fun vs H Q _ => ∃ (B : Hp) (s hi : Addr) (X : List Addr) (v : V) (ds : List Door) (st : Sta) (a : Act), vs = [.ref s, v] ∧ SessAt K B H s hi ds st.p st.made st.hist ∧ hi ∈ X ∧ HouseOk ds ∧ PosOk ds st.p ∧ st.made.length ≤ 400 ∧ st.hist.length ≤ 400 ∧ ActAt K H X v a ∧ ActOk ds st.p a ∧
  ∀ (H' : Hp) (q : Addr) (xs : List V), Kp2 s hi H H' → SessAt K B H' s hi ds (stepA ds st a).2.p (stepA ds st a).2.made (stepA ds st a).2.hist → H q = none → H' q = some (.lst xs) → ImAll K H' xs (dOut (stepA ds st a).1) → Q (.ref q) H'
set_option maxHeartbeats 4000000 in
theorem ok_l_call_action {P : Program} {w : World} {K : PySem.W.Frag} {mg : Str → Option Value} {base : Heap} (T : Tx K mg) : Ok P w K mg base CX0 7 d_l_call_action ["_law_session", "_law_action"] (sp_l_call_action K) := by
  refine (f_l_call_action T).ok sc_l_call_action (fun vs H Q E h => ?_) (fun cdv A outer s H vs Q E hr h => ?_)
  · obtain ⟨B, s, hi, X, v, ds, st, a, rfl, _⟩ := h
    rfl
  · obtain ⟨B, s, hi, X, v, ds, st, a, rfl, S, hX, hO, hP, h4, h5, hA, hAo, k⟩ := h
    refine ⟨_, PSs.nox (pss_cons (ps_asg (pv 1) (pg_tup rfl (pgs_cons (pg_name (i := 2) sc_l_call_action.nd rfl (Or.inl rfl)) (pgs_cons (pg_name (i := 3) sc_l_call_action.nd rfl (Or.inl rfl)) pgs_nil))))
      (pss_cons (ps_set (i := 4) sc_l_call_action.nd rfl (Or.inl rfl) pe_non)
      (pss_cons (ps_set (i := 5) sc_l_call_action.nd rfl (Or.inl rfl) pe_non)
      (pss_cons (ps_try_manyA (i := 6) (Wout := fun _ _ _ _ => False) (tb := (fun W => tIfS (tTest (tOp rEq (tVar 2) (tC (.str (Str.ofString "go"))))) (tAsg (tMethE (He.ga K "Session") "go" (sp_x_go K) (WE W) (tVar 0) (tCons (tOp (rIxT K) (tVar 3) (tC (.int 0))) (tCons (tOp (rIxT K) (tVar 3) (tC (.int 1))) tNil))) (gName 5))
        (tIfS (tTest (tOp rEq (tVar 2) (tC (.str (Str.ofString "play"))))) (tAsg (tMethE (He.ga K "Session") "play" (sp_x_play K) (WE W) (tVar 0) (tCons (tVar 3) tNil)) (gName 5)) (tAsg (tMethE (He.ga K "Session") "undo" (sp_x_undo K) (WE W) (tVar 0) tNil) (gName 5))))) rfl rfl rfl sc_l_call_action.nd rfl rfl takes0
      (fun W pn xe tk _ => (pss_one (ps_if (pt_cmpR op_eq (pv 2) pe_str (nomark _)) (pss_one (ps_set (i := 5) sc_l_call_action.nd rfl (Or.inl rfl) (pe_methE (pv 0) (c_Session T) (m_Session_go T) (ok_x_go T) (hr.mono (by decide)) (b_x_go T) (fun σ => passAt tk σ) (pa_cons (pe_ix ix_tup (pv 3) pe_int (fun _ _ => rfl)) (pa_cons (pe_ix ix_tup (pv 3) pe_int (fun _ _ => rfl)) pa_nil))))) (pss_one (ps_if (pt_cmpR op_eq (pv 2) pe_str (nomark _)) (pss_one (ps_set (i := 5) sc_l_call_action.nd rfl (Or.inl rfl) (pe_methE (pv 0) (c_Session T) (m_Session_play T) (ok_x_play T) (hr.mono (by decide)) (b_x_play T) (fun σ => passAt tk σ) (pa_cons (pv 3) pa_nil)))) (pss_one (ps_set (i := 5) sc_l_call_action.nd rfl (Or.inl rfl) (pe_methE0 (pv 0) (c_Session T) (m_Session_undo T) (ok_x_undo T) (hr.mono (by decide)) (b_x_undo T) (fun σ => passAt tk σ)))))))))
      (HdsOkA.cons (ts := fun _ _ _ => tAsg (tVar 6) (gName 4)) (hc := ⟨rfl, by decide, Or.inl (g_NothingToUndo T)⟩) (hsu := fun a oe cls d pn hz hf => pss_one (ps_set (i := 4) sc_l_call_action.nd rfl (Or.inl rfl) (pv 6))) (HdsOkA.cons (ts := fun _ _ _ => tAsg (tVar 6) (gName 4)) (hc := ⟨rfl, by decide, Or.inl (g_MoveBlocked T)⟩) (hsu := fun a oe cls d pn hz hf => pss_one (ps_set (i := 4) sc_l_call_action.nd rfl (Or.inl rfl) (pv 6))) HdsOkA.nil)))
      (pss_cons (ps_if (pt_val (pe_callB (call_isi.or call_isV) (by rfl) (n_isinstance T) bt_isinstance (pa_cons (pv 4) (pa_cons (pe_glob (v := .ref (He.ga K "NothingToUndo")) (by rfl) (g_NothingToUndo T) rfl) pa_nil)))) (pss_one (ps_ret (pe_lst (pa_cons pe_str pa_nil)))) pss_nil)
      (pss_cons (ps_if (pt_val (pe_callB (call_isi.or call_isV) (by rfl) (n_isinstance T) bt_isinstance (pa_cons (pv 4) (pa_cons (pe_glob (v := .ref (He.ga K "MoveBlocked")) (by rfl) (g_MoveBlocked T) rfl) pa_nil)))) (pss_one (ps_ret (pe_lst (pa_cons pe_str (pa_cons (pe_xfV (pv 4)) (pa_cons (pe_xfV (pv 4)) pa_nil)))))) pss_nil)
      (pss_one (ps_ret (pe_lst (pa_cons pe_str (pa_cons (pv 5) pa_nil))))))))))), ?_⟩
    try dsimp only [cxOf, Cx.nox, Cx.wish]
    have hstart : ∀ a0 a1 : V, L2.start N_l_call_action [a0, a1] = [some a0, some a1, none, none, none, none, none] := fun _ _ => rfl
    rw [hstart]
    clear hstart
    have hv : ∃ (av : Addr) (nm : Str) (arg : V), v = .ref av ∧ SqT K H av [.str nm, arg] ∧ ((nm = "undo" ∧ a = .undo) ∨ (nm = "play" ∧ ∃ l xs ss, a = .play ss ∧ arg = .ref l ∧ H l = some (.lst xs) ∧ l ∉ X ∧ ImAll K H xs (ss.map dStep)) ∨
        (nm = "go" ∧ ∃ i j, a = .go i j ∧ Im K H arg (dPair (i, j)))) := by
      cases a with
      | undo =>
        obtain ⟨av, x1, x2, rfl, a1, a2, a3⟩ := Im.two_inv hA
        have := a2.str_inv; subst this
        exact ⟨av, _, _, rfl, a1, .inl ⟨rfl, rfl⟩⟩
      | play ss =>
        obtain ⟨av, l, xs, rfl, a1, a2, a3, a4⟩ := hA
        exact ⟨av, _, _, rfl, a1, .inr (.inl ⟨rfl, l, xs, ss, rfl, rfl, a2, a3, a4⟩)⟩
      | go i j =>
        obtain ⟨av, x1, x2, rfl, a1, a2, a3⟩ := Im.two_inv hA
        have := a2.str_inv; subst this
        exact ⟨av, _, _, rfl, a1, .inr (.inr ⟨rfl, i, j, rfl, a3⟩)⟩
    obtain ⟨av, nm, arg, rfl, a1, hv⟩ := hv
    obtain ⟨dxs, t, hov, cuv, hsv, g1, g2, g3, g4, g5, g6⟩ := S.ex
    walk_at "w"
    refine st_try (fun σ H' => ∃ (err res : V), σ = [some (.ref s), some (.ref av), some (.str nm), some arg, some err, some res, none] ∧ Kp2 s hi H H' ∧ SessAt K B H' s hi ds (stepA ds st a).2.p (stepA ds st a).2.made (stepA ds st a).2.hist ∧
      ((err = .non ∧ (((stepA ds st a).1 = .back ∧ res = .non) ∨ ∃ q, (stepA ds st a).1 = .done q ∧ Im K H' res (dPos q))) ∨
       (∃ ae, err = .ref ae ∧ H' ae = some (exV ae (.ref (He.ga K "NothingToUndo")) none) ∧ (stepA ds st a).1 = .nothing) ∨
       (∃ ae d r i kk, err = .ref ae ∧ H' ae = some (exV ae (.ref (He.ga K "MoveBlocked")) (some d)) ∧ H' d = some (.xd [("reason", r), ("index", vI i)]) ∧ Im K H' r (dWord kk) ∧ (stepA ds st a).1 = .blocked i kk))) (fun R hR => ?_) (fun σ H1 hC => ?_)
    · refine st_ifs ?_
      walk_at "w"
      rcases hv with ⟨rfl, rfl⟩ | ⟨rfl, l, xs, ss, rfl, rfl, b1, b2, b3⟩ | ⟨rfl, i, j, rfl, b1⟩
      · rw [decide_eq_false (fun z => absurd (V.str.inj z) (by decide))]
        walk_at "w"
        rw [decide_eq_false (fun z => absurd (V.str.inj z) (by decide))]
        walk_at "w"
        refine ⟨B, s, hi, ds, st.p, st.made, st.hist, rfl, S, fun hn H1 e1 => ?_, fun h0 q m hh H1 kp S1 => ?_⟩
        · have he : stepA ds st .undo = (.nothing, st) := stepA_un (by rw [hn]; rfl)
          rw [he] at hR
          refine ⟨true, x_NothingToUndo_NothingToUndo T, fun _ ae na => ?_, (fun z => by cases z)⟩
          walk_at "w"
          intro _
          have e2 := Same.new na (o := exV ae (.ref (He.ga K "NothingToUndo")) none)
          exact hR _ _ ⟨.ref ae, .non, rfl, Kp2.same (e1.trans e2), S.same (e1.trans e2), .inr (.inl ⟨ae, rfl, upd_same, rfl⟩)⟩
        · have he : stepA ds st .undo = (.back, ⟨q, m, h0⟩) := by
            rw [stepA_us (c := (q, m)) (by rw [hh]; simp), hh, List.dropLast_concat]
          rw [he] at hR
          exact hR _ _ ⟨.non, .non, rfl, kp, S1, .inl ⟨rfl, .inl ⟨rfl, rfl⟩⟩⟩
      · rw [decide_eq_false (fun z => absurd (V.str.inj z) (by decide))]
        walk_at "w"
        refine ⟨B, s, hi, l, xs, ds, st.p, st.made, st.hist, ss, rfl, S, hO, hP, b1, fun z => b2 (by rw [z]; exact hX), b3, by have := hAo.1; omega, h4, h5, hAo.2, fun i kk hrun H1 d v r e1 nd d1 hv hr => ?_, fun q hrun H1 u kp S1 hu => ?_⟩
        · subst hv
          have he : stepA ds st (.play ss) = (.blocked i kk, st) := by
            show fin1 st ss 0 (runS ds st.p ss 0) = _
            rw [hrun]
            rfl
          rw [he] at hR
          refine ⟨false, x_MoveBlocked_NothingToUndo T, (fun z => by cases z), fun _ => ⟨true, x_MoveBlocked_MoveBlocked T, fun _ ae na => ?_, (fun z => by cases z)⟩⟩
          walk_at "w"
          intro _
          have e2 := Same.new na (o := exV ae (.ref (He.ga K "MoveBlocked")) (some d))
          exact hR _ _ ⟨.ref ae, .non, rfl, Kp2.same (e1.trans e2), S.same (e1.trans e2), .inr (.inr ⟨ae, d, r, i, kk, rfl, upd_same, e2 _ _ d1, hr.tk (TK.same e2), rfl⟩)⟩
        · have he : stepA ds st (.play ss) = (.done q, ⟨q, st.made ++ ss, st.hist ++ [(st.p, st.made)]⟩) := by
            show fin1 st ss 0 (runS ds st.p ss 0) = _
            rw [hrun]
            rfl
          rw [he] at hR
          exact hR _ _ ⟨.non, u, rfl, kp, S1, .inl ⟨rfl, .inr ⟨q, rfl, hu⟩⟩⟩
      · walk_at "w"
        obtain ⟨b, rfl, hb⟩ := b1.pair_inv
        walk_at "w"
        refine ⟨B, s, hi, ds, st.p, st.made, st.hist, i, j, rfl, S, hO, hP, hAo.1, hAo.2, h4, h5, fun kk hk H1 d v r e1 nd d1 hv hr => ?_, fun ii hd hne H1 u kp S1 hu => ?_⟩
        · subst hv
          have he : stepA ds st (.go i j) = (.blocked st.made.length kk, st) := by
            rcases hk with ⟨hk, rfl⟩ | ⟨⟨ii, hk, hb2⟩, rfl⟩
            · exact stepA_gn hk
            · rw [stepA_gs hk]
              have hbl : bl ds st.p (i, st.p.1.getD i 0, j) = some false := by
                unfold bl doorI
                simp only [if_pos]
                rw [hk]
                exact if_pos hb2
              rw [runS_some hbl]
              show (Out.blocked (0 + st.made.length) false, st) = _
              rw [Nat.zero_add]
          rw [he] at hR
          refine ⟨false, x_MoveBlocked_NothingToUndo T, (fun z => by cases z), fun _ => ⟨true, x_MoveBlocked_MoveBlocked T, fun _ ae na => ?_, (fun z => by cases z)⟩⟩
          walk_at "w"
          intro _
          have e2 := Same.new na (o := exV ae (.ref (He.ga K "MoveBlocked")) (some d))
          exact hR _ _ ⟨.ref ae, .non, rfl, Kp2.same (e1.trans e2), S.same (e1.trans e2), .inr (.inr ⟨ae, d, r, st.made.length, kk, rfl, upd_same, e2 _ _ d1, hr.tk (TK.same e2), rfl⟩)⟩
        · have he : stepA ds st (.go i j) = (.done (mv ds st.p (i, st.p.1.getD i 0, j)), ⟨mv ds st.p (i, st.p.1.getD i 0, j), st.made ++ [(i, st.p.1.getD i 0, j)], st.hist ++ [(st.p, st.made)]⟩) := by
            rw [stepA_gs hd]
            have hbl : bl ds st.p (i, st.p.1.getD i 0, j) = none := by
              unfold bl doorI
              simp only [if_pos]
              rw [hd]
              exact if_neg hne
            rw [runS_none hbl]
            rfl
          rw [he] at hR
          exact hR _ _ ⟨.non, u, rfl, kp, S1, .inl ⟨rfl, .inr ⟨_, rfl, hu⟩⟩⟩
    · obtain ⟨err, res, rfl, kp, S1, hC⟩ := hC
      walk_at "w"
      rcases hC with ⟨rfl, hC⟩ | ⟨ae, rfl, he, ho⟩ | ⟨ae, d, r, i, kk, rfl, he, hd, hr, ho⟩
      · refine .inl ⟨_, _, _, _, false, rfl, .own _, .base .non, T.exs.k0N, ?_⟩
        walk_at "w"
        refine .inl ⟨_, _, _, _, false, rfl, .own _, .base .non, T.exs.k0M, ?_⟩
        walk_at "w"
        intro q nq
        have e2 := Same.new nq (o := .lst [.str "done", res])
        have nH : H q = none := Kp2.none kp nq (fun z => by obtain ⟨_, _, _, _, _, _, z2, _⟩ := S1.ex; rw [z, z2] at nq; cases nq) (fun z => by obtain ⟨_, _, _, _, _, _, _, z2, _⟩ := S1.ex; rw [z, z2] at nq; cases nq)
        refine k _ q _ (kp.trans (Kp2.same e2)) (S1.same e2) nH upd_same ?_
        rcases hC with ⟨ho, rfl⟩ | ⟨q', ho, hu⟩
        · rw [ho]
          exact .cons (.str _) (.one .non)
        · rw [ho]
          exact .cons (.str _) (.one (hu.tk (TK.same e2)))
      · refine .inr ⟨ae, _, _, none, true, rfl, he, (fun dd z => by cases z), T.exs.ecN, T.exs.kNN, ?_⟩
        walk_at "w"
        intro q nq
        have e2 := Same.new nq (o := .lst [.str "nothing"])
        have nH : H q = none := Kp2.none kp nq (fun z => by obtain ⟨_, _, _, _, _, _, z2, _⟩ := S1.ex; rw [z, z2] at nq; cases nq) (fun z => by obtain ⟨_, _, _, _, _, _, _, z2, _⟩ := S1.ex; rw [z, z2] at nq; cases nq)
        exact k _ q _ (kp.trans (Kp2.same e2)) (S1.same e2) nH upd_same (by rw [ho]; exact .one (.str _))
      · refine .inr ⟨ae, _, _, some d, false, rfl, he, (fun dd z => by cases z; exact ⟨_, hd⟩), T.exs.ecM, T.exs.kMN, ?_⟩
        walk_at "w"
        refine .inr ⟨ae, _, _, some d, true, rfl, he, (fun dd z => by cases z; exact ⟨_, hd⟩), T.exs.ecM, T.exs.kMM, ?_⟩
        walk_at "w"
        refine ⟨ae, _, d, _, vI i, rfl, (exOne_ok T.exs.mb).2.1, a_MoveBlocked_index T, he, hd, rfl, ?_⟩
        walk_at "w"
        refine ⟨ae, _, d, _, r, rfl, (exOne_ok T.exs.mb).2.1, a_MoveBlocked_reason T, he, hd, rfl, ?_⟩
        walk_at "w"
        intro q nq
        have e2 := Same.new nq (o := .lst [.str "blocked", vI i, r])
        have nH : H q = none := Kp2.none kp nq (fun z => by obtain ⟨_, _, _, _, _, _, z2, _⟩ := S1.ex; rw [z, z2] at nq; cases nq) (fun z => by obtain ⟨_, _, _, _, _, _, _, z2, _⟩ := S1.ex; rw [z, z2] at nq; cases nq)
        exact k _ q _ (kp.trans (Kp2.same e2)) (S1.same e2) nH upd_same (by rw [ho]; exact .cons (.str _) (.cons (.int _) (.one (hr.tk (TK.same e2)))))
abbrev N_l_cell : List Str := ["_law_script", "_law_index"]
theorem sc_l_cell : FnScope N_l_cell ["_law_script", "_law_index"] (defScope S_l_cell) := ⟨rfl, rfl, rfl, by decide +kernel, rfl, by decide +kernel, by decide +kernel⟩
def sp_l_cell (K : PySem.W.Frag) : Sp := fun vs H Q _ => ∃ (a : Addr) (xs : List V) (i : Nat), vs = [.ref a, vI i] ∧ SqL K H a xs ∧ (∀ x ∈ xs, ∃ z : Int, x = .int z) ∧ ∀ z : Int, Q (.int z) H
set_option maxHeartbeats 4000000 in
theorem ok_l_cell {P : Program} {w : World} {K : PySem.W.Frag} {mg : Str → Option Value} {base : Heap} (T : Tx K mg) : Ok P w K mg base CX0 2 d_l_cell ["_law_script", "_law_index"] (sp_l_cell K) := by
  refine (f_l_cell T).ok sc_l_cell (fun vs H Q E h => ?_) (fun cdv A outer s H vs Q E hr h => ?_)
  · obtain ⟨a, xs, i, rfl, _⟩ := h
    rfl
  · obtain ⟨a, xs, i, rfl, ha, hx, k⟩ := h
    refine ⟨_, PSs.nox (pss_cons (ps_if (pt_cmpR op_lt (pv 1) (pe_callB call_lenA (by rfl) (n_len T) bt_len (pa_cons (pv 0) pa_nil)) (nomark _)) (pss_one (ps_ret (pe_ix ix_list (pv 0) (pv 1) (fun _ _ => rfl)))) pss_nil)
      (pss_one (ps_ret pe_int))), ?_⟩
    try dsimp only [cxOf, Cx.nox, Cx.wish]
    have hstart : ∀ a0 a1 : V, L2.start N_l_cell [a0, a1] = [some a0, some a1] := fun _ _ => rfl
    rw [hstart]
    clear hstart
    walk_at "go"
    by_cases hi : i < xs.length
    · refine iteDT (by omega) ?_
      walk_at "go"
      obtain ⟨z, hz⟩ := hx _ (List.getElem_mem hi)
      refine st_ixL ha (atI_nat (by rw [List.getElem?_eq_getElem hi])) ?_
      rw [hz]
      exact k z
    · refine iteDF (by omega) ?_
      walk_at "go"
      exact k 0
abbrev N_l_generator : List Str := ["_law_script", "_law_index", "_law_seed"]
theorem sc_l_generator : FnScope N_l_generator ["_law_script", "_law_index"] (defScope S_l_generator) := ⟨rfl, rfl, rfl, by decide +kernel, rfl, by decide +kernel, by decide +kernel⟩
def sp_l_generator (K : PySem.W.Frag) : Sp := fun vs H Q _ => ∃ (a : Addr) (xs : List V) (i : Nat), vs = [.ref a, vI i] ∧ SqL K H a xs ∧ (∀ x ∈ xs, ∃ z : Int, x = .int z) ∧ i ≤ 20 ∧ ∀ H' g, Same H H' → H g = none → GenAt H' g 20000 → Q (.ref g) H'
set_option maxHeartbeats 4000000 in
theorem ok_l_generator {P : Program} {w : World} {K : PySem.W.Frag} {mg : Str → Option Value} {base : Heap} (T : Tx K mg) : Ok P w K mg base CX0 3 d_l_generator ["_law_script", "_law_index"] (sp_l_generator K) := by
  refine (f_l_generator T).ok sc_l_generator (fun vs H Q E h => ?_) (fun cdv A outer s H vs Q E hr h => ?_)
  · obtain ⟨a, xs, i, rfl, _⟩ := h
    rfl
  · obtain ⟨a, xs, i, rfl, ha, hx, hi, k⟩ := h
    refine ⟨_, PSs.nox (pss_cons (ps_set (i := 2) sc_l_generator.nd rfl (Or.inl rfl) (pe_call (ok_l_cell T) (hr.mono (by decide)) (by rfl) (g_l_cell T) (f_l_cell T).kp (b_l_cell T) .nil pass0 (pa_cons (pv 0) (pa_cons (pv 1) pa_nil))))
      (pss_one (ps_ret (pe_lst (pa_cons (pe_op op_mod (pe_callB (call_max2A rfl) (by rfl) (n_max T) bt_max (pa_cons (pe_op op_sub (pv 2) (pe_op op_pow pe_int pe_int)) (pa_cons pe_int pa_nil))) (pe_op op_powX (pe_op op_pow pe_int pe_int) pe_int)) (pa_cons (pe_op op_mod (pv 2) pe_int) (pa_cons (pe_op op_mul pe_int (pv 1)) pa_nil))))))), ?_⟩
    try dsimp only [cxOf, Cx.nox, Cx.wish]
    have hstart : ∀ a0 a1 : V, L2.start N_l_generator [a0, a1] = [some a0, some a1, none] := fun _ _ => rfl
    rw [hstart]
    clear hstart
    walk_at "w"
    refine ⟨a, xs, i, rfl, ha, hx, fun z => ?_⟩
    walk_at "w"
    refine st_I (show CPow 10 18 from ⟨by decide, by decide, by decide⟩) ?_
    walk_at "w"
    refine st_I (show CPow 10 60 from ⟨by decide, by decide, by decide⟩) ?_
    walk_at "w"
    refine st_I (show CPowX (10 ^ Int.toNat 60) 10 from ⟨by decide, by decide +kernel⟩) ?_
    walk_at "w"
    refine st_I (show (0 : Int) < (10 ^ Int.toNat 60) ^ Int.toNat 10 by decide +kernel) ?_
    have hp : ((10 ^ Int.toNat 60) ^ Int.toNat 10 : Int) ≠ 0 := by decide +kernel
    generalize ((10 ^ Int.toNat 60) ^ Int.toNat 10 : Int) = P at *
    generalize (if 0 > z - 10 ^ Int.toNat 18 then (0 : Int) else z - 10 ^ Int.toNat 18) = y
    walk_at "w"
    refine st_I (by decide) ?_
    walk_at "w"
    refine st_I (.inl ⟨by decide, by decide⟩) ?_
    walk_at "w"
    intro g ng
    have m1 := Int.emod_nonneg z (show (2147483647 : Int) ≠ 0 by decide)
    have m2 := Int.emod_lt_of_pos z (show (0 : Int) < 2147483647 by decide)
    obtain ⟨b, hb⟩ := Int.eq_ofNat_of_zero_le m1
    rw [hb] at m2 ⊢
    exact k _ g (Same.new ng) ng ⟨y % P, b, 1000 * i, by rw [upd_same]; rfl, Int.emod_nonneg _ hp, by omega, by omega⟩
abbrev N_x_len : List Str := ["self"]
theorem sc_x_len : FnScope N_x_len ["self"] (defScope S_x_len) := ⟨rfl, rfl, rfl, by decide +kernel, rfl, by decide +kernel, by decide +kernel⟩
def sp_x_len (K : PySem.W.Frag) : Sp := fun vs H Q _ => ∃ (B : Hp) (s hi : Addr) (ds : List Door) (p : PosD) (made : List Stp) (hist : List (PosD × List Stp)), vs = [.ref s] ∧ SessAt K B H s hi ds p made hist ∧ Q (vI made.length) H
set_option maxHeartbeats 4000000 in
theorem ok_x_len {P : Program} {w : World} {K : PySem.W.Frag} {mg : Str → Option Value} {base : Heap} (T : Tx K mg) : Ok P w K mg base CX0 2 d_x_len ["self"] (sp_x_len K) := by
  refine (f_x_len T).ok sc_x_len (fun vs H Q E h => ?_) (fun cdv A outer s H vs Q E hr h => ?_)
  · obtain ⟨B, s, hi, ds, p, made, hist, rfl, _⟩ := h
    rfl
  · obtain ⟨B, s, hi, ds, p, made, hist, rfl, S, k⟩ := h
    obtain ⟨dx, t, hv, cv, xs, h1, h2, h3, h4, h5, h6⟩ := S.ex
    obtain ⟨c, x, y, rfl, g1, g2, g3⟩ := h5.two_inv
    obtain ⟨m, ms, rfl, g4, g5⟩ := g3.tup_inv
    have hl : ms.length = made.length := by rw [g5.len, List.length_map]
    refine ⟨_, PSs.nox (pss_one (ps_ret (pe_callB call_lenA (by rfl) (n_len T) bt_len (pa_cons (pe_ix ix_tup (pe_fld (pv 0) rfl) pe_int (fun _ _ => rfl)) pa_nil)))), ?_⟩
    try dsimp only [cxOf, Cx.nox, Cx.wish]
    have hstart : ∀ a0 : V, L2.start N_x_len [a0] = [some a0] := fun _ => rfl
    rw [hstart]
    clear hstart
    walk_at "go"
    rw [hl]
    exact k
abbrev N_x_moves : List Str := ["self"]
theorem sc_x_moves : FnScope N_x_moves ["self"] (defScope S_x_moves) := ⟨rfl, rfl, rfl, by decide +kernel, rfl, by decide +kernel, by decide +kernel⟩
def sp_x_moves (K : PySem.W.Frag) : Sp := fun vs H Q _ => ∃ (B : Hp) (s hi : Addr) (ds : List Door) (p : PosD) (made : List Stp) (hist : List (PosD × List Stp)), vs = [.ref s] ∧ SessAt K B H s hi ds p made hist ∧ ∀ l xs, H l = none → ImAll K H xs (made.map dStep) → Q (.ref l) (upd H l (.lst xs))
set_option maxHeartbeats 4000000 in
theorem ok_x_moves {P : Program} {w : World} {K : PySem.W.Frag} {mg : Str → Option Value} {base : Heap} (T : Tx K mg) : Ok P w K mg base CX0 2 d_x_moves ["self"] (sp_x_moves K) := by
  refine (f_x_moves T).ok sc_x_moves (fun vs H Q E h => ?_) (fun cdv A outer s H vs Q E hr h => ?_)
  · obtain ⟨B, s, hi, ds, p, made, hist, rfl, _⟩ := h
    rfl
  · obtain ⟨B, s, hi, ds, p, made, hist, rfl, S, k⟩ := h
    obtain ⟨dx, t, hv, cv, xs, h1, h2, h3, h4, h5, h6⟩ := S.ex
    obtain ⟨c, x, y, rfl, g1, g2, g3⟩ := h5.two_inv
    obtain ⟨m, ms, rfl, g4, g5⟩ := g3.tup_inv
    refine ⟨_, PSs.nox (pss_one (ps_ret (pe_callTy call_listA (by rfl) (n_list T) bt_list (pa_cons (pe_ix ix_tup (pe_fld (pv 0) rfl) pe_int (fun _ _ => rfl)) pa_nil)))), ?_⟩
    try dsimp only [cxOf, Cx.nox, Cx.wish]
    have hstart : ∀ a0 : V, L2.start N_x_moves [a0] = [some a0] := fun _ => rfl
    rw [hstart]
    clear hstart
    walk_at "go"
    intro l nl
    exact k _ _ nl g5
abbrev N_x_state : List Str := ["self"]
theorem sc_x_state : FnScope N_x_state ["self"] (defScope S_x_state) := ⟨rfl, rfl, rfl, by decide +kernel, rfl, by decide +kernel, by decide +kernel⟩
def sp_x_state (K : PySem.W.Frag) : Sp := fun vs H Q _ => ∃ (B : Hp) (s hi : Addr) (ds : List Door) (p : PosD) (made : List Stp) (hist : List (PosD × List Stp)), vs = [.ref s] ∧ SessAt K B H s hi ds p made hist ∧ ∀ v, Im K H v (dPos p) → Q v H
set_option maxHeartbeats 4000000 in
theorem ok_x_state {P : Program} {w : World} {K : PySem.W.Frag} {mg : Str → Option Value} {base : Heap} (T : Tx K mg) : Ok P w K mg base CX0 2 d_x_state ["self"] (sp_x_state K) := by
  refine (f_x_state T).ok sc_x_state (fun vs H Q E h => ?_) (fun cdv A outer s H vs Q E hr h => ?_)
  · obtain ⟨B, s, hi, ds, p, made, hist, rfl, _⟩ := h
    rfl
  · obtain ⟨B, s, hi, ds, p, made, hist, rfl, S, k⟩ := h
    obtain ⟨dx, t, hv, cv, xs, h1, h2, h3, h4, h5, h6⟩ := S.ex
    obtain ⟨c, x, y, rfl, g1, g2, g3⟩ := h5.two_inv
    refine ⟨_, PSs.nox (pss_one (ps_ret (pe_ix ix_tup (pe_fld (pv 0) rfl) pe_int (fun _ _ => rfl)))), ?_⟩
    try dsimp only [cxOf, Cx.nox, Cx.wish]
    have hstart : ∀ a0 : V, L2.start N_x_state [a0] = [some a0] := fun _ => rfl
    rw [hstart]
    clear hstart
    walk_at "go"
    exact k _ g2
abbrev N_l_matches : List Str := ["_law_session", "_law_model", "_law_position", "_law_made"]
theorem sc_l_matches : FnScope N_l_matches ["_law_session", "_law_model"] (defScope S_l_matches) := ⟨rfl, rfl, rfl, by decide +kernel, rfl, by decide +kernel, by decide +kernel⟩
def sp_l_matches (K : PySem.W.Frag) : Sp := fun vs H Q _ => ∃ (B : Hp) (s hi M mh : Addr) (X : List Addr) (ds : List Door) (st : Sta), vs = [.ref s, .ref M] ∧ SessAt K B H s hi ds st.p st.made st.hist ∧ ModelAt K H X M mh ds st ∧ st.made.length ≤ 400 ∧ ∀ H', Same H H' → Q (.bl true) H'
set_option maxHeartbeats 4000000 in
theorem ok_l_matches {P : Program} {w : World} {K : PySem.W.Frag} {mg : Str → Option Value} {base : Heap} (T : Tx K mg) : Ok P w K mg base CX0 4 d_l_matches ["_law_session", "_law_model"] (sp_l_matches K) := by
  refine (f_l_matches T).ok sc_l_matches (fun vs H Q E h => ?_) (fun cdv A outer s H vs Q E hr h => ?_)
  · obtain ⟨B, s, hi, M, mh, X, ds, st, rfl, _⟩ := h
    rfl
  · obtain ⟨B, s, hi, M, mh, X, ds, st, rfl, S, hM, h4, k⟩ := h
    obtain ⟨dv, cv, hs, m1, m2, m3, m4, m5, m6⟩ := hM.ex
    obtain ⟨ca, ml, pz, mxs, rfl, c1, c2, c3, c4, c5⟩ := m3
    obtain ⟨dx, t, hv, cuv, hsv, g1, g2, g3, g4, g5, g6⟩ := S.ex
    have mxl := c4.len
    rw [List.length_map] at mxl
    have mxl : mxs.length = st.made.length := mxl
    refine ⟨_, PSs.nox (pss_cons (ps_asg (pe_dget (room1 hr) (pv 1) pe_str (fun _ _ => rfl)) (pg_tup rfl (pgs_cons (pg_name (i := 2) sc_l_matches.nd rfl (Or.inl rfl)) (pgs_cons (pg_name (i := 3) sc_l_matches.nd rfl (Or.inl rfl)) pgs_nil))))
      (pss_one (ps_ret (pe_and (pe_cmpR (op_eqD hr.units) (pe_meth0 (pv 0) (c_Session T) (m_Session_state T) (ok_x_state T) (hr.mono (by decide)) (b_x_state T) .nil pass0) (pv 2) (nomark _)) (pe_and (pe_cmpR (op_eqD hr.units) (pe_meth0 (pv 0) (c_Session T) (m_Session_moves T) (ok_x_moves T) (hr.mono (by decide)) (b_x_moves T) .nil pass0) (pv 3) (nomark _)) (pe_one (pe_cmpR op_eq (pe_callB (call_lenI (ok_x_len T) (hr.mono (by decide)) (m_Session_len T).at_ (m_Session_len T).fn (b_x_len T) pass0) (by rfl) (n_len T) bt_len (pa_cons (pv 0) pa_nil)) (pe_callB call_lenA (by rfl) (n_len T) bt_len (pa_cons (pv 3) pa_nil)) (nomark _)))))))), ?_⟩
    try dsimp only [cxOf, Cx.nox, Cx.wish]
    have hstart : ∀ a0 a1 : V, L2.start N_l_matches [a0, a1] = [some a0, some a1, none, none] := fun _ _ => rfl
    rw [hstart]
    clear hstart
    walk_at "w"
    refine st_dgetS (v := .ref ca) m1 rfl ?_
    walk_at "w"
    refine ⟨B, s, hi, ds, st.p, st.made, st.hist, rfl, S, fun v hv => ?_⟩
    walk_at "w"
    refine st_eqD hv.dp c2.dp (Sh.pos _) (Sh.pos _) (by decide) (by decide) ?_
    rw [eqv_self (Sh.pos _)]
    walk_at "w"
    refine ⟨B, s, hi, ds, st.p, st.made, st.hist, rfl, S, fun l xs nl hx => ?_⟩
    have e1 := Same.new nl (o := .lst xs)
    have l1 := upd_same (H := H) (a := l) (o := .lst xs)
    have x1 := hx.tk (TK.same e1)
    have c31 := e1 _ _ c3
    have c41 := c4.tk (TK.same e1)
    have S1 := S.same e1
    have g21 := e1 _ _ g2
    generalize upd H l _ = H1 at *
    walk_at "w"
    refine st_eqD (d := .list (st.made.map dStep)) (e := .list (st.made.map dStep)) (.lst (SqL.of l1) x1.dp) (.lst (SqL.of c31) c41.dp) (Sh.steps _) (Sh.steps _) (by decide) (by decide) ?_
    rw [eqv_self (Sh.steps _)]
    walk_at "w"
    refine ⟨s, dx, _, rfl, g21, ?_⟩
    refine ⟨B, s, hi, ds, st.p, st.made, st.hist, rfl, S1, ((st.made.length : Nat) : Int), rfl, by omega, by omega, ?_⟩
    walk_at "w"
    rw [mxl, decide_eq_true rfl]
    exact k _ e1
abbrev N_l_hash : List Str := ["_law_seed", "_law_index", "_law_mixed"]
theorem sc_l_hash : FnScope N_l_hash ["_law_seed", "_law_index"] (defScope S_l_hash) := ⟨rfl, rfl, rfl, by decide +kernel, rfl, by decide +kernel, by decide +kernel⟩
def sp_l_hash (K : PySem.W.Frag) : Sp := fun vs H Q _ => ∃ (x y : Nat), vs = [vI x, vI y] ∧ x < 2147483647 ∧ y < 100000 ∧ ∀ z : Nat, z < 2147483587 → Q (vI z) H
set_option maxHeartbeats 4000000 in
theorem ok_l_hash {P : Program} {w : World} {K : PySem.W.Frag} {mg : Str → Option Value} {base : Heap} (T : Tx K mg) : Ok P w K mg base CX0 2 d_l_hash ["_law_seed", "_law_index"] (sp_l_hash K) := by
  refine (f_l_hash T).ok sc_l_hash (fun vs H Q E h => ?_) (fun cdv A outer s H vs Q E hr h => ?_)
  · obtain ⟨x, y, rfl, _⟩ := h
    rfl
  · obtain ⟨x, y, rfl, hx, hy, k⟩ := h
    refine ⟨_, PSs.nox (pss_cons (ps_set (i := 2) sc_l_hash.nd rfl (Or.inl rfl) (pe_op op_mod (pe_op op_add (pe_op op_add (pe_op op_add (pe_op op_mul (pv 0) pe_int) (pe_op op_mul (pe_op op_mul pe_int (pv 1)) (pv 1))) (pv 1)) pe_int) pe_int))
      (pss_cons (ps_set (i := 2) sc_l_hash.nd rfl (Or.inl rfl) (pe_op op_mod (pe_op op_add (pe_op op_mul (pv 2) (pv 2)) pe_int) pe_int))
      (pss_one (ps_ret (pe_op op_mod (pe_op op_mul (pv 2) pe_int) pe_int))))), ?_⟩
    try dsimp only [cxOf, Cx.nox, Cx.wish]
    have hstart : ∀ a0 a1 : V, L2.start N_l_hash [a0, a1] = [some a0, some a1, none] := fun _ _ => rfl
    rw [hstart]
    clear hstart
    walk_at "go"
    refine st_I (.inr ⟨by decide, by decide⟩) ?_
    walk_at "go"
    refine st_I (.inl ⟨by decide, by decide⟩) ?_
    walk_at "go"
    refine st_I (.inr ⟨by omega, by omega⟩) ?_
    walk_at "go"
    refine st_I (by decide) ?_
    walk_at "go"
    generalize hm : ((x : Int) * 1103515245 + 7919 * (y : Int) * (y : Int) + (y : Int) + 1) % 2147483647 = m
    have m1 : 0 ≤ m := by rw [← hm]; exact Int.emod_nonneg _ (by decide)
    have m2 : m < 2147483647 := by rw [← hm]; exact Int.emod_lt_of_pos _ (by decide)
    refine st_I (.inr ⟨by omega, by omega⟩) ?_
    walk_at "go"
    refine st_I (by decide) ?_
    walk_at "go"
    generalize hn : (m * m + 69621) % 2147483629 = n
    have n1 : 0 ≤ n := by rw [← hn]; exact Int.emod_nonneg _ (by decide)
    refine st_I (.inr ⟨by decide, by decide⟩) ?_
    walk_at "go"
    refine st_I (by decide) ?_
    have q1 := Int.emod_nonneg (n * 48271) (show (2147483587 : Int) ≠ 0 by decide)
    have q2 := Int.emod_lt_of_pos (n * 48271) (show (0 : Int) < 2147483587 by decide)
    obtain ⟨z, hz⟩ := Int.eq_ofNat_of_zero_le q1
    rw [hz] at q2 ⊢
    exact k z (by omega)
abbrev N_l_random : List Str := ["_law_generator_here", "_law_bound", "_law_drawn", "_law_part"]
theorem sc_l_random : FnScope N_l_random ["_law_generator_here", "_law_bound"] (defScope S_l_random) := ⟨rfl, rfl, rfl, by decide +kernel, rfl, by decide +kernel, by decide +kernel⟩
def sp_l_random (K : PySem.W.Frag) : Sp := fun vs H Q _ => ∃ (g : Addr) (n N : Nat), vs = [.ref g, vI n] ∧ 0 < n ∧ n < 1000 ∧ N < 90000 ∧ GenAt H g N ∧ ∀ H' (r : Nat), r < n → Kp1 g H H' → GenAt H' g (N + 1) → Q (vI r) H'
set_option maxHeartbeats 4000000 in
theorem ok_l_random {P : Program} {w : World} {K : PySem.W.Frag} {mg : Str → Option Value} {base : Heap} (T : Tx K mg) : Ok P w K mg base CX0 3 d_l_random ["_law_generator_here", "_law_bound"] (sp_l_random K) := by
  refine (f_l_random T).ok sc_l_random (fun vs H Q E h => ?_) (fun cdv A outer s H vs Q E hr h => ?_)
  · obtain ⟨g, n, N, rfl, _⟩ := h
    rfl
  · obtain ⟨g, n, N, rfl, h1, h2, h3, hG, k⟩ := h
    obtain ⟨a, b, c, e, ea, eb, ec⟩ := hG.ex
    refine ⟨_, PSs.nox (pss_cons (ps_if (pt_cmpR op_gt (pe_ix ix_list (pv 0) pe_int (fun _ _ => rfl)) pe_int (nomark _)) (pss_cons (ps_set (i := 2) sc_l_random.nd rfl (Or.inl rfl) (pe_op op_mod (pe_ix ix_list (pv 0) pe_int (fun _ _ => rfl)) (pv 1)))
      (pss_cons (ps_asg (pe_op op_fdiv (pe_ix ix_list (pv 0) pe_int (fun _ _ => rfl)) (pv 1)) (pg_sub (pv 0) pe_int set_list))
      (pss_one (ps_ret (pv 2))))) pss_nil)
      (pss_cons (ps_set (i := 2) sc_l_random.nd rfl (Or.inl rfl) pe_int)
      (pss_cons (ps_for PassesOwn.never rfl (pi_range1 (by rfl) (n_range T) (pa_cons (pe_op op_add pe_int (pe_op op_fdiv (pe_bits (pv 1)) pe_int)) pa_nil)) (pg_name (i := 3) sc_l_random.nd rfl (Or.inl rfl)) (pss_cons (ps_asg (pe_op op_add (pe_ix ix_list (pv 0) pe_int (fun _ _ => rfl)) pe_int) (pg_sub (pv 0) pe_int set_list))
      (pss_one (ps_set (i := 2) sc_l_random.nd rfl (Or.inl rfl) (pe_op op_add (pe_op op_mul (pv 2) pe_int) (pe_call (ok_l_hash T) (hr.mono (by decide)) (by rfl) (g_l_hash T) (f_l_hash T).kp (b_l_hash T) .nil pass0 (pa_cons (pe_ix ix_list (pv 0) pe_int (fun _ _ => rfl)) (pa_cons (pe_ix ix_list (pv 0) pe_int (fun _ _ => rfl)) pa_nil))))))))
      (pss_one (ps_ret (pe_op op_mod (pv 2) (pv 1))))))), ?_⟩
    try dsimp only [cxOf, Cx.nox, Cx.wish]
    have hstart : ∀ a0 a1 : V, L2.start N_l_random [a0, a1] = [some a0, some a1, none, none] := fun _ _ => rfl
    rw [hstart]
    clear hstart
    walk_at "w"
    have tg := TK.lst e (o := .lst [])
    by_cases pos : 0 < a
    · refine iteDT pos ?_
      walk_at "w"
      refine st_I (show (0 : Int) < (n : Int) by omega) ?_
      walk_at "w"
      refine st_I (show 0 < (n : Int) ∧ (n : Int) < 1073741824 by omega) ?_
      walk_at "w"
      refine st_setL (j := 0) e (ixN_nat (n := 3) (i := 0) (by decide)) ?_
      walk_at "w"
      have m1 := Int.emod_nonneg a (show (n : Int) ≠ 0 by omega)
      have m2 := Int.emod_lt_of_pos a (show (0 : Int) < (n : Int) by omega)
      obtain ⟨r, hr⟩ := Int.eq_ofNat_of_zero_le m1
      rw [hr] at m2 ⊢
      exact k _ r (by omega) Kp1.refl.upd ⟨a / n, b, c, upd_same, Int.ediv_nonneg ea (by omega), eb, by omega⟩
    · refine iteDF pos ?_
      walk_at "w"
      have hb := bits_small h2
      refine st_I (show 0 < (30 : Int) ∧ (30 : Int) < 1073741824 by decide) ?_
      walk_at "w"
      refine st_r1 1 (by omega) (by decide) ?_
      refine for_rangeB (fun i σ H' => ∃ (d : Int) (v3 : Option V), σ = [some (.ref g), some (vI n), some (.int d), v3] ∧ Kp1 g H H' ∧ ((i = 0 ∧ d = 0 ∧ H' g = some (.lst [.int a, vI b, vI c])) ∨ (i = 1 ∧ 0 ≤ d ∧ GenAt H' g (N + 1)))) ?_ ?_ ?_
      · exact ⟨0, none, rfl, Kp1.refl, .inl ⟨rfl, rfl, e⟩⟩
      · rintro i σ H' hi ⟨d, v3, rfl, kp, hh⟩
        rcases hh with ⟨rfl, rfl, e'⟩ | ⟨rfl, _⟩
        · walk_at "w"
          refine st_setL (j := 0) e' (ixN_nat (n := 3) (i := 2) (by decide)) ?_
          have e2 := upd_same (H := H') (a := g) (o := .lst ([.int a, vI b, vI c].set 2 (.int ((c : Int) + 1))))
          have k2 : Kp1 g H (upd H' g (.lst ([.int a, vI b, vI c].set 2 (.int ((c : Int) + 1))))) := kp.upd
          generalize upd H' g _ = H2 at *
          walk_at "w"
          refine st_I (.inl ⟨by decide, by decide⟩) ?_
          walk_at "w"
          refine ⟨b, c + 1, rfl, eb, by omega, fun z hz => ?_⟩
          walk_at "w"
          exact ⟨_, _, rfl, k2, .inr ⟨rfl, by omega, a, b, c + 1, e2, ea, eb, by omega⟩⟩
        · exact absurd hi (by decide)
      · rintro σ H' ⟨d, v3, rfl, kp, hh⟩
        rcases hh with ⟨h0, _⟩ | ⟨_, hd, hg⟩
        · cases h0
        · walk_at "w"
          refine st_I (show (0 : Int) < (n : Int) by omega) ?_
          have m1 := Int.emod_nonneg d (show (n : Int) ≠ 0 by omega)
          have m2 := Int.emod_lt_of_pos d (show (0 : Int) < (n : Int) by omega)
          obtain ⟨r, hr⟩ := Int.eq_ofNat_of_zero_le m1
          rw [hr] at m2 ⊢
          exact k _ r (by omega) kp hg
abbrev N_l_every_step : List Str := ["_law_doors", "_law_people", "_law_steps_here", "_law_person", "_law_one", "_law_other"]
theorem sc_l_every_step : FnScope N_l_every_step ["_law_doors", "_law_people"] (defScope S_l_every_step) := ⟨rfl, rfl, rfl, by decide +kernel, rfl, by decide +kernel, by decide +kernel⟩
def sp_l_every_step (K : PySem.W.Frag) : Sp := fun vs H Q _ => ∃ (v : V) (ds : List Door) (n : Nat), vs = [v, vI n] ∧ Im K H v (dDoors ds) ∧ HouseOk ds ∧ n ≤ 3 ∧
  ∀ (H' : Hp) (q : Addr) (xs : List V) (ss : List Stp), Same H H' → H q = none → H' q = some (.lst xs) → ImAll K H' xs (ss.map dStep) → ss.length < 64 → (∀ s ∈ ss, StepOk ds n s) → Q (.ref q) H'
set_option maxHeartbeats 4000000 in
theorem ok_l_every_step {P : Program} {w : World} {K : PySem.W.Frag} {mg : Str → Option Value} {base : Heap} (T : Tx K mg) : Ok P w K mg base CX0 2 d_l_every_step ["_law_doors", "_law_people"] (sp_l_every_step K) := by
  refine (f_l_every_step T).ok sc_l_every_step (fun vs H Q E h => ?_) (fun cdv A outer s H vs Q E hr h => ?_)
  · obtain ⟨v, ds, n, rfl, _⟩ := h
    rfl
  · obtain ⟨v, ds, n, rfl, hv, hO, h3, k⟩ := h
    obtain ⟨w, xs, rfl, ha, hx⟩ := hv.tup_inv
    have hl : xs.length = ds.length := by rw [hx.len, List.length_map]
    have h5 := hO.len
    refine ⟨_, PSs.nox (pss_cons (ps_set (i := 2) sc_l_every_step.nd rfl (Or.inl rfl) (pe_lst pa_nil))
      (pss_cons (ps_for PassesOwn.never rfl (pi_range1 (by rfl) (n_range T) (pa_cons (pv 1) pa_nil)) (pg_name (i := 3) sc_l_every_step.nd rfl (Or.inl rfl)) (pss_one (ps_for PassesOwn.never rfl (pi_tup (pv 0)) (pg_tup rfl (pgs_cons (pg_name (i := 4) sc_l_every_step.nd rfl (Or.inl rfl)) (pgs_cons (pg_name (i := 5) sc_l_every_step.nd rfl (Or.inl rfl)) pgs_nil))) (pss_one (ps_set (i := 2) sc_l_every_step.nd rfl (Or.inl rfl) (pe_op op_cat (pv 2) (pe_lst (pa_cons (pe_tup (pa_cons (pv 3) (pa_cons (pv 4) (pa_cons (pv 5) pa_nil)))) (pa_cons (pe_tup (pa_cons (pv 3) (pa_cons (pv 5) (pa_cons (pv 4) pa_nil)))) pa_nil)))))))))
      (pss_one (ps_ret (pe_callB (cr_sortT (d := 3) (B := 1000) (by decide)) (by rfl) (n_sorted T) bt_sorted (pa_cons (pv 2) pa_nil)))))), ?_⟩
    try dsimp only [cxOf, Cx.nox, Cx.wish]
    have hstart : ∀ a0 a1 : V, L2.start N_l_every_step [a0, a1] = [some a0, some a1, none, none, none, none] := fun _ _ => rfl
    rw [hstart]
    clear hstart
    walk_at "w"
    intro q nq
    have e1 := Same.new nq (o := .lst [])
    have q1 := upd_same (H := H) (a := q) (o := .lst [])
    generalize upd H q _ = H1 at *
    walk_at "w"
    refine st_r1 n rfl (by omega) ?_
    refine for_rangeB (fun i σ H2 => ∃ (q : Addr) (v3 v4 v5 : Option V) (ys : List V) (ss : List Stp), σ = [some (.ref w), some (vI n), some (.ref q), v3, v4, v5] ∧ Same H H2 ∧ H2 q = some (.lst ys) ∧ ImAll K H2 ys (ss.map dStep) ∧ ss.length ≤ 10 * i ∧ ∀ s ∈ ss, StepOk ds n s) ?_ ?_ ?_
    · exact ⟨q, none, none, none, [], [], rfl, e1, q1, .nil, Nat.le_refl _, fun s h => by cases h⟩
    · rintro i σ H2 hi ⟨q, v3, v4, v5, ys, ss, rfl, sm, hq, hy, hl', hS⟩
      have ha2 := (TK.same sm).seq ha
      rw [show (0 : Int) + (i : Int) = (i : Int) by omega]
      walk_at "w"
      refine for_tupB xs (fun j σ H3 => ∃ (q : Addr) (v4 v5 : Option V) (ys : List V) (ss : List Stp), σ = [some (.ref w), some (vI n), some (.ref q), some (vI i), v4, v5] ∧ Same H H3 ∧ H3 q = some (.lst ys) ∧ ImAll K H3 ys (ss.map dStep) ∧ ss.length ≤ 10 * i + 2 * j ∧ ∀ s ∈ ss, StepOk ds n s) ?_ ?_ ?_ ?_
      · exact ⟨q, _, _, ys, ss, rfl, sm, hq, hy, hl', hS⟩
      · rintro j σ H3 _ ⟨_, _, _, _, _, _, sm, _⟩
        exact (TK.same sm).seq ha
      · rintro j x σ H3 hj ⟨q, v4, v5, ys, ss, rfl, sm, hq, hy, hl', hS⟩
        obtain ⟨dd, hdd, him⟩ := hx.get' hj
        rw [List.getElem?_map] at hdd
        obtain ⟨d, hd, rfl⟩ := Option.map_eq_some_iff.mp hdd
        have jl : j < ds.length := (List.getElem?_eq_some_iff.mp hd).1
        obtain ⟨c, rfl, hc⟩ := (him.tk (TK.same sm)).pair_inv
        have yl := hy.len
        rw [List.length_map] at yl
        walk_at "w"
        intro u nu
        have e4 := Same.new nu (o := .tup [vI i, vI d.1, vI d.2])
        have u4 := upd_same (H := H3) (a := u) (o := .tup [vI i, vI d.1, vI d.2])
        generalize upd H3 u _ = H4 at *
        walk_at "w"
        intro t nt
        have e5' := Same.new nt (o := .tup [vI i, vI d.2, vI d.1])
        have u5 := e5' _ _ u4
        have t5 := upd_same (H := H4) (a := t) (o := .tup [vI i, vI d.2, vI d.1])
        have e5 := e4.trans e5'
        generalize upd H4 t _ = H5 at *
        walk_at "w"
        intro m nm
        have e6' := Same.new nm (o := .lst [.ref u, .ref t])
        have m6 := upd_same (H := H5) (a := m) (o := .lst [.ref u, .ref t])
        have u6 := e6' _ _ u5
        have t6 := e6' _ _ t5
        have e6 := e5.trans e6'
        generalize upd H5 m _ = H6 at *
        refine ⟨q, m, ys, [.ref u, .ref t], rfl, rfl, e6 _ _ hq, m6, by rw [sizeLine_eq]; show _ + 2 ≤ _; omega, fun z nz => ?_⟩
        have e7 := Same.new nz (o := .lst (ys ++ [.ref u, .ref t]))
        refine ⟨z, _, _, _, ss ++ [(i, d.1, d.2), (i, d.2, d.1)], rfl, (sm.trans e6).trans e7, upd_same, ?_, by rw [List.length_append]; show _ + 2 ≤ _; omega, fun s hs => ?_⟩
        · rw [List.map_append]
          exact (hy.tk (TK.same (e6.trans e7))).append (.cons (Im.step (SqT.of (e7 _ _ u6))) (.one (Im.step (SqT.of (e7 _ _ t6)))))
        · have hdo : doorOf ds d.1 d.2 = some j := hO.door hd (isD_iff.mpr (.inl rfl))
          rcases List.mem_append.mp hs with hs | hs
          · exact hS s hs
          · rcases List.mem_cons.mp hs with rfl | hs
            · exact ⟨hi, j, hdo⟩
            · rw [List.mem_singleton.mp hs]
              exact ⟨hi, j, by rw [doorOf_swap]; exact hdo⟩
      · rintro σ H3 ⟨q, v4, v5, ys, ss, rfl, sm, hq, hy, hl', hS⟩
        exact ⟨q, _, _, _, ys, ss, rfl, sm, hq, hy, by omega, hS⟩
    · rintro σ H2 ⟨q, v3, v4, v5, ys, ss, rfl, sm, hq, hy, hl', hS⟩
      have yl := hy.len
      rw [List.length_map] at yl
      walk_at "w"
      refine st_sort (d := 3) (ds := ss) (fun z => [z.1, z.2.1, z.2.2]) (SqL.of hq) hy (by omega) (fun z hz => ⟨rfl, fun n hn => ?_⟩) fun r zs es nr hp hz => ?_
      · obtain ⟨s1, i, s2⟩ := hS z hz
        obtain ⟨l1, l2, _⟩ := hO.lt s2
        rcases List.mem_cons.mp hn with rfl | hn
        · omega
        rcases List.mem_cons.mp hn with rfl | hn
        · omega
        · rw [List.mem_singleton.mp hn]; omega
      · exact k _ r zs es (sm.trans (Same.new nr)) (Same.none sm nr) upd_same (hz.tk (TK.new nr)) (by rw [hp.length_eq]; omega) fun s hs => hS s (hp.mem_iff.mp hs)
abbrev N_l_steps : List Str := ["_law_doors", "_law_position", "_law_steps_here", "_law_person", "_law_place", "_law_other", "_law_index"]
theorem sc_l_steps : FnScope N_l_steps ["_law_doors", "_law_position"] (defScope S_l_steps) := ⟨rfl, rfl, rfl, by decide +kernel, rfl, by decide +kernel, by decide +kernel⟩
def sp_l_steps (K : PySem.W.Frag) : Sp := fun vs H Q _ => ∃ (v w : V) (ds : List Door) (p : PosD), vs = [v, w] ∧ Im K H v (dDoors ds) ∧ HouseOk ds ∧ Im K H w (dPos p) ∧ PosOk ds p ∧
  ∀ (H' : Hp) (q : Addr) (xs : List V) (ss : List Stp), Same H H' → H q = none → H' q = some (.lst xs) → ImAll K H' xs (ss.map dStep) → ss.length < 64 → (∀ s ∈ ss, StepOk ds p.1.length s) → Q (.ref q) H'
set_option maxHeartbeats 4000000 in
theorem ok_l_steps {P : Program} {w : World} {K : PySem.W.Frag} {mg : Str → Option Value} {base : Heap} (T : Tx K mg) : Ok P w K mg base CX0 3 d_l_steps ["_law_doors", "_law_position"] (sp_l_steps K) := by
  refine (f_l_steps T).ok sc_l_steps (fun vs H Q E h => ?_) (fun cdv A outer s H vs Q E hr h => ?_)
  · obtain ⟨v, w, ds, p, rfl, _⟩ := h
    rfl
  · obtain ⟨v, w, ds, p, rfl, hv, hO, hw, hP, k⟩ := h
    obtain ⟨a, ra, ba, rfl, ha, hra, hba⟩ := hw.pos_inv
    refine ⟨_, PSs.nox (pss_cons (ps_set (i := 2) sc_l_steps.nd rfl (Or.inl rfl) (pe_lst pa_nil))
      (pss_cons (ps_for PassesOwn.never rfl (pi_enumT (by rfl) (n_enumerate T) (pa_cons (pe_ix ix_tup (pv 1) pe_int (fun _ _ => rfl)) pa_nil)) (pg_tup rfl (pgs_cons (pg_name (i := 3) sc_l_steps.nd rfl (Or.inl rfl)) (pgs_cons (pg_name (i := 4) sc_l_steps.nd rfl (Or.inl rfl)) pgs_nil))) (pss_one (ps_for PassesOwn.never rfl (pi_list (pe_call (ok_l_neighbours T) (hr.mono (by decide)) (by rfl) (g_l_neighbours T) (f_l_neighbours T).kp (b_l_neighbours T) .nil pass0 (pa_cons (pv 0) (pa_cons (pv 4) pa_nil)))) (pg_tup rfl (pgs_cons (pg_name (i := 5) sc_l_steps.nd rfl (Or.inl rfl)) (pgs_cons (pg_name (i := 6) sc_l_steps.nd rfl (Or.inl rfl)) pgs_nil))) (pss_one (ps_if (pt_cmpR op_ne (pe_ix ix_tup (pe_ix ix_tup (pv 1) pe_int (fun _ _ => rfl)) (pv 6) (fun _ _ => rfl)) (pv 3) (nomark _)) (pss_one (ps_expr (pe_bm PySem.F.plainAttrs_list PySem.F.slot_list_append PySem.F.type_list_append mt_append (pv 2) (pa_cons (pe_tup (pa_cons (pv 3) (pa_cons (pv 4) (pa_cons (pv 5) pa_nil)))) pa_nil)))) pss_nil)))))
      (pss_one (ps_ret (pe_callB (cr_sortT (d := 3) (B := 1000) (by decide)) (by rfl) (n_sorted T) bt_sorted (pa_cons (pv 2) pa_nil)))))), ?_⟩
    try dsimp only [cxOf, Cx.nox, Cx.wish]
    have hstart : ∀ a0 a1 : V, L2.start N_l_steps [a0, a1] = [some a0, some a1, none, none, none, none, none] := fun _ _ => rfl
    rw [hstart]
    clear hstart
    walk_at "w"
    intro q nq
    have e1 := Same.new nq (o := .lst [])
    have q1 := upd_same (H := H) (a := q) (o := .lst [])
    have h5 := hO.len
    have h3 := hP.few
    have hra1 := (TK.same e1).seq hra
    have ha1 := (TK.same e1).seq ha
    generalize upd H q _ = H1 at *
    walk_at "w"
    refine for_eT (p.1.map vI) (fun i σ H2 => ∃ (v3 v4 v5 v6 : Option V) (ys : List V) (ss : List Stp), σ = [some v, some (.ref a), some (.ref q), v3, v4, v5, v6] ∧ Same H H2 ∧ H2 q = some (.lst ys) ∧ ImAll K H2 ys (ss.map dStep) ∧ ss.length ≤ 5 * i ∧ ∀ s ∈ ss, StepOk ds p.1.length s) ?_ ?_ ?_ ?_
    · exact ⟨none, none, none, none, [], [], rfl, e1, q1, .nil, Nat.le_refl _, fun s h => by cases h⟩
    · rintro i σ H2 _ ⟨_, _, _, _, _, _, _, sm, _⟩
      exact (TK.same sm).seq hra
    · rintro i x σ H2 hi ⟨v3, v4, v5, v6, ys, ss, rfl, sm, hq, hy, hl, hS⟩ U nU
      rw [List.getElem?_map] at hi
      obtain ⟨r, hr1, rfl⟩ := Option.map_eq_some_iff.mp hi
      have il : i < p.1.length := (List.getElem?_eq_some_iff.mp hr1).1
      have hrr := hP.room i r hr1
      have e2 := Same.new nU (o := .tup [.int (i : Nat), vI r])
      have hu : SqT K (upd H2 U (.tup [.int (i : Nat), vI r])) U [.int (i : Nat), vI r] := SqT.of upd_same
      have sm1 := sm.trans e2
      have hq1 := e2 _ _ hq
      have hy1 := hy.tk (TK.same e2)
      generalize upd H2 U _ = H3 at *
      walk_at "w"
      refine ⟨v, ds, r, rfl, hv.tk (TK.same sm1), hO, fun H4 l zs ns hp e4 nl hl4 hz => ?_⟩
      have hlen := hz.len
      rw [List.length_map] at hlen
      have nl2 := hp.length_eq
      have n5 := nbrs_len ds 0 r
      have sm2 := sm1.trans e4
      have hq4 := e4 _ _ hq1
      have hlq : l ≠ q := fun z => by rw [z, hq1] at nl; cases nl
      walk_at "w"
      refine for_listB zs (fun j σ H5 => ∃ (v5 v6 : Option V) (ys : List V) (ss : List Stp), σ = [some v, some (.ref a), some (.ref q), some (vI i), some (vI r), v5, v6] ∧ Same H H5 ∧ H5 l = some (.lst zs) ∧ H5 q = some (.lst ys) ∧ ImAll K H5 ys (ss.map dStep) ∧ TK H4 H5 ∧ ss.length ≤ 5 * i + j ∧ ∀ s ∈ ss, StepOk ds p.1.length s) ?_ ?_ ?_ ?_
      · exact ⟨_, _, ys, ss, rfl, sm2, hl4, hq4, hy1.tk (TK.same e4), TK.refl _, hl, hS⟩
      · rintro j σ H5 _ ⟨_, _, _, _, _, _, h, _⟩
        exact SqL.of h
      · rintro j x σ H5 hj ⟨v5, v6, ys, ss, rfl, sm5, hl5, hq5, hy5, t5, hl, hS⟩
        obtain ⟨dd, hdd, him⟩ := hz.get' hj
        rw [List.getElem?_map] at hdd
        obtain ⟨z, hz1, rfl⟩ := Option.map_eq_some_iff.mp hdd
        have jl : j < ns.length := (List.getElem?_eq_some_iff.mp hz1).1
        obtain ⟨c, rfl, hc⟩ := (him.tk t5).pair_inv
        have hd := hO.nbr (hp.mem_iff.mp (List.mem_of_getElem? hz1))
        obtain ⟨_, _, _, l4⟩ := hO.lt hd
        have hba5 := (TK.same sm5).seq hba
        have ha5 := (TK.same sm5).seq ha
        have yl := hy5.len
        rw [List.length_map] at yl
        walk_at "w"
        refine st_ixT hba5 (at_map (by rw [hP.bl]; exact l4)) ?_
        walk_at "w"
        by_cases hb : p.2.getD z.2 0 = i
        · refine iteNDT (show ((p.2.getD z.2 0 : Nat) : Int) = ((i : Nat) : Int) by omega) ?_
          exact ⟨_, _, ys, ss, rfl, sm5, hl5, hq5, hy5, t5, by omega, hS⟩
        · refine iteNDF (show ¬ ((p.2.getD z.2 0 : Nat) : Int) = ((i : Nat) : Int) by omega) ?_
          walk_at "w"
          intro u nu
          have e6 := Same.new nu (o := .tup [.int (i : Nat), vI r, vI z.1])
          have u6 := upd_same (H := H5) (a := u) (o := .tup [.int (i : Nat), vI r, vI z.1])
          generalize upd H5 u _ = H6 at *
          have hq6 := e6 _ _ hq5
          walk_at "w"
          refine st_append hq6 (by omega) ⟨_, _, ys ++ [.ref u], ss ++ [(i, r, z.1)], rfl, Same.mut (sm5.trans e6) nq, by rw [upd_ne hlq]; exact e6 _ _ hl5, upd_same, ?_, (t5.trans (TK.same e6)).trans (TK.lst hq6), by rw [List.length_append]; show _ + 1 ≤ _; omega, fun s hs => ?_⟩
          · rw [List.map_append]
            exact ((hy5.tk (TK.same e6)).append (.one (Im.step (SqT.of u6)))).tk (TK.lst hq6)
          · rcases List.mem_append.mp hs with hs | hs
            · exact hS s hs
            · rw [List.mem_singleton.mp hs]
              exact ⟨il, _, hd⟩
      · rintro σ H5 ⟨v5, v6, ys, ss, rfl, sm5, hl5, hq5, hy5, t5, hl, hS⟩
        exact ⟨_, _, _, _, ys, ss, rfl, sm5, hq5, hy5, by omega, hS⟩
    · rintro σ H2 ⟨v3, v4, v5, v6, ys, ss, rfl, sm, hq, hy, hl, hS⟩
      rw [List.length_map] at hl
      have yl := hy.len
      rw [List.length_map] at yl
      walk_at "w"
      refine st_sort (d := 3) (ds := ss) (fun z => [z.1, z.2.1, z.2.2]) (SqL.of hq) hy (by omega) (fun z hz => ⟨rfl, fun n hn => ?_⟩) fun r zs es nr hp hz => ?_
      · obtain ⟨s1, i, s2⟩ := hS z hz
        obtain ⟨l1, l2, _⟩ := hO.lt s2
        rcases List.mem_cons.mp hn with rfl | hn
        · omega
        rcases List.mem_cons.mp hn with rfl | hn
        · omega
        · rw [List.mem_singleton.mp hn]; omega
      · exact k _ r zs es (sm.trans (Same.new nr)) (Same.none sm nr) upd_same (hz.tk (TK.new nr)) (by rw [hp.length_eq]; omega) fun s hs => hS s (hp.mem_iff.mp hs)
abbrev N_l_random_steps : List Str := ["_law_generator_here", "_law_doors", "_law_position", "_law_most", "_law_steps_here", "_law_attempt", "_law_allowed", "_law_step"]
theorem sc_l_random_steps : FnScope N_l_random_steps ["_law_generator_here", "_law_doors", "_law_position", "_law_most"] (defScope S_l_random_steps) := ⟨rfl, rfl, rfl, by decide +kernel, rfl, by decide +kernel, by decide +kernel⟩
def sp_l_random_steps (K : PySem.W.Frag) : Sp := fun vs H Q _ => ∃ (g : Addr) (v w : V) (ds : List Door) (p : PosD) (N : Nat), vs = [.ref g, v, w, vI 5] ∧ N < 70000 ∧ GenAt H g N ∧ Im K H v (dDoors ds) ∧ HouseOk ds ∧ Im K H w (dPos p) ∧ PosOk ds p ∧
  ∀ (H' : Hp) (q l : Addr) (y : V) (xs : List V) (ss : List Stp), Kp1 g H H' → H' q = some (.lst [.ref l, y]) → H l = none → H' l = some (.lst xs) → ImAll K H' xs (ss.map dStep) → ss.length ≤ 5 → (∀ s ∈ ss, StepOk ds p.1.length s) → GenAt H' g (N + 100) → Q (.ref q) H'
set_option maxHeartbeats 4000000 in
theorem ok_l_random_steps {P : Program} {w : World} {K : PySem.W.Frag} {mg : Str → Option Value} {base : Heap} (T : Tx K mg) : Ok P w K mg base CX0 4 d_l_random_steps ["_law_generator_here", "_law_doors", "_law_position", "_law_most"] (sp_l_random_steps K) := by
  refine (f_l_random_steps T).ok sc_l_random_steps (fun vs H Q E h => ?_) (fun cdv A outer s H vs Q E hr h => ?_)
  · obtain ⟨g, v, w, ds, p, N, rfl, _⟩ := h
    rfl
  · obtain ⟨g, v, w, ds, p, N, rfl, hN, hG, hv, hO, hw, hP, k⟩ := h
    refine ⟨_, PSs.nox (pss_cons (ps_set (i := 4) sc_l_random_steps.nd rfl (Or.inl rfl) (pe_lst pa_nil))
      (pss_cons (ps_for PassesOwn.never rfl (pi_range1 (by rfl) (n_range T) (pa_cons (pe_call (ok_l_random T) (hr.mono (by decide)) (by rfl) (g_l_random T) (f_l_random T).kp (b_l_random T) .nil pass0 (pa_cons (pv 0) (pa_cons (pe_op op_add (pv 3) pe_int) pa_nil))) pa_nil)) (pg_name (i := 5) sc_l_random_steps.nd rfl (Or.inl rfl)) (pss_cons (ps_set (i := 6) sc_l_random_steps.nd rfl (Or.inl rfl) (pe_call (ok_l_steps T) (hr.mono (by decide)) (by rfl) (g_l_steps T) (f_l_steps T).kp (b_l_steps T) .nil pass0 (pa_cons (pv 1) (pa_cons (pv 2) pa_nil))))
      (pss_one (ps_if (pt_cmpR (op_neD hr.units) (pv 6) (pe_lst pa_nil) (nomark _)) (pss_cons (ps_set (i := 7) sc_l_random_steps.nd rfl (Or.inl rfl) (pe_ix ix_list (pv 6) (pe_call (ok_l_random T) (hr.mono (by decide)) (by rfl) (g_l_random T) (f_l_random T).kp (b_l_random T) .nil pass0 (pa_cons (pv 0) (pa_cons (pe_callB call_lenA (by rfl) (n_len T) bt_len (pa_cons (pv 6) pa_nil)) pa_nil))) (fun _ _ => rfl)))
      (pss_cons (ps_set (i := 2) sc_l_random_steps.nd rfl (Or.inl rfl) (pe_ix ix_list (pe_call (ok_l_moved T) (hr.mono (by decide)) (by rfl) (g_l_moved T) (f_l_moved T).kp (b_l_moved T) .nil pass0 (pa_cons (pv 1) (pa_cons (pv 2) (pa_cons (pv 7) pa_nil)))) pe_int (fun _ _ => rfl)))
      (pss_one (ps_expr (pe_bm PySem.F.plainAttrs_list PySem.F.slot_list_append PySem.F.type_list_append mt_append (pv 4) (pa_cons (pv 7) pa_nil)))))) pss_nil))))
      (pss_one (ps_ret (pe_lst (pa_cons (pv 4) (pa_cons (pv 2) pa_nil))))))), ?_⟩
    try dsimp only [cxOf, Cx.nox, Cx.wish]
    have hstart : ∀ a0 a1 a2 a3 : V, L2.start N_l_random_steps [a0, a1, a2, a3] = [some a0, some a1, some a2, some a3, none, none, none, none] := fun _ _ _ _ => rfl
    rw [hstart]
    clear hstart
    walk_at "w"
    intro l nl
    have e1 := Same.new nl (o := .lst [])
    have l1 := upd_same (H := H) (a := l) (o := .lst [])
    have hlg := hG.ne nl
    have g1 := hG.same e1
    generalize upd H l _ = H1 at *
    walk_at "w"
    refine ⟨g, 6, N, rfl, by decide, by decide, by omega, g1, fun H2 r1 hr1 k2 g2 => ?_⟩
    walk_at "w"
    refine st_r1 r1 rfl (by omega) ?_
    refine for_rangeB (fun i σ H' => ∃ (y : V) (v5 v6 v7 : Option V) (xs : List V) (ss : List Stp) (q : PosD), σ = [some (.ref g), some v, some y, some (vI 5), some (.ref l), v5, v6, v7] ∧ Kp1 g H H' ∧ GenAt H' g (N + 1 + i) ∧
      H' l = some (.lst xs) ∧ ImAll K H' xs (ss.map dStep) ∧ ss.length ≤ i ∧ (∀ s ∈ ss, StepOk ds p.1.length s) ∧ Im K H' y (dPos q) ∧ PosOk ds q ∧ q.1.length = p.1.length) ?_ ?_ ?_
    · exact ⟨w, none, none, none, [], [], p, rfl, (Kp1.same e1).trans k2, g2.mono (by omega), k2 _ _ l1 hlg, .nil, Nat.le_refl _, (fun s h => by cases h), hw.tk ((TK.same e1).trans (g1.tk k2)), hP, rfl⟩
    · rintro i σ H3 hi ⟨y, v5, v6, v7, xs, ss, q, rfl, k3, g3, l3, x3, sl, sS, hy, hQ, hq⟩
      walk_at "w"
      refine ⟨v, y, ds, q, rfl, hv.tk (hG.tk k3), hO, hy, hQ, fun H4 al as ts e4 nal al4 at4 atl atS => ?_⟩
      have alen := at4.len
      rw [List.length_map] at alen
      have hag := g3.ne nal
      have hal : al ≠ l := fun z => by rw [z, l3] at nal; cases nal
      have k4 := k3.then e4
      have g4 := g3.same e4
      walk_at "w"
      intro m nm
      have e5 := Same.new nm (o := .lst [])
      have m5 := upd_same (H := H4) (a := m) (o := .lst [])
      have al5 := e5 _ _ al4
      have at5 := at4.tk (TK.same e5)
      have k5 := k4.then e5
      have g5 := g4.same e5
      generalize upd H4 m _ = H5 at *
      refine st_neD (j := 2) (k := 1) (d := .list (ts.map dStep)) (e := .list []) (.lst (SqL.of al5) at5.dp) (.lst (SqL.of m5) .nil) (Sh.steps _) (Sh.lst fun d hd => (by cases hd)) (by decide) (by decide) ?_
      rw [eqv_nil]
      have x5 := (x3.tk (TK.same (e4.trans e5)))
      have hy5 := hy.tk (TK.same (e4.trans e5))
      have l5 := e5 _ _ (e4 _ _ l3)
      cases ts with
      | nil =>
        refine st_blV (iteNT ?_)
        exact ⟨y, _, _, _, xs, ss, q, rfl, k5, g5.mono (by omega), l5, x5, by omega, sS, hy5, hQ, hq⟩
      | cons t0 ts =>
        refine st_blV (iteNF ?_)
        walk_at "w"
        refine ⟨g, as.length, N + 1 + i, rfl, by rw [alen, List.length_cons]; omega, by rw [alen]; omega, by omega, g5, fun H6 r hr k6 g6 => ?_⟩
        have al6 := k6 _ _ al5 hag
        have at6 := at5.tk (g5.tk k6)
        obtain ⟨z, hz1, hz2⟩ := at6.get (i := r) (d := dStep ((t0 :: ts)[r]'(by rw [← alen]; exact hr))) (by rw [List.getElem?_map, List.getElem?_eq_getElem (by rw [← alen]; exact hr)]; rfl)
        have hzS := atS _ (List.getElem_mem (l := t0 :: ts) (n := r) (by rw [← alen]; exact hr))
        generalize (t0 :: ts)[r]'(by rw [← alen]; exact hr) = st at *
        have tk6 := g5.tk k6
        walk_at "w"
        refine st_ixL (SqL.of al6) (atI_nat hz1) ?_
        walk_at "w"
        refine ⟨v, y, z, ds, q, st, rfl, hv.tk (hG.tk (k5.trans k6)), hO, hy5.tk tk6, hQ, hz2, hzS, fun H7 b u e7 nb b7 hu => ?_⟩
        obtain ⟨o1, o2⟩ := movedOf_ok hO hQ hzS
        walk_at "w"
        have l7 := e7 _ _ (k6 _ _ l5 hlg)
        have xl := x3.len
        rw [List.length_map] at xl
        walk_at "w"
        refine st_append l7 (by omega) ⟨u, _, _, _, _, ss ++ [st], (movedOf ds q st).2, rfl, ((k5.trans k6).then e7).mut nl, (g6.same e7).mono (by omega) |>.at (fun o ho => by rw [upd_ne hlg.symm]; exact ho), upd_same, ?_, by rw [List.length_append]; show _ + 1 ≤ _; omega, fun s hs => ?_, hu.tk (TK.lst l7), o1, by rw [o2, hq]⟩
        · rw [List.map_append]
          exact (((x5.tk tk6).tk (TK.same e7)).append (.one (hz2.tk (TK.same e7)))).tk (TK.lst l7)
        · rcases List.mem_append.mp hs with hs | hs
          · exact sS s hs
          · rw [List.mem_singleton.mp hs, ← hq]
            exact hzS
    · rintro σ H3 ⟨y, v5, v6, v7, xs, ss, q, rfl, k3, g3, l3, x3, sl, sS, hy, hQ, hq⟩
      walk_at "w"
      intro r nr
      have e4 := Same.new nr (o := .lst [.ref l, y])
      exact k _ r l y xs ss (k3.then e4) upd_same nl (e4 _ _ l3) (x3.tk (TK.same e4)) (by omega) sS ((g3.same e4).mono (by omega))
abbrev N_l_random_action : List Str := ["_law_generator_here", "_law_model", "_law_kind", "_law_doors", "_law_position", "_law_people", "_law_person", "_law_near", "_law_targets", "_law_steps_here", "_law_every", "_law_index", "_law_other"]
theorem sc_l_random_action : FnScope N_l_random_action ["_law_generator_here", "_law_model"] (defScope S_l_random_action) := ⟨rfl, rfl, rfl, by decide +kernel, rfl, by decide +kernel, by decide +kernel⟩
def sp_l_random_action (K : PySem.W.Frag) : Sp := fun vs H Q _ => ∃ (H0 : Hp) (g M mh : Addr) (X : List Addr) (ds : List Door) (st : Sta) (N : Nat), vs = [.ref g, .ref M] ∧ N < 60000 ∧ GenAt H g N ∧ Same H0 H ∧ H0 g = none ∧ ModelAt K H0 X M mh ds st ∧ (∀ x ∈ X, H0 x ≠ none) ∧ HouseOk ds ∧ PosOk ds st.p ∧
  ∀ (H' : Hp) (v : V) (a : Act), Kp1 g H H' → ActAt K H' X v a → ActOk ds st.p a → Q v H'
set_option maxHeartbeats 4000000 in
theorem ok_l_random_action {P : Program} {w : World} {K : PySem.W.Frag} {mg : Str → Option Value} {base : Heap} (T : Tx K mg) : Ok P w K mg base CX0 5 d_l_random_action ["_law_generator_here", "_law_model"] (sp_l_random_action K) := by
  refine (f_l_random_action T).ok sc_l_random_action (fun vs H Q E h => ?_) (fun cdv A outer s H vs Q E hr h => ?_)
  · obtain ⟨H0, g, M, mh, X, ds, st, N, rfl, _⟩ := h
    rfl
  · obtain ⟨H0, g, M, mh, X, ds, st, N, rfl, hN, hG, e0, n0, hM, hX, hO, hP, k⟩ := h
    have h5 := hO.len
    have h3 := hP.few
    have hne := hP.ne
    obtain ⟨dv, cv, hs, m1, m2, m3, m4, m5, m6⟩ := hM.ex
    obtain ⟨ca, ml, pz, mxs, rfl, c1, c2, c3, c4, c5⟩ := m3
    refine ⟨_, PSs.nox (pss_cons (ps_set (i := 2) sc_l_random_action.nd rfl (Or.inl rfl) (pe_call (ok_l_random T) (hr.mono (by decide)) (by rfl) (g_l_random T) (f_l_random T).kp (b_l_random T) .nil pass0 (pa_cons (pv 0) (pa_cons pe_int pa_nil))))
      (pss_cons (ps_set (i := 3) sc_l_random_action.nd rfl (Or.inl rfl) (pe_dget (room1 hr) (pv 1) pe_str (fun _ _ => rfl)))
      (pss_cons (ps_set (i := 4) sc_l_random_action.nd rfl (Or.inl rfl) (pe_ix ix_tup (pe_dget (room1 hr) (pv 1) pe_str (fun _ _ => rfl)) pe_int (fun _ _ => rfl)))
      (pss_cons (ps_set (i := 5) sc_l_random_action.nd rfl (Or.inl rfl) (pe_callB call_lenA (by rfl) (n_len T) bt_len (pa_cons (pe_ix ix_tup (pv 4) pe_int (fun _ _ => rfl)) pa_nil)))
      (pss_cons (ps_if (pt_cmpR op_lt (pv 2) pe_int (nomark _)) (pss_cons (ps_set (i := 6) sc_l_random_action.nd rfl (Or.inl rfl) (pe_call (ok_l_random T) (hr.mono (by decide)) (by rfl) (g_l_random T) (f_l_random T).kp (b_l_random T) .nil pass0 (pa_cons (pv 0) (pa_cons (pv 5) pa_nil))))
      (pss_cons (ps_setLc (i := 7) (own := [("_law_other", 12), ("_law_index", 11)]) rfl sc_l_random_action.nd rfl rfl (sw_true rfl rfl rfl (by decide +kernel)) (pi_list (pe_call (ok_l_neighbours T) (hr.mono (by decide)) (by rfl) (g_l_neighbours T) (f_l_neighbours T).kp (b_l_neighbours T) .nil pass0 (pa_cons (pv 3) (pa_cons (pe_ix ix_tup (pe_ix ix_tup (pv 4) pe_int (fun _ _ => rfl)) (pv 6) (fun _ _ => rfl)) pa_nil)))) (blkOk_by (own := [("_law_other", 12), ("_law_index", 11)]) (N := N_l_random_action) (sc := defScope S_l_random_action) (by decide +kernel)) (fun _ _ _ _ _ => (show PG _ _ (gTup K 2 _) from (pg_tup rfl (pgs_cons (pg_name (i := 12) sc_l_random_action.nd rfl (Or.inl rfl)) (pgs_cons (pg_name (i := 11) sc_l_random_action.nd rfl (Or.inl rfl)) pgs_nil))))) (fun _ _ _ _ _ => pts_nil) (fun _ _ _ _ _ => (pv 12)))
      (pss_cons (ps_set (i := 8) sc_l_random_action.nd rfl (Or.inl rfl) (pe_op op_cat (pe_op op_cat (pv 7) (pv 7)) (pe_lst (pa_cons (pe_call (ok_l_random T) (hr.mono (by decide)) (by rfl) (g_l_random T) (f_l_random T).kp (b_l_random T) .nil pass0 (pa_cons (pv 0) (pa_cons (pe_op op_add (pe_callB call_lenA (by rfl) (n_len T) bt_len (pa_cons (pv 3) pa_nil)) pe_int) pa_nil))) pa_nil))))
      (pss_one (ps_ret (pe_tup (pa_cons pe_str (pa_cons (pe_tup (pa_cons (pv 6) (pa_cons (pe_ix ix_list (pv 8) (pe_call (ok_l_random T) (hr.mono (by decide)) (by rfl) (g_l_random T) (f_l_random T).kp (b_l_random T) .nil pass0 (pa_cons (pv 0) (pa_cons (pe_callB call_lenA (by rfl) (n_len T) bt_len (pa_cons (pv 8) pa_nil)) pa_nil))) (fun _ _ => rfl)) pa_nil))) pa_nil)))))))) pss_nil)
      (pss_cons (ps_if (pt_cmpR op_eq (pv 2) pe_int (nomark _)) (pss_one (ps_ret (pe_tup (pa_cons pe_str (pa_cons pe_non pa_nil))))) pss_nil)
      (pss_cons (ps_set (i := 9) sc_l_random_action.nd rfl (Or.inl rfl) (pe_ix ix_list (pe_call (ok_l_random_steps T) (hr.mono (by decide)) (by rfl) (g_l_random_steps T) (f_l_random_steps T).kp (b_l_random_steps T) .nil pass0 (pa_cons (pv 0) (pa_cons (pv 3) (pa_cons (pv 4) (pa_cons pe_int pa_nil))))) pe_int (fun _ _ => rfl)))
      (pss_cons (ps_set (i := 10) sc_l_random_action.nd rfl (Or.inl rfl) (pe_call (ok_l_every_step T) (hr.mono (by decide)) (by rfl) (g_l_every_step T) (f_l_every_step T).kp (b_l_every_step T) .nil pass0 (pa_cons (pv 3) (pa_cons (pv 5) pa_nil))))
      (pss_cons (ps_if (PW.pt (pw_and (pt_cmpR op_gt (pv 2) pe_int (nomark _)) (pw_and1 (pt_cmpR (op_neD hr.units) (pv 10) (pe_lst pa_nil) (nomark _))))) (pss_cons (ps_set (i := 11) sc_l_random_action.nd rfl (Or.inl rfl) (pe_call (ok_l_random T) (hr.mono (by decide)) (by rfl) (g_l_random T) (f_l_random T).kp (b_l_random T) .nil pass0 (pa_cons (pv 0) (pa_cons (pe_op op_add (pe_callB call_lenA (by rfl) (n_len T) bt_len (pa_cons (pv 9) pa_nil)) pe_int) pa_nil))))
      (pss_one (ps_set (i := 9) sc_l_random_action.nd rfl (Or.inl rfl) (pe_op op_cat (pe_op op_cat (pe_slice sl_list (pv 9) po_none (po_some (pv 11))) (pe_lst (pa_cons (pe_ix ix_list (pv 10) (pe_call (ok_l_random T) (hr.mono (by decide)) (by rfl) (g_l_random T) (f_l_random T).kp (b_l_random T) .nil pass0 (pa_cons (pv 0) (pa_cons (pe_callB call_lenA (by rfl) (n_len T) bt_len (pa_cons (pv 10) pa_nil)) pa_nil))) (fun _ _ => rfl)) pa_nil))) (pe_slice sl_list (pv 9) (po_some (pv 11)) po_none))))) pss_nil)
      (pss_one (ps_ret (pe_tup (pa_cons pe_str (pa_cons (pv 9) pa_nil)))))))))))))), ?_⟩
    try dsimp only [cxOf, Cx.nox, Cx.wish]
    have hstart : ∀ a0 a1 : V, L2.start N_l_random_action [a0, a1] = [some a0, some a1, none, none, none, none, none, none, none, none, none, none, none] := fun _ _ => rfl
    rw [hstart]
    clear hstart
    walk_at "w"
    refine ⟨g, 8, N, rfl, by decide, by decide, by omega, hG, fun H1 kd hkd k1 g1 => ?_⟩
    have s1 := Same.kp1 e0 n0 k1
    have m11 := s1 _ _ m1
    walk_at "w"
    refine st_dgetS m11 rfl ?_
    walk_at "w"
    refine st_dgetS m11 rfl ?_
    have c11 := (TK.same s1).seq c1
    obtain ⟨pa, ra, ba, rfl, q1, q2, q3⟩ := (c2.tk (TK.same s1)).pos_inv
    walk_at "w"
    have pl0 : (List.map vI (st.p, st.made).1.1).length = st.p.1.length := List.length_map ..
    rw [pl0]
    have hg1 := Same.kp1 e0 n0 k1
    have nD : ∀ x, x ∈ X → ∀ {H2 : Hp}, Same H0 H2 → ∀ y, H2 y = none → y ≠ x := fun x hx H2 e y hy z => by
      rw [← z] at hx
      exact hX y hx (Same.none e hy)
    by_cases c3 : kd < 3
    · refine iteDT (by omega) ?_
      walk_at "w"
      refine ⟨g, st.p.1.length, N + 1, rfl, hne, by omega, by omega, g1, fun H2 pr hpr k2 g2 => ?_⟩
      have tk2 := g1.tk k2
      have s2 := Same.kp1 s1 n0 k2
      have q12 := tk2.seq q1
      have q22 := tk2.seq q2
      have kA := k1.trans k2
      walk_at "w"
      refine st_ixT q22 (at_map hpr) ?_
      walk_at "w"
      refine ⟨dv, ds, st.p.1.getD pr 0, rfl, m2.tk (TK.same s2), hO, fun H3 nq nv ns hp e3 nnq nl3 nx => ?_⟩
      have nvl := nx.len
      rw [List.length_map] at nvl
      have nl := hp.length_eq
      have n5 := nbrs_len ds 0 (st.p.1.getD pr 0)
      walk_at "w"
      refine lc_listB nv fun Dl nD2 => ⟨fun j H4 => Same H3 H4 ∧ H4 Dl = some (.lst ((ns.take j).map fun z => vI z.1)), ⟨Same.new nD2, upd_same⟩, ?_, ?_, ?_⟩
      · rintro j H4 _ ⟨sm, _⟩
        exact SqL.of (sm _ _ nl3)
      · rintro j x H4 hj ⟨sm, hD⟩
        obtain ⟨dd, hdd, him⟩ := nx.get' hj
        rw [List.getElem?_map] at hdd
        obtain ⟨z, hz, rfl⟩ := Option.map_eq_some_iff.mp hdd
        obtain ⟨il, _⟩ := List.getElem?_eq_some_iff.mp hz
        obtain ⟨c, rfl, hc⟩ := (him.tk (TK.same sm)).pair_inv
        have ht : ns.take (j + 1) = ns.take j ++ [z] := by rw [List.take_add_one, hz]; rfl
        walk_at "w"
        refine ⟨rfl, yes_ (iteT ?_)⟩
        walk_at "w"
        refine ⟨_, hD, small16 (by rw [List.length_map, List.length_take]; omega), Same.mut sm nD2, ?_⟩
        rw [upd_same, ht, List.map_append]
        rfl
      · rintro H4 ⟨sm, hD⟩
        rw [nvl, List.take_length] at hD
        have s4 := (s2.trans e3).trans sm
        have g4 := (g2.same e3).same sm
        have k4 := (kA.then e3).then sm
        walk_at "w"
        refine ⟨Dl, Dl, _, _, rfl, rfl, hD, hD, by rw [sizeLine_eq, List.length_map]; omega, fun t1 nt1 => ?_⟩
        have e5 := Same.new nt1 (o := .lst ((ns.map fun z => vI z.1) ++ (ns.map fun z => vI z.1)))
        have t15 := upd_same (H := H4) (a := t1) (o := .lst ((ns.map fun z => vI z.1) ++ (ns.map fun z => vI z.1)))
        have t1g := g4.ne nt1
        have g5 := g4.same e5
        have k5 := k4.then e5
        have s5 := s4.trans e5
        generalize upd H4 t1 _ = H5 at *
        obtain ⟨da, dxs, rfl, da1, da2⟩ := m2.tup_inv
        have da5 := (TK.same s5).seq da1
        have dl1 : dxs.length = ds.length := by rw [da2.len, List.length_map]
        walk_at "w"
        refine ⟨g, ds.length + 1, N + 2, by rw [dl1]; rfl, by omega, by omega, by omega, g5, fun H6 x6 hx6 k6' g6 => ?_⟩
        have t16 := k6' _ _ t15 t1g
        have k6 := k5.trans k6'
        walk_at "w"
        intro t2 nt2
        have e7 := Same.new nt2 (o := .lst [vI x6])
        have t27 := upd_same (H := H6) (a := t2) (o := .lst [vI x6])
        have g7 := g6.same e7
        have t17 := e7 _ _ t16
        generalize upd H6 t2 _ = H7 at *
        refine ⟨t1, t2, _, _, rfl, rfl, t17, t27, by rw [sizeLine_eq, List.length_append, List.length_map]; show _ + 1 ≤ _; omega, fun t3 nt3 => ?_⟩
        have eL : ((ns.map fun z => vI z.1) ++ (ns.map fun z => vI z.1)) ++ [vI x6] = (((ns.map fun z => z.1) ++ (ns.map fun z => z.1)) ++ [x6]).map vI := by
          rw [List.map_append, List.map_append, List.map_map]; rfl
        rw [eL]
        have hL : ∀ z ∈ ((ns.map fun z => z.1) ++ (ns.map fun z => z.1)) ++ [x6], z < ds.length + 1 := fun z hz => by
          have hn : z ∈ (ns.map fun z => z.1) → z < ds.length + 1 := fun hz => by
            obtain ⟨y, hy, rfl⟩ := List.mem_map.mp hz
            exact (hO.lt (hO.nbr (hp.mem_iff.mp hy))).2.1
          rcases List.mem_append.mp hz with hz | hz
          · rcases List.mem_append.mp hz with hz | hz
            · exact hn hz
            · exact hn hz
          · rw [List.mem_singleton.mp hz]; exact hx6
        have lL : (((ns.map fun z => z.1) ++ (ns.map fun z => z.1)) ++ [x6]).length < 100 := by
          rw [List.length_append, List.length_append, List.length_map]; show _ + 1 < _; omega
        have lL0 : 0 < (((ns.map fun z => z.1) ++ (ns.map fun z => z.1)) ++ [x6]).length := by
          rw [List.length_append]; show 0 < _ + 1; omega
        generalize ((ns.map fun z => z.1) ++ (ns.map fun z => z.1)) ++ [x6] = L at *
        have e8 := Same.new nt3 (o := .lst (L.map vI))
        have t38 := upd_same (H := H7) (a := t3) (o := .lst (L.map vI))
        have t3g := g7.ne nt3
        have g8 := g7.same e8
        have k8 := (k6.then e7).then e8
        generalize upd H7 t3 _ = H8 at *
        walk_at "w"
        refine ⟨g, L.length, N + 3, by rw [List.length_map]; rfl, lL0, by omega, by omega, g8, fun H9 r9 hr9 k9' g9 => ?_⟩
        have t39 := k9' _ _ t38 t3g
        have k9 := k8.trans k9'
        walk_at "w"
        refine st_ixL (SqL.of t39) (at_map hr9) ?_
        walk_at "w"
        intro u nu
        have eA := Same.new nu (o := .tup [vI pr, vI (L.getD r9 0)])
        have uA := upd_same (H := H9) (a := u) (o := .tup [vI pr, vI (L.getD r9 0)])
        generalize upd H9 u _ = HA at *
        walk_at "w"
        intro w nw
        have eB := Same.new nw (o := .tup [.str "go", .ref u])
        have hr9' : L.getD r9 0 ∈ L := List.mem_of_getElem? (get_of hr9)
        exact k _ (.ref w) (.go pr (L.getD r9 0)) ((k9.then eA).then eB) (Im.two (SqT.of upd_same) (.str _) (Im.pair (SqT.of (eB _ _ uA)))) ⟨hpr, hL _ hr9'⟩
    · refine iteDF (by omega) ?_
      walk_at "w"
      by_cases c4 : kd = 3
      · refine iteDT (by omega) ?_
        walk_at "w"
        intro w nw
        exact k _ (.ref w) .undo (k1.then (Same.new nw)) (Im.two (SqT.of upd_same) (.str _) .non) trivial
      · refine iteDF (by omega) ?_
        walk_at "w"
        refine ⟨g, dv, _, ds, st.p, N + 1, rfl, by omega, g1, m2.tk (TK.same s1), hO, c2.tk (TK.same s1), hP, fun H2 rq l y lx ss k2' r2 nlH l2 lx2 ssl ssS g2 => ?_⟩
        have s2 := Same.kp1 s1 n0 k2'
        have k2 := k1.trans k2'
        have lH0 : H0 l = none := Same.none s1 nlH
        have lg : l ≠ g := g1.ne nlH
        refine st_c ?_
        walk_at "w"
        refine ⟨dv, ds, st.p.1.length, rfl, m2.tk (TK.same s2), hO, h3, fun H3 q qx qs e3 nq q3' qi ql qS => ?_⟩
        have g3 := g2.same e3
        have s3 := s2.trans e3
        have k3 := k2.then e3
        have l3 := e3 _ _ l2
        have lx3 := lx2.tk (TK.same e3)
        have qg := g2.ne nq
        have qxl := qi.len
        rw [List.length_map] at qxl
        have lxl := lx2.len
        rw [List.length_map] at lxl
        have last : ∀ (H' : Hp) (w l : Addr) (xs : List V) (ss : List Stp), Kp1 g H H' → H' l = some (.lst xs) → H0 l = none → ImAll K H' xs (ss.map dStep) → ss.length ≤ 6 → (∀ s ∈ ss, StepOk ds st.p.1.length s) → H' w = none → Q (.ref w) (upd H' w (.tup [.str "play", .ref l])) := by
          intro H' w l xs ss kk hl hl0 hx hs hS nw
          exact k _ (.ref w) (.play ss) (kk.then (Same.new nw)) ⟨w, l, xs, rfl, SqT.of upd_same, Same.new nw _ _ hl, fun hx => hX l hx hl0, hx.tk (TK.new nw)⟩ ⟨hs, hS⟩
        walk_at "w"
        by_cases c5 : 5 < kd
        · refine iteDT (by omega) ?_
          walk_at "w"
          intro m nm
          have e4 := Same.new nm (o := .lst [])
          have m4 := upd_same (H := H3) (a := m) (o := .lst [])
          have q4 := e4 _ _ q3'
          have qi4 := qi.tk (TK.same e4)
          have g4 := g3.same e4
          have k4 := k3.then e4
          have s4 := s3.trans e4
          have l4 := e4 _ _ l3
          have lx4 := lx3.tk (TK.same e4)
          generalize upd H3 m _ = H4 at *
          refine st_neD (j := 2) (k := 1) (d := .list (qs.map dStep)) (e := .list []) (.lst (SqL.of q4) qi4.dp) (.lst (SqL.of m4) .nil) (Sh.steps _) (Sh.lst fun d hd => (by cases hd)) (by decide) (by decide) ?_
          rw [eqv_nil]
          cases qs with
          | nil =>
            refine st_blV (iteNT ?_)
            walk_at "w"
            intro w nw
            exact last _ w l lx ss k4 l4 lH0 lx4 (by omega) ssS nw
          | cons t0 ts =>
            refine st_blV (iteNF ?_)
            walk_at "w"
            refine ⟨g, lx.length + 1, N + 101, rfl, by omega, by omega, by omega, g4.mono (by omega), fun H5 ix hix k5' g5 => ?_⟩
            have l5 := k5' _ _ l4 lg
            have tk5 := g4.tk k5'
            have q5 := k5' _ _ q4 qg
            have k5 := k4.trans k5'
            have lx5 := lx4.tk tk5
            have qi5 := qi4.tk tk5
            have s5 := Same.kp1 s4 n0 k5'
            walk_at "w"
            refine ⟨l, lx, rfl, SqL.of l5, fun u1 nu1 => ?_⟩
            rw [cut_take]
            have e6 := Same.new nu1 (o := .lst (lx.take ix))
            have u16 := upd_same (H := H5) (a := u1) (o := .lst (lx.take ix))
            have u1g := g5.ne nu1
            have l6 := e6 _ _ l5
            have q6 := e6 _ _ q5
            have g6 := g5.same e6
            have k6 := k5.then e6
            have s6 := s5.trans e6
            have lx6 := lx5.tk (TK.same e6)
            have qi6 := qi5.tk (TK.same e6)
            generalize upd H5 u1 _ = H6 at *
            walk_at "w"
            refine ⟨g, qx.length, N + 102, rfl, by rw [qxl]; exact Nat.succ_pos _, by omega, by omega, g6.mono (by omega), fun H7 rr hrr k7' g7 => ?_⟩
            have tk7 := g6.tk k7'
            have l7 := k7' _ _ l6 lg
            have q7 := k7' _ _ q6 qg
            have u17 := k7' _ _ u16 u1g
            have k7 := k6.trans k7'
            have s7 := Same.kp1 s6 n0 k7'
            have lx7 := lx6.tk tk7
            obtain ⟨z, hz1, hz2⟩ := (qi6.tk tk7).get (i := rr) (d := dStep ((t0 :: ts)[rr]'(by rw [← qxl]; exact hrr))) (by rw [List.getElem?_map, List.getElem?_eq_getElem (by rw [← qxl]; exact hrr)]; rfl)
            have hzS := qS _ (List.getElem_mem (l := t0 :: ts) (n := rr) (by rw [← qxl]; exact hrr))
            generalize (t0 :: ts)[rr]'(by rw [← qxl]; exact hrr) = sx at *
            walk_at "w"
            refine st_ixL (SqL.of q7) (atI_nat hz1) ?_
            walk_at "w"
            intro u2 nu2
            have e8 := Same.new nu2 (o := .lst [z])
            have u28 := upd_same (H := H7) (a := u2) (o := .lst [z])
            have u18 := e8 _ _ u17
            have l8 := e8 _ _ l7
            have k8 := k7.then e8
            have s8 := s7.trans e8
            have lx8 := lx7.tk (TK.same e8)
            have hz8 := hz2.tk (TK.same e8)
            generalize upd H7 u2 _ = H8 at *
            refine ⟨u1, u2, _, _, rfl, rfl, u18, u28, by rw [sizeLine_eq, List.length_take]; show _ + 1 ≤ _; omega, fun u3 nu3 => ?_⟩
            have e9 := Same.new nu3 (o := .lst (lx.take ix ++ [z]))
            have u39 := upd_same (H := H8) (a := u3) (o := .lst (lx.take ix ++ [z]))
            have l9 := e9 _ _ l8
            have k9 := k8.then e9
            have s9 := s8.trans e9
            have lx9 := lx8.tk (TK.same e9)
            have hz9 := hz8.tk (TK.same e9)
            generalize upd H8 u3 _ = H9 at *
            walk_at "w"
            refine ⟨l, lx, rfl, SqL.of l9, fun u4 nu4 => ?_⟩
            rw [cut_drop]
            have eA := Same.new nu4 (o := .lst (lx.drop ix))
            have u4A := upd_same (H := H9) (a := u4) (o := .lst (lx.drop ix))
            have u3A := eA _ _ u39
            have kA := k9.then eA
            have sA := s9.trans eA
            have lxA := lx9.tk (TK.same eA)
            have hzA := hz9.tk (TK.same eA)
            generalize upd H9 u4 _ = HA at *
            refine ⟨u3, u4, _, _, rfl, rfl, u3A, u4A, by rw [sizeLine_eq, List.length_append, List.length_take, List.length_drop]; show _ + 1 + _ ≤ _; omega, fun u5 nu5 => ?_⟩
            have eB := Same.new nu5 (o := .lst (lx.take ix ++ [z] ++ lx.drop ix))
            have u5B := upd_same (H := HA) (a := u5) (o := .lst (lx.take ix ++ [z] ++ lx.drop ix))
            have kB := kA.then eB
            have lxB := lxA.tk (TK.same eB)
            have hzB := hzA.tk (TK.same eB)
            have u50 := Same.none sA nu5
            generalize upd HA u5 _ = HB at *
            walk_at "w"
            intro w nw
            refine last HB w u5 _ (ss.take ix ++ [sx] ++ ss.drop ix) kB u5B u50 ?_ ?_ ?_ nw
            · rw [List.map_append, List.map_append, List.map_take, List.map_drop]
              exact ((lxB.take ix).append (.one hzB)).append (lxB.drop ix)
            · rw [List.length_append, List.length_append, List.length_take, List.length_drop]
              show _ + 1 + _ ≤ _
              omega
            · intro s hs
              rcases List.mem_append.mp hs with hs | hs
              · rcases List.mem_append.mp hs with hs | hs
                · exact ssS s (List.mem_of_mem_take hs)
                · rw [List.mem_singleton.mp hs]; exact hzS
              · exact ssS s (List.mem_of_mem_drop hs)
        · refine iteDF (by omega) ?_
          walk_at "w"
          intro w nw
          exact last _ w l lx ss k3 l3 lH0 lx3 (by omega) ssS nw
abbrev N_l_shuffled : List Str := ["_law_generator_here", "_law_items", "_law_pool", "_law_item"]
theorem sc_l_shuffled : FnScope N_l_shuffled ["_law_generator_here", "_law_items"] (defScope S_l_shuffled) := ⟨rfl, rfl, rfl, by decide +kernel, rfl, by decide +kernel, by decide +kernel⟩
def sp_l_shuffled (K : PySem.W.Frag) : Sp := fun vs H Q _ => ∃ (g l : Addr) (xs : List V) (N : Nat), vs = [.ref g, .ref l] ∧ H l = some (.lst xs) ∧ l ≠ g ∧ xs.length < 100 ∧ N < 80000 ∧ GenAt H g N ∧ ∀ H' q ys, ys.Perm xs → Kp1 g H H' → H q = none → H' q = some (.lst ys) → GenAt H' g (N + xs.length) → Q (.ref q) H'
set_option maxHeartbeats 4000000 in
theorem ok_l_shuffled {P : Program} {w : World} {K : PySem.W.Frag} {mg : Str → Option Value} {base : Heap} (T : Tx K mg) : Ok P w K mg base CX0 4 d_l_shuffled ["_law_generator_here", "_law_items"] (sp_l_shuffled K) := by
  refine (f_l_shuffled T).ok sc_l_shuffled (fun vs H Q E h => ?_) (fun cdv A outer s H vs Q E hr h => ?_)
  · obtain ⟨g, l, xs, N, rfl, _⟩ := h
    rfl
  · obtain ⟨g, l, xs, N, rfl, hl, hlg, h1, h2, hG, k⟩ := h
    refine ⟨_, PSs.nox (pss_cons (ps_set (i := 2) sc_l_shuffled.nd rfl (Or.inr rfl) (pe_callTy call_listA (by rfl) (n_list T) bt_list (pa_cons (pv 1) pa_nil)))
      (pss_one (ps_ret (pe_lc (own := [("_law_item", 3)]) rfl sc_l_shuffled.nd (pi_list (pv 1)) (blkOk_by (own := [("_law_item", 3)]) (N := N_l_shuffled) (sc := defScope S_l_shuffled) (by decide +kernel)) (fun _ _ _ _ _ => pg_name (i := 3) sc_l_shuffled.nd rfl (Or.inl rfl)) (fun _ _ _ _ _ => pts_nil) (fun _ _ _ _ _ => (show PE _ _ (tBM K "list" rPopAt _ _) from (pe_bm PySem.F.plainAttrs_list PySem.F.slot_list_pop PySem.F.type_list_pop mt_popAt (pv 2) (pa_cons (pe_call (ok_l_random T) (hr.mono (by decide)) (by rfl) (g_l_random T) (f_l_random T).kp (b_l_random T) .nil pass0 (pa_cons (pv 0) (pa_cons (pe_callB (show CallR _ _ (rLenA K) from call_lenA) (by rfl) (n_len T) bt_len (pa_cons (pv 2) pa_nil)) pa_nil))) pa_nil)))))))), ?_⟩
    try dsimp only [cxOf, Cx.nox, Cx.wish]
    have hstart : ∀ a0 a1 : V, L2.start N_l_shuffled [a0, a1] = [some a0, some a1, none, none] := fun _ _ => rfl
    rw [hstart]
    clear hstart
    walk_at "w"
    intro q nq
    have e1 := Same.new nq (o := .lst xs)
    have q1 := upd_same (H := H) (a := q) (o := .lst xs)
    have hqg := hG.ne nq
    have hl1 := e1 _ _ hl
    have hG1 := hG.same e1
    generalize upd H q _ = H1 at *
    walk_at "w"
    refine lc_listB xs fun Dl nD => ⟨fun i H2 => ∃ done rest : List V, Kp1 g H H2 ∧ H2 q = some (.lst rest) ∧ H2 Dl = some (.lst done) ∧ done.length = i ∧ (done ++ rest).Perm xs ∧ GenAt H2 g (N + i), ?_, ?_, ?_, ?_⟩
    · have hqD : q ≠ Dl := fun z => by rw [← z, q1] at nD; cases nD
      exact ⟨[], xs, (Kp1.same e1).mut (Same.none e1 nD), by rw [upd_ne hqD]; exact q1, upd_same, rfl, List.Perm.refl _, hG1.same (Same.new nD)⟩
    · rintro i H2 _ ⟨done, rest, kp, _⟩
      exact SqL.of (kp _ _ hl hlg)
    · rintro i x H2 hi ⟨done, rest, kp, hr, hD, hd, hp, hg⟩
      have il : i < xs.length := (List.getElem?_eq_some_iff.mp hi).1
      have hlen := hp.length_eq
      rw [List.length_append] at hlen
      refine lc_yes rfl (iteT ?_)
      have hDg : Dl ≠ g := hG1.ne nD
      have hqD : q ≠ Dl := fun z => by rw [← z, q1] at nD; cases nD
      walk_at "w"
      refine ⟨g, rest.length, N + i, rfl, by omega, by omega, by omega, hg, fun H3 r hr3 k3 g3 => ?_⟩
      walk_at "w"
      have hr' := k3 _ _ hr hqg
      have hD' := k3 _ _ hD hDg
      refine ⟨q, rest, r, r, _, rfl, rfl, hr', by omega, by omega, (ixN_seq (ixN_nat hr3)).1, List.getElem?_eq_getElem hr3, ?_⟩
      refine ⟨done, by rw [upd_ne hqD.symm]; exact hD', small16 (by omega), done ++ [rest[r]], rest.eraseIdx r, ?_, ?_, upd_same, by rw [List.length_append, hd]; rfl, ?_, ?_⟩
      · exact ((kp.trans k3).mut nq).mut (Same.none e1 nD)
      · rw [upd_ne hqD, upd_same]
      · refine List.Perm.trans ?_ hp
        rw [List.append_assoc]
        exact List.Perm.append_left _ (perm_erase (List.getElem?_eq_getElem hr3)).symm
      · refine g3.at fun o ho => ?_
        rw [upd_ne hDg.symm, upd_ne hqg.symm]
        exact ho
    · rintro H2 ⟨done, rest, kp, hr, hD, hd, hp, hg⟩
      have hlen := hp.length_eq
      rw [List.length_append] at hlen
      have : rest = [] := List.eq_nil_of_length_eq_zero (by omega)
      subst this
      rw [List.append_nil] at hp
      exact k H2 Dl done hp kp (Same.none e1 nD) hD hg
abbrev N_l_random_house : List Str := ["_law_generator_here", "_law_most", "_law_size", "_law_kind", "_law_doors", "_law_room", "_law_other", "_law_names", "_law_renamed", "_law_one", "_law_ends"]
theorem sc_l_random_house : FnScope N_l_random_house ["_law_generator_here", "_law_most"] (defScope S_l_random_house) := ⟨rfl, rfl, rfl, by decide +kernel, rfl, by decide +kernel, by decide +kernel⟩
def sp_l_random_house (K : PySem.W.Frag) : Sp := fun vs H Q _ => ∃ (g : Addr) (N : Nat), vs = [.ref g, vI 6] ∧ N < 70000 ∧ GenAt H g N ∧ ∀ (H' : Hp) (v : V) (ds : List Door), Kp1 g H H' → HouseOk ds → Im K H' v (dDoors ds) → GenAt H' g (N + 100) → Q v H'
set_option maxHeartbeats 4000000 in
theorem ok_l_random_house {P : Program} {w : World} {K : PySem.W.Frag} {mg : Str → Option Value} {base : Heap} (T : Tx K mg) : Ok P w K mg base CX0 5 d_l_random_house ["_law_generator_here", "_law_most"] (sp_l_random_house K) := by
  refine (f_l_random_house T).ok sc_l_random_house (fun vs H Q E h => ?_) (fun cdv A outer s H vs Q E hr h => ?_)
  · obtain ⟨g, N, rfl, _⟩ := h
    rfl
  · obtain ⟨g, N, rfl, hN, hG, k⟩ := h
    refine ⟨_, PSs.nox (pss_cons (ps_set (i := 2) sc_l_random_house.nd rfl (Or.inl rfl) (pe_op op_add pe_int (pe_call (ok_l_random T) (hr.mono (by decide)) (by rfl) (g_l_random T) (f_l_random T).kp (b_l_random T) .nil pass0 (pa_cons (pv 0) (pa_cons (pv 1) pa_nil)))))
      (pss_cons (ps_set (i := 3) sc_l_random_house.nd rfl (Or.inl rfl) (pe_call (ok_l_random T) (hr.mono (by decide)) (by rfl) (g_l_random T) (f_l_random T).kp (b_l_random T) .nil pass0 (pa_cons (pv 0) (pa_cons pe_int pa_nil))))
      (pss_cons (ps_set (i := 4) sc_l_random_house.nd rfl (Or.inl rfl) (pe_lst pa_nil))
      (pss_cons (ps_for PassesOwn.never rfl (pi_range2 (by rfl) (n_range T) (pa_cons pe_int (pa_cons (pv 2) pa_nil))) (pg_name (i := 5) sc_l_random_house.nd rfl (Or.inl rfl)) (pss_cons (ps_set (i := 6) sc_l_random_house.nd rfl (Or.inl rfl) (pe_ix ix_list (pe_lst (pa_cons (pe_op op_sub (pv 5) pe_int) (pa_cons pe_int (pa_cons (pe_call (ok_l_random T) (hr.mono (by decide)) (by rfl) (g_l_random T) (f_l_random T).kp (b_l_random T) .nil pass0 (pa_cons (pv 0) (pa_cons (pv 5) pa_nil))) (pa_cons (pe_callB (call_max2A rfl) (by rfl) (n_max T) bt_max (pa_cons pe_int (pa_cons (pe_op op_sub (pe_op op_sub (pv 5) pe_int) (pe_call (ok_l_random T) (hr.mono (by decide)) (by rfl) (g_l_random T) (f_l_random T).kp (b_l_random T) .nil pass0 (pa_cons (pv 0) (pa_cons pe_int pa_nil)))) pa_nil))) pa_nil))))) (pv 3) (fun _ _ => rfl)))
      (pss_one (ps_expr (pe_bm PySem.F.plainAttrs_list PySem.F.slot_list_append PySem.F.type_list_append mt_append (pv 4) (pa_cons (pe_tup (pa_cons (pv 6) (pa_cons (pv 5) pa_nil))) pa_nil))))))
      (pss_cons (ps_set (i := 7) sc_l_random_house.nd rfl (Or.inl rfl) (pe_call (ok_l_shuffled T) (hr.mono (by decide)) (by rfl) (g_l_shuffled T) (f_l_shuffled T).kp (b_l_shuffled T) .nil pass0 (pa_cons (pv 0) (pa_cons (pe_listRg rfl (by rfl) (n_list T) (prg_1 (by rfl) (n_range T) (pv 2))) pa_nil))))
      (pss_cons (ps_set (i := 8) sc_l_random_house.nd rfl (Or.inl rfl) (pe_lst pa_nil))
      (pss_cons (ps_for PassesOwn.never rfl (pi_list (pe_call (ok_l_shuffled T) (hr.mono (by decide)) (by rfl) (g_l_shuffled T) (f_l_shuffled T).kp (b_l_shuffled T) .nil pass0 (pa_cons (pv 0) (pa_cons (pv 4) pa_nil)))) (pg_tup rfl (pgs_cons (pg_name (i := 9) sc_l_random_house.nd rfl (Or.inl rfl)) (pgs_cons (pg_name (i := 6) sc_l_random_house.nd rfl (Or.inl rfl)) pgs_nil))) (pss_cons (ps_set (i := 10) sc_l_random_house.nd rfl (Or.inl rfl) (pe_tup (pa_cons (pe_ix ix_list (pv 7) (pv 9) (fun _ _ => rfl)) (pa_cons (pe_ix ix_list (pv 7) (pv 6) (fun _ _ => rfl)) pa_nil))))
      (pss_one (ps_expr (pe_bm PySem.F.plainAttrs_list PySem.F.slot_list_append PySem.F.type_list_append mt_append (pv 8) (pa_cons (pe_slice3 (pv 10) po_none po_none (pe_op op_sub pe_int (pe_op op_mul pe_int (pe_call (ok_l_random T) (hr.mono (by decide)) (by rfl) (g_l_random T) (f_l_random T).kp (b_l_random T) .nil pass0 (pa_cons (pv 0) (pa_cons pe_int pa_nil)))))) pa_nil))))))
      (pss_one (ps_ret (pe_callTy call_tupA (by rfl) (n_tuple T) bt_tuple (pa_cons (pv 8) pa_nil))))))))))), ?_⟩
    try dsimp only [cxOf, Cx.nox, Cx.wish]
    have hstart : ∀ a0 a1 : V, L2.start N_l_random_house [a0, a1] = [some a0, some a1, none, none, none, none, none, none, none, none, none] := fun _ _ => rfl
    rw [hstart]
    clear hstart
    walk_at "w"
    refine ⟨g, 6, N, rfl, by decide, by decide, by omega, hG, fun H1 r1 hr1 k1 g1 => ?_⟩
    walk_at "w"
    refine ⟨g, 4, N + 1, rfl, by decide, by decide, by omega, g1, fun H2 kd hkd k2 g2 => ?_⟩
    walk_at "w"
    intro dl nd
    have e3 := Same.new nd (o := .lst [])
    have d3 := upd_same (H := H2) (a := dl) (o := .lst [])
    have g3 := g2.same e3
    have kA := (k1.trans k2).then e3
    have hdg : dl ≠ g := g2.ne nd
    have ndH : H dl = none := Kp1.none (k1.trans k2) nd hdg
    generalize upd H2 dl _ = H3 at *
    walk_at "w"
    refine st_r2 (r1 + 1) (by omega) (by omega) ?_
    refine for_rangeB (fun i σ H' => ∃ (v5 v6 v7 v8 v9 v10 : Option V) (D : List Door) (ys : List V), σ = [some (.ref g), some (.int 6), some (.int (1 + (r1 : Int))), some (vI kd), some (.ref dl), v5, v6, v7, v8, v9, v10] ∧ Kp1 g H H' ∧ GenAt H' g (N + 2 + 2 * i) ∧
      H' dl = some (.lst ys) ∧ ImAll K H' ys (D.map dPair) ∧ D.length = i ∧ ∀ (j : Nat) (d : Door), D[j]? = some d → d.2 = j + 1 ∧ d.1 ≤ j) ?_ ?_ ?_
    · exact ⟨none, none, none, none, none, none, [], [], rfl, kA, g3, d3, .nil, rfl, fun j d e => by simp at e⟩
    · rintro i σ H4 hi ⟨v5, v6, v7, v8, v9, v10, D, ys, rfl, kB, g4, d4, im4, dl4, hD⟩
      have iln : i < 5 := by omega
      walk_at "w"
      refine ⟨g, i + 1, N + 2 + 2 * i, by rw [show (1 : Int) + (i : Int) = ((i + 1 : Nat) : Int) by omega]; rfl, by omega, by omega, by omega, g4, fun H5 x1 hx1 k5 g5 => ?_⟩
      walk_at "w"
      refine ⟨g, 3, N + 2 + 2 * i + 1, rfl, by decide, by decide, by omega, g5, fun H6 x2 hx2 k6 g6 => ?_⟩
      have k56 := k5.trans k6
      have d6 := k56 _ _ d4 hdg
      have im6 := im4.tk (g4.tk k56)
      have kC := kB.trans k56
      walk_at "w"
      intro c nc
      walk_at "w"
      have hat : ∃ o : Nat, atI [V.int (1 + (i : Int) - 1), V.int 0, vI x1, V.int (if 1 + (i : Int) - 1 - (x2 : Int) > 0 then 1 + (i : Int) - 1 - (x2 : Int) else 0)] (kd : Int) = some (vI o) ∧ o ≤ i := by
        have h4 : kd = 0 ∨ kd = 1 ∨ kd = 2 ∨ kd = 3 := by omega
        rcases h4 with rfl | rfl | rfl | rfl
        · exact ⟨i, by rw [show (1 : Int) + (i : Int) - 1 = (i : Int) by omega]; rfl, Nat.le_refl _⟩
        · exact ⟨0, rfl, Nat.zero_le _⟩
        · exact ⟨x1, rfl, by omega⟩
        · by_cases hc : 1 + (i : Int) - 1 - (x2 : Int) > 0
          · rw [if_pos hc]
            exact ⟨i - x2, by rw [show 1 + (i : Int) - 1 - (x2 : Int) = ((i - x2 : Nat) : Int) by omega]; rfl, by omega⟩
          · rw [if_neg hc]
            exact ⟨0, rfl, Nat.zero_le _⟩
      obtain ⟨o, ho, hoi⟩ := hat
      refine st_ixL (SqL.of upd_same) ho ?_
      have e7 := Same.new nc (o := .lst [V.int (1 + (i : Int) - 1), V.int 0, vI x1, V.int (if 1 + (i : Int) - 1 - (x2 : Int) > 0 then 1 + (i : Int) - 1 - (x2 : Int) else 0)])
      generalize upd H6 c _ = H7 at *
      have d7 := e7 _ _ d6
      have im7 := im6.tk (TK.same e7)
      have g7 := g6.same e7
      have kD := kC.then e7
      have yl := im7.len
      rw [List.length_map] at yl
      walk_at "w"
      intro u nu
      have e8 := Same.new nu (o := .tup [vI o, .int (1 + (i : Int))])
      have u8 := upd_same (H := H7) (a := u) (o := .tup [vI o, .int (1 + (i : Int))])
      generalize upd H7 u _ = H8 at *
      have d8 := e8 _ _ d7
      walk_at "w"
      have tk9 := TK.lst d8 (o := .lst (ys ++ [.ref u]))
      refine st_append d8 (by omega) ⟨_, _, _, _, _, _, D ++ [(o, i + 1)], ys ++ [.ref u], rfl, (kD.then e8).mut ndH, (g7.same e8).mono (by omega) |>.at (fun z hz => by rw [upd_ne hdg.symm]; exact hz), upd_same, ?_, by rw [List.length_append, dl4]; rfl, fun j d hj => ?_⟩
      · rw [List.map_append]
        exact ((im7.tk (TK.same e8)).append (.one (Im.pair (SqT.of (by rw [u8, show (1 : Int) + (i : Int) = ((i + 1 : Nat) : Int) by omega]))))).tk tk9
      · by_cases hji : j < D.length
        · rw [List.getElem?_append_left hji] at hj
          exact hD j d hj
        · rw [List.getElem?_append_right (by omega)] at hj
          have : j - D.length = 0 := by
            have := (List.getElem?_eq_some_iff.mp hj).1
            simp at this
            omega
          rw [this] at hj
          have hd : (o, i + 1) = d := by simpa using hj
          subst hd
          exact ⟨by show i + 1 = j + 1; omega, by show o ≤ j; omega⟩
    · rintro σ H4 ⟨v5, v6, v7, v8, v9, v10, D, ys, rfl, kB, g4, d4, im4, dl4, hD⟩
      have yl := im4.len
      rw [List.length_map] at yl
      walk_at "w"
      refine ⟨RgOk.of_le (by decide) (by omega) (by decide) (by omega), fun rl nrl => ?_⟩
      have er : rgV 0 (1 + (r1 : Int)) = (List.range (r1 + 1)).map vI := by rw [show (1 : Int) + (r1 : Int) = ((r1 + 1 : Nat) : Int) by omega, rgV_range]
      rw [er]
      have e5 := Same.new nrl (o := .lst ((List.range (r1 + 1)).map vI))
      have r5 := upd_same (H := H4) (a := rl) (o := .lst ((List.range (r1 + 1)).map vI))
      have hrg : rl ≠ g := g4.ne nrl
      generalize upd H4 rl _ = H5 at *
      have g5 := g4.same e5
      walk_at "w"
      refine ⟨g, rl, _, N + 12, rfl, r5, hrg, by rw [List.length_map, List.length_range]; omega, by omega, g5.mono (by omega), fun H6 nl nms hp k6 nnl n6 g6 => ?_⟩
      rw [List.length_map, List.length_range] at g6
      obtain ⟨names, hnp, rfl⟩ := perm_map hp _ rfl
      have hng : nl ≠ g := g5.ne nnl
      have nlen : names.length = r1 + 1 := by rw [hnp.length_eq, List.length_range]
      have d6 := k6 _ _ (e5 _ _ d4) hdg
      have im6 := (im4.tk (TK.same e5)).tk (g5.tk k6)
      have kC := (kB.then e5).trans k6
      walk_at "w"
      intro ql nq
      have e7 := Same.new nq (o := .lst [])
      have q7 := upd_same (H := H6) (a := ql) (o := .lst [])
      have hqg : ql ≠ g := g6.ne nq
      have ndq : H ql = none := Kp1.none kC nq hqg
      generalize upd H6 ql _ = H7 at *
      have g7 := g6.same e7
      have n7 := e7 _ _ n6
      walk_at "w"
      refine ⟨g, dl, ys, N + 18, rfl, e7 _ _ d6, hdg, by omega, by omega, g7.mono (by omega), fun H8 sl zs hpz k8 nsl s8 g8 => ?_⟩
      have hsg : sl ≠ g := g7.ne nsl
      obtain ⟨es, hes, imz⟩ := ((im6.tk (TK.same e7)).tk (g7.tk k8)).perm hpz
      obtain ⟨E, hED, rfl⟩ := perm_map hes _ rfl
      have zl := imz.len
      rw [List.length_map] at zl
      have el := hED.length_eq
      have q8 := k8 _ _ q7 hqg
      have n8 := k8 _ _ n7 hng
      have hqs : ql ≠ sl := fun z => by rw [← z, q7] at nsl; cases nsl
      have hqn : ql ≠ nl := fun z => by rw [z, n6] at nq; cases nq
      walk_at "w"
      refine for_listB zs (fun i σ H' => ∃ (v5 v6 v9 v10 : Option V) (ds : List Door) (ws : List V), σ = [some (.ref g), some (.int 6), some (.int (1 + (r1 : Int))), some (vI kd), some (.ref dl), v5, v6, some (.ref nl), some (.ref ql), v9, v10] ∧ Kp1 g H H' ∧ GenAt H' g (N + 30 + i) ∧
        H' ql = some (.lst ws) ∧ H' nl = some (.lst (names.map vI)) ∧ H' sl = some (.lst zs) ∧ ImAll K H' zs (E.map dPair) ∧ ImAll K H' ws (ds.map dPair) ∧ ds.length = i ∧ ∀ (j : Nat) (d e : Door), ds[j]? = some d → E[j]? = some e → d = rnm names e ∨ d = ((rnm names e).2, (rnm names e).1)) ?_ ?_ ?_ ?_
      · exact ⟨_, _, _, _, [], [], rfl, (kC.then e7).trans k8, g8.mono (by omega), q8, n8, s8, imz, .nil, rfl, fun j d e h => by simp at h⟩
      · rintro i σ H' _ ⟨_, _, _, _, _, _, _, _, _, _, _, hs, _⟩
        exact SqL.of hs
      · rintro i x σ H9 hi ⟨v5, v6, v9, v10, ds, ws, rfl, kp, g9, q9, n9, s9, iz9, iw9, dsl, hds⟩
        obtain ⟨dd, hdd, him⟩ := iz9.get' hi
        rw [List.getElem?_map] at hdd
        obtain ⟨e, he, rfl⟩ := Option.map_eq_some_iff.mp hdd
        obtain ⟨il, _⟩ := List.getElem?_eq_some_iff.mp he
        obtain ⟨b, rfl, hb⟩ := him.pair_inv
        have hem : e ∈ D := hED.mem_iff.mp (List.mem_of_getElem? he)
        obtain ⟨jj, hj1, hj2⟩ := List.mem_iff_getElem.mp hem
        obtain ⟨f1, f2⟩ := hD jj e (by rw [List.getElem?_eq_getElem hj1, hj2])
        walk_at "w"
        refine st_ixL (SqL.of n9) (at_map (by omega)) ?_
        walk_at "w"
        refine st_ixL (SqL.of n9) (at_map (by omega)) ?_
        walk_at "w"
        intro c nc
        have eA := Same.new nc (o := .tup [vI (names.getD e.1 0), vI (names.getD e.2 0)])
        have cA := upd_same (H := H9) (a := c) (o := .tup [vI (names.getD e.1 0), vI (names.getD e.2 0)])
        generalize upd H9 c _ = HA at *
        have qA := eA _ _ q9
        have gA := g9.same eA
        walk_at "w"
        refine ⟨g, 2, N + 30 + i, rfl, by decide, by decide, by omega, gA, fun HB r hr kB' gB => ?_⟩
        have qB := kB' _ _ qA hqg
        have tB := (TK.same eA).trans (gA.tk kB')
        have cB : SqT K HB c [vI (names.getD e.1 0), vI (names.getD e.2 0)] := (gA.tk kB').seq (SqT.of cA)
        have nB := kB' _ _ (eA _ _ n9) hng
        have sB := kB' _ _ (eA _ _ s9) hsg
        have kpB := (kp.then eA).trans kB'
        have wl := iw9.len
        rw [List.length_map] at wl
        walk_at "w"
        refine st_I (.inl ⟨by decide, by decide⟩) ?_
        walk_at "w"
        have r2 : r = 0 ∨ r = 1 := by omega
        rcases r2 with rfl | rfl
        · refine st_sl2f cB ?_
          walk_at "w"
          refine st_append qB (by omega) ⟨_, _, _, _, ds ++ [rnm names e], ws ++ [.ref c], rfl, kpB.mut (ndq), ((gB.mono (by omega)).at (fun z hz => by rw [upd_ne hqg.symm]; exact hz)), upd_same, ?_, ?_, ?_, ?_, ?_, ?_⟩
          · rw [upd_ne hqn.symm]; exact nB
          · rw [upd_ne hqs.symm]; exact sB
          · exact (iz9.tk tB).tk (TK.lst qB)
          · rw [List.map_append]
            exact ((iw9.tk tB).append (.one (Im.pair cB))).tk (TK.lst qB)
          · rw [List.length_append, dsl]; rfl
          · intro j d e' h1 h2
            by_cases hji : j < ds.length
            · rw [List.getElem?_append_left hji] at h1
              exact hds j d e' h1 h2
            · rw [List.getElem?_append_right (by omega)] at h1
              have hj0 : j - ds.length = 0 := by
                have := (List.getElem?_eq_some_iff.mp h1).1
                simp at this
                omega
              rw [hj0] at h1
              have hji' : j = i := by omega
              subst hji'
              rw [he] at h2
              cases h2
              have hd : rnm names e = d := by simpa using h1
              exact .inl hd.symm
        · refine st_sl2b cB fun y ny => ?_
          have eC := Same.new ny (o := .tup [vI (names.getD e.2 0), vI (names.getD e.1 0)])
          have yC := upd_same (H := HB) (a := y) (o := .tup [vI (names.getD e.2 0), vI (names.getD e.1 0)])
          generalize upd HB y _ = HC at *
          have qC := eC _ _ qB
          walk_at "w"
          refine st_append qC (by omega) ⟨_, _, _, _, ds ++ [((rnm names e).2, (rnm names e).1)], ws ++ [.ref y], rfl, (kpB.then eC).mut ndq, (((gB.same eC).mono (by omega)).at (fun z hz => by rw [upd_ne hqg.symm]; exact hz)), upd_same, ?_, ?_, ?_, ?_, ?_, ?_⟩
          · rw [upd_ne hqn.symm]; exact eC _ _ nB
          · rw [upd_ne hqs.symm]; exact eC _ _ sB
          · exact ((iz9.tk tB).tk (TK.same eC)).tk (TK.lst qC)
          · rw [List.map_append]
            exact (((iw9.tk tB).tk (TK.same eC)).append (.one (Im.pair (SqT.of yC)))).tk (TK.lst qC)
          · rw [List.length_append, dsl]; rfl
          · intro j d e' h1 h2
            by_cases hji : j < ds.length
            · rw [List.getElem?_append_left hji] at h1
              exact hds j d e' h1 h2
            · rw [List.getElem?_append_right (by omega)] at h1
              have hj0 : j - ds.length = 0 := by
                have := (List.getElem?_eq_some_iff.mp h1).1
                simp at this
                omega
              rw [hj0] at h1
              have hji' : j = i := by omega
              subst hji'
              rw [he] at h2
              cases h2
              have hd : ((rnm names e).2, (rnm names e).1) = d := by simpa using h1
              exact .inr hd.symm
      · rintro σ H9 ⟨v5, v6, v9, v10, ds, ws, rfl, kp, g9, q9, n9, s9, iz9, iw9, dsl, hds⟩
        have wl := iw9.len
        rw [List.length_map] at wl
        walk_at "w"
        intro t nt
        have G : Grown (r1 + 1) D E ds names := ⟨by omega, by omega, hD, hED, hnp, by omega, hds⟩
        exact k _ _ ds (kp.then (Same.new nt)) G.ok (.tup (SqT.of upd_same) (iw9.tk (TK.new nt))) ((g9.same (Same.new nt)).mono (by omega))
abbrev N_l_random_state : List Str := ["_law_generator_here", "_law_doors", "_law_people", "_law_size", "_law_spread", "_law_places", "_law_person", "_law_door"]
theorem sc_l_random_state : FnScope N_l_random_state ["_law_generator_here", "_law_doors", "_law_people"] (defScope S_l_random_state) := ⟨rfl, rfl, rfl, by decide +kernel, rfl, by decide +kernel, by decide +kernel⟩
def sp_l_random_state (K : PySem.W.Frag) : Sp := fun vs H Q _ => ∃ (g : Addr) (v : V) (ds : List Door) (n N : Nat), vs = [.ref g, v, vI n] ∧ Im K H v (dDoors ds) ∧ ds.length ≤ 5 ∧ 0 < n ∧ n ≤ 3 ∧ N < 70000 ∧ GenAt H g N ∧
  ∀ (H' : Hp) (w : V) (p : PosD), Kp1 g H H' → PosOk ds p → Im K H' w (dPos p) → GenAt H' g (N + 100) → Q w H'
set_option maxHeartbeats 4000000 in
theorem ok_l_random_state {P : Program} {w : World} {K : PySem.W.Frag} {mg : Str → Option Value} {base : Heap} (T : Tx K mg) : Ok P w K mg base CX0 4 d_l_random_state ["_law_generator_here", "_law_doors", "_law_people"] (sp_l_random_state K) := by
  refine (f_l_random_state T).ok sc_l_random_state (fun vs H Q E h => ?_) (fun cdv A outer s H vs Q E hr h => ?_)
  · obtain ⟨g, v, ds, n, N, rfl, _⟩ := h
    rfl
  · obtain ⟨g, v, ds, n, N, rfl, hv, h5, h0, h3, hN, hG, k⟩ := h
    obtain ⟨w, xs, rfl, ha, hx⟩ := hv.tup_inv
    have hl : xs.length = ds.length := by rw [hx.len, List.length_map]
    refine ⟨_, PSs.nox (pss_cons (ps_set (i := 3) sc_l_random_state.nd rfl (Or.inl rfl) (pe_op op_add (pe_callB call_lenA (by rfl) (n_len T) bt_len (pa_cons (pv 1) pa_nil)) pe_int))
      (pss_cons (ps_set (i := 4) sc_l_random_state.nd rfl (Or.inr rfl) (pe_ix ix_list (pe_lst (pa_cons (pv 3) (pa_cons (pv 3) (pa_cons (pe_op op_add pe_int (pe_call (ok_l_random T) (hr.mono (by decide)) (by rfl) (g_l_random T) (f_l_random T).kp (b_l_random T) .nil pass0 (pa_cons (pv 0) (pa_cons (pv 3) pa_nil)))) pa_nil)))) (pe_call (ok_l_random T) (hr.mono (by decide)) (by rfl) (g_l_random T) (f_l_random T).kp (b_l_random T) .nil pass0 (pa_cons (pv 0) (pa_cons pe_int pa_nil))) (fun _ _ => rfl)))
      (pss_cons (ps_setLc (i := 5) (own := [("_law_person", 6)]) rfl sc_l_random_state.nd rfl rfl (sw_true rfl rfl rfl (by decide +kernel)) (pi_range1 (by rfl) (n_range T) (pa_cons (pv 2) pa_nil)) (blkOk_by (own := [("_law_person", 6)]) (N := N_l_random_state) (sc := defScope S_l_random_state) (by decide +kernel)) (fun _ _ _ _ _ => pg_name (i := 6) sc_l_random_state.nd rfl (Or.inl rfl)) (fun _ _ _ _ _ => pts_nil) (fun _ _ _ _ _ => (pe_call (ok_l_random T) (hr.mono (by decide)) (by rfl) (g_l_random T) (f_l_random T).kp (b_l_random T) .nil pass0 (pa_cons (pv 0) (pa_cons (pv 4) pa_nil)))))
      (pss_one (ps_ret (pe_tup (pa_cons (pe_callTy call_tupA (by rfl) (n_tuple T) bt_tuple (pa_cons (pv 5) pa_nil)) (pa_cons (pe_callTy call_tupA (by rfl) (n_tuple T) bt_tuple (pa_cons (pe_lc (own := [("_law_door", 7)]) rfl sc_l_random_state.nd (pi_tup (pv 1)) (blkOk_by (own := [("_law_door", 7)]) (N := N_l_random_state) (sc := defScope S_l_random_state) (by decide +kernel)) (fun _ _ _ _ _ => pg_name (i := 7) sc_l_random_state.nd rfl (Or.inl rfl)) (fun _ _ _ _ _ => pts_nil) (fun _ _ _ _ _ => (pe_call (ok_l_random T) (hr.mono (by decide)) (by rfl) (g_l_random T) (f_l_random T).kp (b_l_random T) .nil pass0 (pa_cons (pv 0) (pa_cons (pv 2) pa_nil))))) pa_nil)) pa_nil)))))))), ?_⟩
    try dsimp only [cxOf, Cx.nox, Cx.wish]
    have hstart : ∀ a0 a1 a2 : V, L2.start N_l_random_state [a0, a1, a2] = [some a0, some a1, some a2, none, none, none, none, none] := fun _ _ _ => rfl
    rw [hstart]
    clear hstart
    walk_at "w"
    refine ⟨g, ds.length + 1, N, by rw [hl]; rfl, by omega, by omega, by omega, hG, fun H1 r1 hr1 k1 g1 => ?_⟩
    walk_at "w"
    intro c nc
    have e2 := Same.new nc (o := .lst [V.int ((xs.length : Int) + 1), V.int ((xs.length : Int) + 1), V.int (1 + (r1 : Int))])
    have c2 := upd_same (H := H1) (a := c) (o := .lst [V.int ((xs.length : Int) + 1), V.int ((xs.length : Int) + 1), V.int (1 + (r1 : Int))])
    have hcg : c ≠ g := g1.ne nc
    have g2 := g1.same e2
    have k2 := k1.then e2
    generalize upd H1 c _ = H2 at *
    walk_at "w"
    refine ⟨g, 3, N + 1, rfl, by decide, by decide, by omega, g2, fun H3 r3 hr3 k3 g3 => ?_⟩
    have c3 := k3 _ _ c2 hcg
    have k13 := k2.trans k3
    have hat : ∃ o : Nat, atI [V.int ((xs.length : Int) + 1), V.int ((xs.length : Int) + 1), V.int (1 + (r1 : Int))] (r3 : Int) = some (vI o) ∧ 0 < o ∧ o ≤ ds.length + 1 := by
      have h4 : r3 = 0 ∨ r3 = 1 ∨ r3 = 2 := by omega
      rcases h4 with rfl | rfl | rfl
      · exact ⟨ds.length + 1, by rw [hl]; rfl, by omega, by omega⟩
      · exact ⟨ds.length + 1, by rw [hl]; rfl, by omega, by omega⟩
      · exact ⟨r1 + 1, by rw [show 1 + (r1 : Int) = ((r1 + 1 : Nat) : Int) by omega]; rfl, by omega, by omega⟩
    obtain ⟨o, ho, ho1, ho2⟩ := hat
    walk_at "w"
    refine st_ixL (SqL.of c3) ho ?_
    walk_at "w"
    refine st_r1 n rfl (by omega) ?_
    refine lc_rangeB fun Dl nD => ⟨fun i H4 => ∃ pl : List Nat, pl.length = i ∧ (∀ (j r : Nat), pl[j]? = some r → r < ds.length + 1) ∧ H4 Dl = some (.lst (pl.map vI)) ∧ Kp1 g H H4 ∧ GenAt H4 g (N + 2 + i), ?_, ?_, ?_⟩
    · have ndH : H Dl = none := Kp1.none k13 nD (g3.ne nD)
      exact ⟨[], rfl, fun j r h => by simp at h, upd_same, k13.mut ndH, (g3.same (Same.new nD)).mono (by omega)⟩
    · rintro i H4 hi ⟨pl, pl1, pl2, pl3, k4, g4⟩
      have hDg := g3.ne nD
      have ndH : H Dl = none := Kp1.none k13 nD hDg
      refine lc_yes rfl (iteT ?_)
      walk_at "w"
      refine ⟨g, o, N + 2 + i, rfl, ho1, by omega, by omega, g4, fun H5 r5 hr5 k5 g5 => ?_⟩
      refine ⟨pl.map vI, k5 _ _ pl3 hDg, small16 (by rw [List.length_map]; omega), pl ++ [r5], by rw [List.length_append, pl1]; rfl, fun j r h => ?_, by rw [upd_same, List.map_append]; rfl, (k4.trans k5).mut ndH, g5.at fun z hz => by rw [upd_ne hDg.symm]; exact hz⟩
      by_cases hj : j < pl.length
      · rw [List.getElem?_append_left hj] at h
        exact pl2 j r h
      · rw [List.getElem?_append_right (by omega)] at h
        have : r5 = r := by
          have h0 : j - pl.length = 0 := by
            have := (List.getElem?_eq_some_iff.mp h).1
            simp at this
            omega
          rw [h0] at h
          simpa using h
        omega
    · rintro H4 ⟨pl, pl1, pl2, pl3, k4, g4⟩
      walk_at "w"
      intro t nt
      have e5 := Same.new nt (o := .tup (pl.map vI))
      have t5 := upd_same (H := H4) (a := t) (o := .tup (pl.map vI))
      have g5 := g4.same e5
      have k5 := k4.then e5
      generalize upd H4 t _ = H5 at *
      have ha5 := (hG.tk k5).seq ha
      have hx5 := hx.tk (hG.tk k5)
      walk_at "w"
      refine lc_tupB xs fun El nE => ⟨fun i H6 => ∃ bs : List Nat, bs.length = i ∧ (∀ (j r : Nat), bs[j]? = some r → r < n) ∧ H6 El = some (.lst (bs.map vI)) ∧ Kp1 g H H6 ∧ GenAt H6 g (N + 10 + i) ∧ TK H5 H6, ?_, ?_, ?_, ?_⟩
      · have ndH : H El = none := Kp1.none k5 nE (g5.ne nE)
        exact ⟨[], rfl, fun j r h => by simp at h, upd_same, k5.mut ndH, (g5.same (Same.new nE)).mono (by omega), TK.new nE⟩
      · rintro i H6 _ ⟨_, _, _, _, _, _, tk⟩
        exact tk.seq ha5
      · rintro i x H6 hi ⟨bs, b1, b2, b3, k6, g6, t6⟩
        have il : i < xs.length := (List.getElem?_eq_some_iff.mp hi).1
        have hEg := g5.ne nE
        have ndH : H El = none := Kp1.none k5 nE hEg
        refine lc_yes rfl (iteT ?_)
        walk_at "w"
        refine ⟨g, n, N + 10 + i, rfl, h0, by omega, by omega, g6, fun H7 r7 hr7 k7 g7 => ?_⟩
        have b4 := k7 _ _ b3 hEg
        refine ⟨bs.map vI, b4, small16 (by rw [List.length_map]; omega), bs ++ [r7], by rw [List.length_append, b1]; rfl, fun j r h => ?_, by rw [upd_same, List.map_append]; rfl, (k6.trans k7).mut ndH, g7.at (fun z hz => by rw [upd_ne hEg.symm]; exact hz), (t6.trans (g6.tk k7)).trans (TK.lst b4)⟩
        by_cases hj : j < bs.length
        · rw [List.getElem?_append_left hj] at h
          exact b2 j r h
        · rw [List.getElem?_append_right (by omega)] at h
          have : r7 = r := by
            have h0 : j - bs.length = 0 := by
              have := (List.getElem?_eq_some_iff.mp h).1
              simp at this
              omega
            rw [h0] at h
            simpa using h
          omega
      · rintro H6 ⟨bs, b1, b2, b3, k6, g6, t6⟩
        walk_at "w"
        intro u nu
        have e7 := Same.new nu (o := .tup (bs.map vI))
        have u7 := upd_same (H := H6) (a := u) (o := .tup (bs.map vI))
        have tt := t6.trans (TK.same e7)
        have g7 := g6.same e7
        have k7 := k6.then e7
        generalize upd H6 u _ = H7 at *
        walk_at "w"
        intro w2 nw
        have e8 := Same.new nw (o := .tup [.ref t, .ref u])
        refine k _ _ (pl, bs) (k7.then e8) ⟨by show 0 < pl.length; omega, by show pl.length ≤ 3; omega, by show bs.length = ds.length; omega, pl2, fun j r h => by show r < pl.length; rw [pl1]; exact b2 j r h⟩ (Im.pos (p := (pl, bs)) (SqT.of upd_same) ((tt.trans (TK.same e8)).seq (SqT.of t5)) (SqT.of (e8 _ _ u7))) ((g7.same e8).mono (by omega))
abbrev N_first_ring : List Str := ["house", "group", "door", "one", "other", "old", "new", "number"]
theorem sc_first_ring : FnScope N_first_ring ["house"] (defScope S_first_ring) := ⟨rfl, rfl, rfl, by decide +kernel, rfl, by decide +kernel, by decide +kernel⟩
def sp_first_ring (K : PySem.W.Frag) : Sp := fun vs H Q _ => ∃ (v : V) (ds : List Door), vs = [v] ∧ Im K H v (dDoors ds) ∧ HouseOk ds ∧ ∀ H', Same H H' → Q .non H'
set_option maxHeartbeats 4000000 in
theorem ok_first_ring {P : Program} {w : World} {K : PySem.W.Frag} {mg : Str → Option Value} {base : Heap} (T : Tx K mg) : Ok P w K mg base CX0 2 d_first_ring ["house"] (sp_first_ring K) := by
  refine (f_first_ring T).ok sc_first_ring (fun vs H Q E h => ?_) (fun cdv A outer s H vs Q E hr h => ?_)
  · obtain ⟨v, ds, rfl, _⟩ := h
    rfl
  · obtain ⟨v, ds, rfl, hv, hO, k⟩ := h
    obtain ⟨a, xs, rfl, ha, hx⟩ := hv.tup_inv
    have hl : xs.length = ds.length := by rw [hx.len, List.length_map]
    refine ⟨_, PSs.nox (pss_cons (ps_set (i := 1) sc_first_ring.nd rfl (Or.inl rfl) (pe_listRg rfl (by rfl) (n_list T) (prg_1 (by rfl) (n_range T) (pe_op op_add (pe_callB call_lenA (by rfl) (n_len T) bt_len (pa_cons (pv 0) pa_nil)) pe_int))))
      (pss_cons (ps_for PassesOwn.never rfl (pi_enumT (by rfl) (n_enumerate T) (pa_cons (pv 0) pa_nil)) (pg_tup rfl (pgs_cons (pg_name (i := 2) sc_first_ring.nd rfl (Or.inl rfl)) (pgs_cons (pg_tup rfl (pgs_cons (pg_name (i := 3) sc_first_ring.nd rfl (Or.inl rfl)) (pgs_cons (pg_name (i := 4) sc_first_ring.nd rfl (Or.inl rfl)) pgs_nil))) pgs_nil))) (pss_cons (ps_asg (pe_tup (pa_cons (pe_ix ix_list (pv 1) (pv 3) (fun _ _ => rfl)) (pa_cons (pe_ix ix_list (pv 1) (pv 4) (fun _ _ => rfl)) pa_nil))) (pg_tup rfl (pgs_cons (pg_name (i := 5) sc_first_ring.nd rfl (Or.inr rfl)) (pgs_cons (pg_name (i := 6) sc_first_ring.nd rfl (Or.inr rfl)) pgs_nil))))
      (pss_cons (ps_if (pt_cmpR op_eq (pv 5) (pv 6) (nomark _)) (pss_one (ps_ret (pv 2))) pss_nil)
      (pss_one (ps_setLc (i := 1) (own := [("number", 7)]) rfl sc_first_ring.nd rfl rfl (sw_true rfl rfl rfl (by decide +kernel)) (pi_list (pv 1)) (blkOk_by (own := [("number", 7)]) (N := N_first_ring) (sc := defScope S_first_ring) (by decide +kernel)) (fun _ _ _ _ _ => pg_name (i := 7) sc_first_ring.nd rfl (Or.inl rfl)) (fun _ _ _ _ _ => pts_nil) (fun _ _ _ _ _ => (pe_ifExp (pt_cmpR op_eq (pv 7) (pv 5) (nomark _)) (pv 6) (pv 7))))))))
      (pss_one (ps_ret pe_non)))), ?_⟩
    try dsimp only [cxOf, Cx.nox, Cx.wish]
    have hstart : ∀ a0 : V, L2.start N_first_ring [a0] = [some a0, none, none, none, none, none, none, none] := fun _ => rfl
    rw [hstart]
    clear hstart
    walk_at "go"
    refine ⟨RgOk.of_le (by decide) (by have := hO.len; omega) (by decide) (by omega), fun p np => ?_⟩
    have e0 : rgV 0 ((xs.length : Int) + 1) = (List.range (ds.length + 1)).map vI := by
      rw [hl, show ((ds.length : Int) + 1) = ((ds.length + 1 : Nat) : Int) by omega, rgV_range]
    rw [e0]
    refine ⟨_, rfl, _, _, rfl, (TK.new np).seq ha, for_enumT (K := K) (a := a) (xs := xs) (fun i σ H' => ∃ (q : Addr) (lab : List Nat) (v2 v3 v4 v5 v6 v7 : Option V), σ = [some (.ref a), some (.ref q), v2, v3, v4, v5, v6, v7] ∧ Same H H' ∧
      H' q = some (.lst (lab.map vI)) ∧ lab.length = ds.length + 1 ∧ ringFree lab (ds.drop i) = true) ?_ ?_ ?_ ?_⟩
    · exact ⟨p, _, none, none, none, none, none, none, rfl, Same.new np, upd_same, List.length_range, hO.free⟩
    · rintro i σ H' _ ⟨q, lab, v2, v3, v4, v5, v6, v7, _, sm, _⟩
      exact (TK.same sm).seq ha
    · rintro i x σ H' hi ⟨q, lab, v2, v3, v4, v5, v6, v7, rfl, sm, hq, hll, hr⟩ U nU
      obtain ⟨dd, hdd, him⟩ := hx.get' hi
      rw [List.getElem?_map] at hdd
      obtain ⟨d, hd, rfl⟩ := Option.map_eq_some_iff.mp hdd
      obtain ⟨b, rfl, hb⟩ := him.pair_inv
      have hb1 : SqT K (upd H' U (.tup [.int (i : Nat), .ref b])) b [vI d.1, vI d.2] := ((TK.same sm).trans (TK.new nU)).seq hb
      have hq1 : (upd H' U (.tup [.int (i : Nat), .ref b])) q = some (.lst (lab.map vI)) := by rw [upd_ne (ne_of_none hq nU)]; exact hq
      obtain ⟨b1, b2, b3⟩ := hO.ends d (List.mem_of_getElem? hd)
      walk_at "go"
      refine st_ixL (SqL.of hq1) (at_map (by omega)) ?_
      walk_at "go"
      refine st_ixL (SqL.of hq1) (at_map (by omega)) ?_
      walk_at "go"
      intro W nW
      walk_at "go"
      have hdrop : ds.drop i = d :: ds.drop (i + 1) := by
        obtain ⟨hil, e⟩ := List.getElem?_eq_some_iff.mp hd
        rw [List.drop_eq_getElem_cons hil, e]
      rw [hdrop] at hr
      obtain ⟨hr1, hr2⟩ := Bool.and_eq_true_iff.mp (show (!(decide (lab.getD d.1 0 = lab.getD d.2 0)) && ringFree (merge lab d.1 d.2) (ds.drop (i + 1))) = true from hr)
      have hne : ¬ ((lab.getD d.1 0 : Nat) : Int) = ((lab.getD d.2 0 : Nat) : Int) := by
        have : ¬ lab.getD d.1 0 = lab.getD d.2 0 := by simpa using hr1
        omega
      refine iteDF hne ?_
      walk_at "go"
      have sm2 : Same H (upd (upd H' U (.tup [.int (i : Nat), .ref b])) W (.tup [vI (lab.getD d.1 0), vI (lab.getD d.2 0)])) := (sm.trans (Same.new nU)).trans (Same.new nW)
      have hq2 : (upd (upd H' U (.tup [.int (i : Nat), .ref b])) W (.tup [vI (lab.getD d.1 0), vI (lab.getD d.2 0)])) q = some (.lst (lab.map vI)) := by rw [upd_ne (ne_of_none hq1 nW)]; exact hq1
      refine ⟨_, rfl, q, rfl, ⟨_, SqL.of hq2⟩, fun Dl nD => lc_mapL (K := K) (a := q) (xs := lab.map vI) (fun z => if z = vI (lab.getD d.1 0) then vI (lab.getD d.2 0) else z) nD (SqL.of hq2) (by rw [List.length_map]; have := hO.len; omega) (fun x => rfl) ?_ ?_⟩
      · intro x H2 Q2 hxm sm3 kq
        obtain ⟨z, _, rfl⟩ := List.mem_map.mp hxm
        walk_at "go"
        by_cases hz : z = lab.getD d.1 0
        · refine iteDT (by rw [hz]) ?_
          walk_at "go"
          rw [if_pos (by rw [hz])] at kq
          exact kq
        · refine iteDF (fun e => hz (by omega)) ?_
          walk_at "go"
          rw [if_neg (fun e => hz (by have := V.int.inj e; omega))] at kq
          exact kq
      · intro H2 sm3 hD2
        refine ⟨Dl, merge lab d.1 d.2, _, _, _, _, _, _, rfl, sm2.trans sm3, ?_, by rw [merge_len]; exact hll, hr2⟩
        rw [hD2]
        unfold merge
        rw [List.map_map, List.map_map]
        refine congrArg (fun l => some (HO.lst l)) (List.map_congr_left fun z _ => ?_)
        show (if vI z = vI (lab.getD d.1 0) then vI (lab.getD d.2 0) else vI z) = vI (if z = lab.getD d.1 0 then lab.getD d.2 0 else z)
        by_cases hz : z = lab.getD d.1 0
        · rw [if_pos hz, if_pos (by rw [hz])]
        · rw [if_neg hz, if_neg (fun e => hz (by have := V.int.inj e; omega))]
    · rintro σ H' ⟨q, lab, v2, v3, v4, v5, v6, v7, rfl, sm, hq, hll, hr⟩
      exact k H' sm
abbrev N_is_door : List Str := ["value", "size"]
theorem sc_is_door : FnScope N_is_door ["value", "size"] (defScope S_is_door) := ⟨rfl, rfl, rfl, by decide +kernel, rfl, by decide +kernel, by decide +kernel⟩
def sp_is_door (K : PySem.W.Frag) : Sp := fun vs H Q _ => ∃ (v : V) (d : Door) (n : Nat), vs = [v, vI n] ∧ Im K H v (dPair d) ∧ d.1 < n ∧ d.2 < n ∧ d.1 ≠ d.2 ∧ Q (.bl true) H
set_option maxHeartbeats 4000000 in
theorem ok_is_door {P : Program} {w : World} {K : PySem.W.Frag} {mg : Str → Option Value} {base : Heap} (T : Tx K mg) : Ok P w K mg base CX0 4 d_is_door ["value", "size"] (sp_is_door K) := by
  refine (f_is_door T).ok sc_is_door (fun vs H Q E h => ?_) (fun cdv A outer s H vs Q E hr h => ?_)
  · obtain ⟨v, d, n, rfl, _⟩ := h
    rfl
  · obtain ⟨v, d, n, rfl, hv, h1, h2, h3, k⟩ := h
    obtain ⟨a, rfl, ha⟩ := hv.pair_inv
    refine ⟨_, PSs.nox (pss_cons (ps_if (PW.pt (pw_or (pt_not (pt_val (pe_callB call_isi (by rfl) (n_isinstance T) bt_isinstance (pa_cons (pv 0) (pa_cons (pe_bltn (v := .ty "tuple") (by rfl) (n_tuple T) bt_tuple rfl) pa_nil))))) (pw_or1 (pt_cmpR op_ne (pe_callB call_lenA (by rfl) (n_len T) bt_len (pa_cons (pv 0) pa_nil)) pe_int (nomark _))))) (pss_one (ps_ret pe_bl)) pss_nil)
      (pss_one (ps_ret (pe_and (pe_call (ok_is_index T) (hr.mono (by decide)) (by rfl) (g_is_index T) (f_is_index T).kp (b_is_index T) .nil pass0 (pa_cons (pe_ix ix_tup (pv 0) pe_int (fun _ _ => rfl)) (pa_cons (pv 1) pa_nil))) (pe_and (pe_call (ok_is_index T) (hr.mono (by decide)) (by rfl) (g_is_index T) (f_is_index T).kp (b_is_index T) .nil pass0 (pa_cons (pe_ix ix_tup (pv 0) pe_int (fun _ _ => rfl)) (pa_cons (pv 1) pa_nil))) (pe_one (pe_cmpR op_ne (pe_ix ix_tup (pv 0) pe_int (fun _ _ => rfl)) (pe_ix ix_tup (pv 0) pe_int (fun _ _ => rfl)) (nomark _)))))))), ?_⟩
    try dsimp only [cxOf, Cx.nox, Cx.wish]
    have hstart : ∀ a0 a1 : V, L2.start N_is_door [a0, a1] = [some a0, some a1] := fun _ _ => rfl
    rw [hstart]
    clear hstart
    walk_at "go"
    refine ⟨_, _, rfl, ?_⟩
    rw [decide_eq_true (show (0 : Int) ≤ (d.1 : Int) ∧ (d.1 : Int) < (n : Int) by omega)]
    walk_at "go"
    refine ⟨_, _, rfl, ?_⟩
    rw [decide_eq_true (show (0 : Int) ≤ (d.2 : Int) ∧ (d.2 : Int) < (n : Int) by omega)]
    walk_at "go"
    rw [decide_eq_false (show ¬ (d.1 : Int) = (d.2 : Int) by omega)]
    exact k
abbrev N_check_house : List Str := ["value", "door", "ends", "ring"]
theorem sc_check_house : FnScope N_check_house ["value"] (defScope S_check_house) := ⟨rfl, rfl, rfl, by decide +kernel, rfl, by decide +kernel, by decide +kernel⟩
def sp_check_house (K : PySem.W.Frag) : Sp := fun vs H Q _ => ∃ (v : V) (ds : List Door), vs = [v] ∧ Im K H v (dDoors ds) ∧ HouseOk ds ∧ ∀ H', Same H H' → Q .non H'
set_option maxHeartbeats 4000000 in
theorem ok_check_house {P : Program} {w : World} {K : PySem.W.Frag} {mg : Str → Option Value} {base : Heap} (T : Tx K mg) : Ok P w K mg base CX0 5 d_check_house ["value"] (sp_check_house K) := by
  refine (f_check_house T).ok sc_check_house (fun vs H Q E h => ?_) (fun cdv A outer s H vs Q E hr h => ?_)
  · obtain ⟨v, ds, rfl, _⟩ := h
    rfl
  · obtain ⟨v, ds, rfl, hv, hO, k⟩ := h
    obtain ⟨a, xs, rfl, ha, hx⟩ := hv.tup_inv
    have hl : xs.length = ds.length := by rw [hx.len, List.length_map]
    refine ⟨_, PSs.nox (pss_cons (ps_if (pt_not (pt_val (pe_callB call_isi (by rfl) (n_isinstance T) bt_isinstance (pa_cons (pv 0) (pa_cons (pe_bltn (v := .ty "tuple") (by rfl) (n_tuple T) bt_tuple rfl) pa_nil))))) (pss_one (ps_ret (pe_tup (pa_cons pe_str pa_nil)))) pss_nil)
      (pss_cons (ps_for PassesOwn.never rfl (pi_enumT (by rfl) (n_enumerate T) (pa_cons (pv 0) pa_nil)) (pg_tup rfl (pgs_cons (pg_name (i := 1) sc_check_house.nd rfl (Or.inl rfl)) (pgs_cons (pg_name (i := 2) sc_check_house.nd rfl (Or.inl rfl)) pgs_nil))) (pss_one (ps_if (pt_not (pt_val (pe_call (ok_is_door T) (hr.mono (by decide)) (by rfl) (g_is_door T) (f_is_door T).kp (b_is_door T) .nil pass0 (pa_cons (pv 2) (pa_cons (pe_op op_add (pe_callB call_lenA (by rfl) (n_len T) bt_len (pa_cons (pv 0) pa_nil)) pe_int) pa_nil))))) (pss_one (ps_ret (pe_tup (pa_cons pe_str (pa_cons (pv 1) pa_nil))))) pss_nil)))
      (pss_cons (ps_set (i := 3) sc_check_house.nd rfl (Or.inl rfl) (pe_call (ok_first_ring T) (hr.mono (by decide)) (by rfl) (g_first_ring T) (f_first_ring T).kp (b_first_ring T) .nil pass0 (pa_cons (pv 0) pa_nil)))
      (pss_one (ps_ret (pe_ifExp (pt_cmpR op_isN1 (pv 3) pe_non (nomark _)) pe_non (pe_tup (pa_cons pe_str (pa_cons (pv 3) pa_nil))))))))), ?_⟩
    try dsimp only [cxOf, Cx.nox, Cx.wish]
    have hstart : ∀ a0 : V, L2.start N_check_house [a0] = [some a0, none, none, none] := fun _ => rfl
    rw [hstart]
    clear hstart
    walk_at "go"
    refine ⟨_, rfl, _, _, rfl, ha, for_enumT (K := K) (a := a) (xs := xs) (fun i σ H' => ∃ (v1 v2 v3 : Option V), σ = [some (.ref a), v1, v2, v3] ∧ Same H H') ?_ ?_ ?_ ?_⟩
    · exact ⟨none, none, none, rfl, Same.refl _⟩
    · rintro i σ H' _ ⟨v1, v2, v3, _, sm⟩
      exact (TK.same sm).seq ha
    · rintro i x σ H' hi ⟨v1, v2, v3, rfl, sm⟩ U nU
      obtain ⟨dd, hdd, him⟩ := hx.get' hi
      rw [List.getElem?_map] at hdd
      obtain ⟨d, hd, rfl⟩ := Option.map_eq_some_iff.mp hdd
      have sm1 := sm.trans (Same.new nU (o := .tup [.int (i : Nat), x]))
      have ha1 := (TK.same sm1).seq ha
      walk_at "go"
      obtain ⟨b1, b2, b3⟩ := hO.ends d (List.mem_of_getElem? hd)
      refine ⟨x, d, ds.length + 1, by rw [hl]; rfl, him.tk (TK.same sm1), b1, b2, b3, ?_⟩
      walk_at "go"
      exact ⟨_, _, _, rfl, sm1⟩
    · rintro σ H' ⟨v1, v2, v3, rfl, sm⟩
      walk_at "go"
      refine ⟨_, ds, rfl, hv.tk (TK.same sm), hO, fun H2 sm2 => ?_⟩
      walk_at "go"
      exact k _ (sm.trans sm2)
abbrev N_require_house : List Str := ["house", "reason"]
theorem sc_require_house : FnScope N_require_house ["house"] (defScope S_require_house) := ⟨rfl, rfl, rfl, by decide +kernel, rfl, by decide +kernel, by decide +kernel⟩
def sp_require_house (K : PySem.W.Frag) : Sp := fun vs H Q _ => ∃ (v : V) (ds : List Door), vs = [v] ∧ Im K H v (dDoors ds) ∧ HouseOk ds ∧ ∀ H', Same H H' → Q .non H'
set_option maxHeartbeats 4000000 in
theorem ok_require_house {P : Program} {w : World} {K : PySem.W.Frag} {mg : Str → Option Value} {base : Heap} (T : Tx K mg) : Ok P w K mg base CX0 6 d_require_house ["house"] (sp_require_house K) := by
  refine (f_require_house T).ok sc_require_house (fun vs H Q E h => ?_) (fun cdv A outer s H vs Q E hr h => ?_)
  · obtain ⟨v, ds, rfl, _⟩ := h
    rfl
  · obtain ⟨v, ds, rfl, hv, hO, k⟩ := h
    refine ⟨_, PSs.nox (pss_cons (ps_set (i := 1) sc_require_house.nd rfl (Or.inl rfl) (pe_call (ok_check_house T) (hr.mono (by decide)) (by rfl) (g_check_house T) (f_check_house T).kp (b_check_house T) .nil pass0 (pa_cons (pv 0) pa_nil)))
      (pss_one (ps_if (pt_cmpR op_notN1 (pv 1) pe_non (nomark _)) (pss_one ps_never) pss_nil))), ?_⟩
    try dsimp only [cxOf, Cx.nox, Cx.wish]
    have hstart : ∀ a0 : V, L2.start N_require_house [a0] = [some a0, none] := fun _ => rfl
    rw [hstart]
    clear hstart
    walk_at "go"
    refine ⟨_, ds, rfl, hv, hO, fun H2 sm2 => ?_⟩
    walk_at "go"
    exact k _ sm2
abbrev N_state_fault : List Str := ["house", "value", "rooms", "barred", "person", "room", "door", "part"]
theorem sc_state_fault : FnScope N_state_fault ["house", "value"] (defScope S_state_fault) := ⟨rfl, rfl, rfl, by decide +kernel, rfl, by decide +kernel, by decide +kernel⟩
def sp_state_fault (K : PySem.W.Frag) : Sp := fun vs H Q _ => ∃ (v w : V) (ds : List Door) (p : PosD), vs = [v, w] ∧ Im K H v (dDoors ds) ∧ HouseOk ds ∧ Im K H w (dPos p) ∧ PosOk ds p ∧ ∀ H', Same H H' → Q .non H'
set_option maxHeartbeats 4000000 in
theorem ok_state_fault {P : Program} {w : World} {K : PySem.W.Frag} {mg : Str → Option Value} {base : Heap} (T : Tx K mg) : Ok P w K mg base CX0 4 d_state_fault ["house", "value"] (sp_state_fault K) := by
  refine (f_state_fault T).ok sc_state_fault (fun vs H Q E h => ?_) (fun cdv A outer s H vs Q E hr h => ?_)
  · obtain ⟨v, w, ds, p, rfl, _⟩ := h
    rfl
  · obtain ⟨v, w, ds, p, rfl, hv, hO, hw, hP, k⟩ := h
    obtain ⟨a, xs, rfl, ha, hx⟩ := hv.tup_inv
    obtain ⟨b, ra, ba, rfl, hb, hra, hba⟩ := hw.pos_inv
    have hl : xs.length = ds.length := by rw [hx.len, List.length_map]
    refine ⟨_, PSs.nox (pss_cons (ps_if (PW.pt (pw_or (pt_not (pt_val (pe_callB call_isi (by rfl) (n_isinstance T) bt_isinstance (pa_cons (pv 1) (pa_cons (pe_bltn (v := .ty "tuple") (by rfl) (n_tuple T) bt_tuple rfl) pa_nil))))) (pw_or (pt_cmpR op_ne (pe_callB call_lenA (by rfl) (n_len T) bt_len (pa_cons (pv 1) pa_nil)) pe_int (nomark _)) (pw_or1 (pt_not (pt_val (pe_callB (cr_all rfl) (by rfl) (n_all T) bt_all (pa_cons (pe_lc (own := [("part", 7)]) rfl sc_state_fault.nd (pi_tup (pv 1)) (blkOk_by (own := [("part", 7)]) (N := N_state_fault) (sc := defScope S_state_fault) (by decide +kernel)) (fun _ _ _ _ _ => pg_name (i := 7) sc_state_fault.nd rfl (Or.inl rfl)) (fun _ _ _ _ _ => pts_nil) (fun _ _ _ _ _ => (pe_callB (show CallR _ _ (rIsi K) from call_isi) (by rfl) (n_isinstance T) bt_isinstance (pa_cons (pv 7) (pa_cons (pe_bltn (v := .ty "tuple") (by rfl) (n_tuple T) bt_tuple rfl) pa_nil))))) pa_nil)))))))) (pss_one (ps_ret (pe_tup (pa_cons pe_str pa_nil)))) pss_nil)
      (pss_cons (ps_asg (pv 1) (pg_tup rfl (pgs_cons (pg_name (i := 2) sc_state_fault.nd rfl (Or.inl rfl)) (pgs_cons (pg_name (i := 3) sc_state_fault.nd rfl (Or.inl rfl)) pgs_nil))))
      (pss_cons (ps_if (PW.pt (pw_or (pt_cmpR op_eq (pe_callB call_lenA (by rfl) (n_len T) bt_len (pa_cons (pv 2) pa_nil)) pe_int (nomark _)) (pw_or1 (pt_cmpR op_ne (pe_callB call_lenA (by rfl) (n_len T) bt_len (pa_cons (pv 3) pa_nil)) (pe_callB call_lenA (by rfl) (n_len T) bt_len (pa_cons (pv 0) pa_nil)) (nomark _))))) (pss_one (ps_ret (pe_tup (pa_cons pe_str pa_nil)))) pss_nil)
      (pss_cons (ps_for PassesOwn.never rfl (pi_enumT (by rfl) (n_enumerate T) (pa_cons (pv 2) pa_nil)) (pg_tup rfl (pgs_cons (pg_name (i := 4) sc_state_fault.nd rfl (Or.inl rfl)) (pgs_cons (pg_name (i := 5) sc_state_fault.nd rfl (Or.inl rfl)) pgs_nil))) (pss_one (ps_if (pt_not (pt_val (pe_call (ok_is_index T) (hr.mono (by decide)) (by rfl) (g_is_index T) (f_is_index T).kp (b_is_index T) .nil pass0 (pa_cons (pv 5) (pa_cons (pe_op op_add (pe_callB call_lenA (by rfl) (n_len T) bt_len (pa_cons (pv 0) pa_nil)) pe_int) pa_nil))))) (pss_one (ps_ret (pe_tup (pa_cons pe_str (pa_cons (pv 4) pa_nil))))) pss_nil)))
      (pss_cons (ps_for PassesOwn.never rfl (pi_enumT (by rfl) (n_enumerate T) (pa_cons (pv 3) pa_nil)) (pg_tup rfl (pgs_cons (pg_name (i := 6) sc_state_fault.nd rfl (Or.inl rfl)) (pgs_cons (pg_name (i := 4) sc_state_fault.nd rfl (Or.inl rfl)) pgs_nil))) (pss_one (ps_if (pt_not (pt_val (pe_call (ok_is_index T) (hr.mono (by decide)) (by rfl) (g_is_index T) (f_is_index T).kp (b_is_index T) .nil pass0 (pa_cons (pv 4) (pa_cons (pe_callB call_lenA (by rfl) (n_len T) bt_len (pa_cons (pv 2) pa_nil)) pa_nil))))) (pss_one (ps_ret (pe_tup (pa_cons pe_str (pa_cons (pv 6) pa_nil))))) pss_nil)))
      (pss_one (ps_ret pe_non))))))), ?_⟩
    try dsimp only [cxOf, Cx.nox, Cx.wish]
    have hstart : ∀ a0 a1 : V, L2.start N_state_fault [a0, a1] = [some a0, some a1, none, none, none, none, none, none] := fun _ _ => rfl
    rw [hstart]
    clear hstart
    walk_at "go"
    refine ⟨_, rfl, b, rfl, ⟨_, hb⟩, fun Dl nD => lc_mapT (K := K) (a := b) (fun _ => .bl true) nD hb (by simp) (fun x => rfl) ?_ ?_⟩
    · intro x H2 Q2 hxm sm kq
      have hx : ∃ (c : Addr) (l : List V), x = .ref c ∧ SqT K H c l := by
        rcases List.mem_cons.mp hxm with rfl | hxm
        · exact ⟨_, _, rfl, hra⟩
        rw [List.mem_singleton.mp hxm]
        exact ⟨_, _, rfl, hba⟩
      obtain ⟨c, l, rfl, hc⟩ := hx
      have hc3 := (TK.same sm).seq hc
      walk_at "go"
      exact kq
    · intro H2 sm hD
      have ha2 := (TK.same sm).seq ha
      have hb2 := (TK.same sm).seq hb
      have hra2 := (TK.same sm).seq hra
      have hba2 := (TK.same sm).seq hba
      walk_at "go"
      refine st_allT (SqL.of hD) ?_
      walk_at "go"
      have len0 : ¬ ((List.map vI p.1).length : Int) = 0 := by rw [List.length_map]; have := hP.ne; omega
      refine iteDF len0 ?_
      walk_at "go"
      refine iteNDT (by rw [List.length_map, hl, hP.bl]) ?_
      walk_at "go"
      refine ⟨_, rfl, _, _, rfl, hra2, for_enumT (K := K) (a := ra) (xs := p.1.map vI) (fun i σ H' => ∃ (v4 v5 v6 v7 : Option V), σ = [some (.ref a), some (.ref b), some (.ref ra), some (.ref ba), v4, v5, v6, v7] ∧ Same H H') ?_ ?_ ?_ ?_⟩
      · exact ⟨none, none, none, none, rfl, sm⟩
      · rintro i σ H' _ ⟨v4, v5, v6, v7, _, sm⟩
        exact (TK.same sm).seq hra
      · rintro i x σ H' hi ⟨v4, v5, v6, v7, rfl, sm⟩ U nU
        rw [List.getElem?_map] at hi
        obtain ⟨r, hr1, rfl⟩ := Option.map_eq_some_iff.mp hi
        have sm1 := sm.trans (Same.new nU (o := .tup [.int (i : Nat), vI r]))
        have ha1 := (TK.same sm1).seq ha
        have hlt := hP.room i r hr1
        walk_at "go"
        refine ⟨_, _, rfl, ?_⟩
        rw [decide_eq_true (show (0 : Int) ≤ (r : Int) ∧ (r : Int) < (xs.length : Int) + 1 by omega)]
        walk_at "go"
        exact ⟨_, _, _, _, rfl, sm1⟩
      · rintro σ H' ⟨v4, v5, v6, v7, rfl, sm⟩
        have hba3 := (TK.same sm).seq hba
        walk_at "go"
        refine ⟨_, rfl, _, _, rfl, hba3, for_enumT (K := K) (a := ba) (xs := p.2.map vI) (fun i σ H' => ∃ (v4 v5 v6 v7 : Option V), σ = [some (.ref a), some (.ref b), some (.ref ra), some (.ref ba), v4, v5, v6, v7] ∧ Same H H') ?_ ?_ ?_ ?_⟩
        · exact ⟨_, _, _, _, rfl, sm⟩
        · rintro i σ H' _ ⟨v4, v5, v6, v7, _, sm⟩
          exact (TK.same sm).seq hba
        · rintro i x σ H' hi ⟨v4, v5, v6, v7, rfl, sm⟩ U nU
          rw [List.getElem?_map] at hi
          obtain ⟨r, hr1, rfl⟩ := Option.map_eq_some_iff.mp hi
          have sm1 := sm.trans (Same.new nU (o := .tup [.int (i : Nat), vI r]))
          have ha1 := (TK.same sm1).seq hra
          have hlt := hP.bar i r hr1
          walk_at "go"
          refine ⟨_, _, rfl, ?_⟩
          rw [List.length_map, decide_eq_true (show (0 : Int) ≤ (r : Int) ∧ (r : Int) < (p.1.length : Int) by omega)]
          walk_at "go"
          exact ⟨_, _, _, _, rfl, sm1⟩
        · rintro σ H' ⟨v4, v5, v6, v7, rfl, sm⟩
          walk_at "go"
          exact k _ sm
abbrev N_require_state : List Str := ["house", "state", "reason"]
theorem sc_require_state : FnScope N_require_state ["house", "state"] (defScope S_require_state) := ⟨rfl, rfl, rfl, by decide +kernel, rfl, by decide +kernel, by decide +kernel⟩
def sp_require_state (K : PySem.W.Frag) : Sp := fun vs H Q _ => ∃ (v w : V) (ds : List Door) (p : PosD), vs = [v, w] ∧ Im K H v (dDoors ds) ∧ HouseOk ds ∧ Im K H w (dPos p) ∧ PosOk ds p ∧ ∀ H', Same H H' → Q .non H'
set_option maxHeartbeats 4000000 in
theorem ok_require_state {P : Program} {w : World} {K : PySem.W.Frag} {mg : Str → Option Value} {base : Heap} (T : Tx K mg) : Ok P w K mg base CX0 5 d_require_state ["house", "state"] (sp_require_state K) := by
  refine (f_require_state T).ok sc_require_state (fun vs H Q E h => ?_) (fun cdv A outer s H vs Q E hr h => ?_)
  · obtain ⟨v, w, ds, p, rfl, _⟩ := h
    rfl
  · obtain ⟨v, w, ds, p, rfl, hv, hO, hw, hP, k⟩ := h
    refine ⟨_, PSs.nox (pss_cons (ps_set (i := 2) sc_require_state.nd rfl (Or.inl rfl) (pe_call (ok_state_fault T) (hr.mono (by decide)) (by rfl) (g_state_fault T) (f_state_fault T).kp (b_state_fault T) .nil pass0 (pa_cons (pv 0) (pa_cons (pv 1) pa_nil))))
      (pss_one (ps_if (pt_cmpR op_notN1 (pv 2) pe_non (nomark _)) (pss_one ps_never) pss_nil))), ?_⟩
    try dsimp only [cxOf, Cx.nox, Cx.wish]
    have hstart : ∀ a0 a1 : V, L2.start N_require_state [a0, a1] = [some a0, some a1, none] := fun _ _ => rfl
    rw [hstart]
    clear hstart
    walk_at "go"
    refine ⟨_, _, ds, p, rfl, hv, hO, hw, hP, fun H2 sm2 => ?_⟩
    walk_at "go"
    exact k _ sm2
abbrev N_t_init : List Str := ["self", "house", "door", "one", "other", "room"]
theorem sc_t_init : FnScope N_t_init ["self", "house"] (defScope S_t_init) := ⟨rfl, rfl, rfl, by decide +kernel, rfl, by decide +kernel, by decide +kernel⟩
def sp_t_init (K : PySem.W.Frag) : Sp := fun vs H Q _ => ∃ (p dx : Addr) (v : V) (ds : List Door), vs = [.ref p, v] ∧ H p = some (.ins (He.ga K "Tree") dx []) ∧ Im K H v (dDoors ds) ∧ HouseOk ds ∧ ∀ H', Kp1 p H H' → TreeAt K H' p ds → Q .non H'
set_option maxHeartbeats 4000000 in
theorem ok_t_init {P : Program} {w : World} {K : PySem.W.Frag} {mg : Str → Option Value} {base : Heap} (T : Tx K mg) : Ok P w K mg base CX0 2 d_t_init ["self", "house"] (sp_t_init K) := by
  refine (f_t_init T).ok sc_t_init (fun vs H Q E h => ?_) (fun cdv A outer s H vs Q E hr h => ?_)
  · obtain ⟨p, dx, v, ds, rfl, _⟩ := h
    rfl
  · obtain ⟨p, dx, v, ds, rfl, hp, hv, hO, k⟩ := h
    obtain ⟨a, xs, rfl, ha, hx⟩ := hv.tup_inv
    have hl : xs.length = ds.length := by rw [hx.len, List.length_map]
    have h5 := hO.len
    refine ⟨_, PSs.nox (pss_cons (ps_fld (pv 0) (pv 1) rfl)
      (pss_cons (ps_fld (pv 0) (pe_op op_add (pe_callB call_lenA (by rfl) (n_len T) bt_len (pa_cons (pv 1) pa_nil)) pe_int) rfl)
      (pss_cons (ps_fld (pv 0) (pe_lc (own := [("room", 5)]) rfl sc_t_init.nd (pi_range1 (by rfl) (n_range T) (pa_cons (pe_fld (pv 0) rfl) pa_nil)) (blkOk_by (own := [("room", 5)]) (N := N_t_init) (sc := defScope S_t_init) (by decide +kernel)) (fun _ _ _ _ _ => pg_name (i := 5) sc_t_init.nd rfl (Or.inl rfl)) (fun _ _ _ _ _ => pts_nil) (fun _ _ _ _ _ => pe_dnewK)) rfl)
      (pss_one (ps_for PassesOwn.never rfl (pi_enumT (by rfl) (n_enumerate T) (pa_cons (pv 1) pa_nil)) (pg_tup rfl (pgs_cons (pg_name (i := 2) sc_t_init.nd rfl (Or.inl rfl)) (pgs_cons (pg_tup rfl (pgs_cons (pg_name (i := 3) sc_t_init.nd rfl (Or.inl rfl)) (pgs_cons (pg_name (i := 4) sc_t_init.nd rfl (Or.inl rfl)) pgs_nil))) pgs_nil))) (pss_cons (ps_dput (room1 hr) (pe_ix ix_list (pe_fld (pv 0) rfl) (pv 3) (fun _ _ => rfl)) (pv 4) (pv 2) rfl)
      (pss_one (ps_dput (room1 hr) (pe_ix ix_list (pe_fld (pv 0) rfl) (pv 4) (fun _ _ => rfl)) (pv 3) (pv 2) rfl)))))))), ?_⟩
    try dsimp only [cxOf, Cx.nox, Cx.wish]
    have hstart : ∀ a0 a1 : V, L2.start N_t_init [a0, a1] = [some a0, some a1, none, none, none, none] := fun _ _ => rfl
    rw [hstart]
    clear hstart
    walk_at "go"
    refine st_sfldQ (gs := [("doors", .ref a)]) hp (c_Tree T) (a_Tree_doors T) (by decide) rfl ?_
    have k1 : Kp1 p H (upd H p (.ins (He.ga K "Tree") dx [("doors", .ref a)])) := Kp1.refl.upd
    have p1 := upd_same (H := H) (a := p) (o := .ins (He.ga K "Tree") dx [("doors", .ref a)])
    have ha1 := (k1.ins hp).seq ha
    generalize upd H p _ = H1 at *
    walk_at "go"
    refine st_sfldQ (gs := [("doors", .ref a), ("size", .int ((xs.length : Int) + 1))]) p1 (c_Tree T) (a_Tree_size T) (show ([("doors", V.ref a)] : List (Str × V)).length < 1000 from Nat.le_of_ble_eq_true rfl) rfl ?_
    have k2 : Kp1 p H (upd H1 p (.ins (He.ga K "Tree") dx [("doors", .ref a), ("size", .int ((xs.length : Int) + 1))])) := k1.upd
    have p2 := upd_same (H := H1) (a := p) (o := .ins (He.ga K "Tree") dx [("doors", .ref a), ("size", .int ((xs.length : Int) + 1))])
    have ha2 := (k2.ins hp).seq ha
    generalize upd H1 p _ = H2 at *
    walk_at "w"
    refine st_r1 (ds.length + 1) (by omega) (by omega) ?_
    refine lc_rangeB fun Dl nD => ⟨fun i H3 => ∃ rs : List Addr, Same H2 H3 ∧ H3 Dl = some (.lst (rs.map .ref)) ∧ rs.length = i ∧ rs.Nodup ∧ ∀ r ∈ rs, H2 r = none ∧ r ≠ Dl ∧ H3 r = some (.dK []), ?_, ?_, ?_⟩
    · exact ⟨[], Same.new nD, upd_same, rfl, List.nodup_nil, fun r hr => by cases hr⟩
    · rintro i H3 hi ⟨rs, sm, hD, hrl, hnd, hrs⟩
      refine lc_yes rfl (iteT ?_)
      intro r nr
      have hrD : r ≠ Dl := fun z => by rw [z, hD] at nr; cases nr
      have h2r : H2 r = none := by
        cases e : H2 r with
        | none => rfl
        | some o => rw [sm _ _ e] at nr; cases nr
      refine ⟨rs.map .ref, by rw [upd_ne hrD.symm]; exact hD, small16 (by rw [List.length_map]; omega), rs ++ [r], ?_, by rw [upd_same, List.map_append]; rfl, by rw [List.length_append, hrl]; rfl, ?_, ?_⟩
      · exact Same.mut (Same.mut sm h2r) nD
      · rw [List.nodup_append]
        refine ⟨hnd, List.nodup_cons.mpr ⟨fun z => (by cases z), List.nodup_nil⟩, ?_⟩
        rintro x hx y hy rfl
        rw [List.mem_singleton.mp hy] at hx
        rw [(hrs r hx).2.2] at nr
        cases nr
      · intro x hx
        rcases List.mem_append.mp hx with hx | hx
        · obtain ⟨g1, g2, g3⟩ := hrs x hx
          refine ⟨g1, g2, ?_⟩
          rw [upd_ne g2, upd_ne (fun z => by rw [z, nr] at g3; cases g3)]
          exact g3
        · rw [List.mem_singleton.mp hx]
          exact ⟨h2r, hrD, by rw [upd_ne hrD, upd_same]⟩
    · rintro H3 ⟨rs, sm, hD, hrl, hnd, hrs⟩
      walk_at "w"
      refine st_sfldQ (gs := [("doors", .ref a), ("size", .int ((xs.length : Int) + 1)), ("around", .ref Dl)]) (sm _ _ p2) (c_Tree T) (a_Tree_around T) (show ([("doors", V.ref a), ("size", V.int 0)] : List (Str × V)).length < 1000 from Nat.le_of_ble_eq_true rfl) rfl ?_
      have k3 : Kp1 p H (upd H3 p (.ins (He.ga K "Tree") dx [("doors", .ref a), ("size", .int ((xs.length : Int) + 1)), ("around", .ref Dl)])) := (k2.then sm).upd
      have ha3 := (k3.ins hp).seq ha
      have hnp : ∀ r, H2 r = none → r ≠ p := fun r e z => by rw [z, p2] at e; cases e
      have nH : ∀ r, H2 r = none → H r = none := fun r e => by
        cases e1 : H r with
        | none => rfl
        | some o => rw [k2 _ _ e1 (hnp r e)] at e; cases e
      walk_at "w"
      refine for_eT xs (fun i σ H' => ∃ v2 v3 v4 v5, σ = [some (.ref p), some (.ref a), v2, v3, v4, v5] ∧ Kp1 p H H' ∧ H' p = some (.ins (He.ga K "Tree") dx [("doors", .ref a), ("size", .int ((xs.length : Int) + 1)), ("around", .ref Dl)]) ∧
        H' Dl = some (.lst (rs.map .ref)) ∧ ∀ (u : Nat) (r : Addr), rs[u]? = some r → ∃ kvs, H' r = some (.dK kvs) ∧ kvs.length ≤ i ∧ ∀ w : Nat, valV kvs (.inl (w : Int)) = (doorTo ds i u w).map vI) ?_ ?_ ?_ ?_
      · refine ⟨_, _, _, _, rfl, k3, upd_same, by rw [upd_ne (hnp _ nD)]; exact hD, fun u r hu => ⟨[], ?_, Nat.zero_le _, fun w => by rw [doorTo_zero]; rfl⟩⟩
        obtain ⟨g1, g2, g3⟩ := hrs r (List.mem_of_getElem? hu)
        rw [upd_ne (hnp _ g1)]
        exact g3
      · rintro i σ H' _ ⟨_, _, _, _, _, kp, _⟩
        exact (kp.ins hp).seq ha
      · rintro i x σ H' hi ⟨v2, v3, v4, v5, rfl, kp, hp', hD', hrs'⟩ U nU
        obtain ⟨dd, hdd, him⟩ := hx.get' hi
        rw [List.getElem?_map] at hdd
        obtain ⟨d, hd, rfl⟩ := Option.map_eq_some_iff.mp hdd
        obtain ⟨b, rfl, hb⟩ := him.pair_inv
        have il : i < ds.length := (List.getElem?_eq_some_iff.mp hd).1
        obtain ⟨b1, b2, b3⟩ := hO.ends d (List.mem_of_getElem? hd)
        obtain ⟨r1, hr1⟩ : ∃ r, rs[d.1]? = some r := ⟨rs[d.1], List.getElem?_eq_getElem (by omega)⟩
        obtain ⟨r2, hr2⟩ : ∃ r, rs[d.2]? = some r := ⟨rs[d.2], List.getElem?_eq_getElem (by omega)⟩
        have hr12 : r1 ≠ r2 := fun z => b3 (by
          subst z
          exact (List.getElem?_inj (List.getElem?_eq_some_iff.mp hr1).1 hnd).mp (hr1.trans hr2.symm))
        obtain ⟨kv1, e1, l1, q1⟩ := hrs' _ _ hr1
        obtain ⟨kv2, e2, l2, q2⟩ := hrs' _ _ hr2
        have kU : Kp1 p H (upd H' U (.tup [.int (i : Nat), .ref b])) := kp.then (Same.new nU)
        have sU : Same H' (upd H' U (.tup [.int (i : Nat), .ref b])) := Same.new nU
        have hb1 := (kU.ins hp).seq hb
        have tU : SqT K (upd H' U (.tup [.int (i : Nat), .ref b])) U [.int (i : Nat), .ref b] := SqT.of upd_same
        generalize upd H' U _ = H4 at *
        have hp4 := sU _ _ hp'
        have hD4 := sU _ _ hD'
        walk_at "w"
        refine st_ixL (SqL.of hD4) (atI_nat (by rw [List.getElem?_map, hr1]; rfl)) ?_
        walk_at "w"
        refine st_dputI (sU _ _ e1) (by omega) ?_
        have hrp : ∀ r, r ∈ rs → r ≠ p ∧ r ≠ Dl := fun r hr => ⟨hnp _ (hrs r hr).1, (hrs r hr).2.1⟩
        have m1 := hrp _ (List.mem_of_getElem? hr1)
        have m2 := hrp _ (List.mem_of_getElem? hr2)
        have pu := sU _ _ hp'
        have hp5 := (upd_ne (H := H4) (o := .dK (putK kv1 (.inl (d.2 : Int)) (vI i))) m1.1.symm).trans pu
        have hD5 := (upd_ne (H := H4) (o := .dK (putK kv1 (.inl (d.2 : Int)) (vI i))) m1.2.symm).trans hD4
        walk_at "w"
        refine st_ixL (SqL.of hD5) (atI_nat (by rw [List.getElem?_map, hr2]; rfl)) ?_
        walk_at "w"
        refine st_dputI (by rw [upd_ne hr12.symm]; exact sU _ _ e2) (by omega) ?_
        have nr : ∀ r, r ∈ rs → H r = none := fun r hr => nH _ (hrs r hr).1
        refine ⟨_, _, _, _, rfl, ?_, by rw [upd_ne m2.1.symm]; exact hp5, by rw [upd_ne m2.2.symm]; exact hD5, fun u r hu => ?_⟩
        · exact (kU.mut (nr _ (List.mem_of_getElem? hr1))).mut (nr _ (List.mem_of_getElem? hr2))
        · by_cases c2 : r = r2
          · subst c2
            have : u = d.2 := (List.getElem?_inj (List.getElem?_eq_some_iff.mp hu).1 hnd).mp (hu.trans hr2.symm)
            subst this
            refine ⟨_, upd_same, Nat.le_trans (put_len _ _ _) (by omega), fun w => ?_⟩
            rw [valV_put, q2, doorTo_succ hO hd]
            by_cases cw : w = d.1
            · subst cw
              rw [if_pos rfl, if_pos (isD_iff.mpr (.inr rfl))]
              rfl
            · rw [if_neg (fun e => cw (by have := Sum.inl.inj e; omega)), if_neg (fun e => ?_)]
              rcases isD_iff.mp e with e | e
              · exact b3 (congrArg Prod.fst e)
              · exact cw (congrArg Prod.fst e).symm
          · rw [upd_ne c2]
            by_cases c1 : r = r1
            · subst c1
              have : u = d.1 := (List.getElem?_inj (List.getElem?_eq_some_iff.mp hu).1 hnd).mp (hu.trans hr1.symm)
              subst this
              refine ⟨_, upd_same, Nat.le_trans (put_len _ _ _) (by omega), fun w => ?_⟩
              rw [valV_put, q1, doorTo_succ hO hd]
              by_cases cw : w = d.2
              · subst cw
                rw [if_pos rfl, if_pos (isD_iff.mpr (.inl rfl))]
                rfl
              · rw [if_neg (fun e => cw (by have := Sum.inl.inj e; omega)), if_neg (fun e => ?_)]
                rcases isD_iff.mp e with e | e
                · exact cw (congrArg Prod.snd e).symm
                · exact b3 (congrArg Prod.snd e).symm
            · rw [upd_ne c1]
              obtain ⟨kvs, f1, f2, f3⟩ := hrs' u r hu
              refine ⟨kvs, sU _ _ f1, by omega, fun w => ?_⟩
              rw [f3, doorTo_succ hO hd, if_neg (fun e => ?_)]
              rcases isD_iff.mp e with e | e
              · rw [e] at hr1
                exact c1 (Option.some.inj (hu.symm.trans hr1))
              · rw [e] at hr2
                exact c2 (Option.some.inj (hu.symm.trans hr2))
      · rintro σ H' ⟨_, _, _, _, _, kp, hp', hD', hrs'⟩
        refine k H' kp ⟨dx, Dl, _, rs, by rw [hl] at hp'; exact hp', hD', hrl, fun u r hu => ?_⟩
        obtain ⟨kvs, e1, _, e2⟩ := hrs' u r hu
        exact ⟨kvs, e1, fun w => by rw [e2, hl, doorTo_all hO]⟩
abbrev N_play : List Str := ["house", "state", "plan", "simulation", "blocked"]
theorem sc_play : FnScope N_play ["house", "state", "plan"] (defScope S_play) := ⟨rfl, rfl, rfl, by decide +kernel, rfl, by decide +kernel, by decide +kernel⟩
def sp_play (K : PySem.W.Frag) : Sp := fun vs H Q _ => ∃ (v w : V) (l : Addr) (xs : List V) (ds : List Door) (p q : PosD) (ss : List Stp), vs = [v, w, .ref l] ∧ Im K H v (dDoors ds) ∧ HouseOk ds ∧ Im K H w (dPos p) ∧ PosOk ds p ∧ H l = some (.lst xs) ∧ ImAll K H xs (ss.map dStep) ∧ ss.length ≤ 800 ∧
  (∀ x ∈ ss, StepOk ds p.1.length x) ∧ runS ds p ss 0 = .inr q ∧ ∀ H' u, Same H H' → Im K H' u (dPos q) → Q u H'
set_option maxHeartbeats 4000000 in
theorem ok_play {P : Program} {w : World} {K : PySem.W.Frag} {mg : Str → Option Value} {base : Heap} (T : Tx K mg) : Ok P w K mg base CX0 7 d_play ["house", "state", "plan"] (sp_play K) := by
  refine (f_play T).ok sc_play (fun vs H Q E h => ?_) (fun cdv A outer s H vs Q E hr h => ?_)
  · obtain ⟨v, w, l, xs, ds, p, q, ss, rfl, _⟩ := h
    rfl
  · obtain ⟨v, w, l, xs, ds, p, q, ss, rfl, hv, hO, hw, hP, hl, hx, h8, hS, hrun, k⟩ := h
    refine ⟨_, PSs.nox (pss_cons (ps_expr (pe_call (ok_require_house T) (hr.mono (by decide)) (by rfl) (g_require_house T) (f_require_house T).kp (b_require_house T) .nil pass0 (pa_cons (pv 0) pa_nil)))
      (pss_cons (ps_expr (pe_call (ok_require_state T) (hr.mono (by decide)) (by rfl) (g_require_state T) (f_require_state T).kp (b_require_state T) .nil pass0 (pa_cons (pv 0) (pa_cons (pv 1) pa_nil))))
      (pss_cons (ps_expr (pe_call (ok_require_plan T) (hr.mono (by decide)) (by rfl) (g_require_plan T) (f_require_plan T).kp (b_require_plan T) .nil pass0 (pa_cons (pv 0) (pa_cons (pe_callB call_lenA (by rfl) (n_len T) bt_len (pa_cons (pe_ix ix_tup (pv 1) pe_int (fun _ _ => rfl)) pa_nil)) (pa_cons (pv 2) pa_nil)))))
      (pss_cons (ps_set (i := 3) sc_play.nd rfl (Or.inl rfl) (pe_make (k_Simulation T) (ok_s_init T) (hr.mono (by decide)) (by rfl) (g_Simulation T) (b_s_init T) .nil pass0 (pa_cons (pe_make (k_Tree T) (ok_t_init T) (hr.mono (by decide)) (by rfl) (g_Tree T) (b_t_init T) .nil pass0 (pa_cons (pv 0) pa_nil)) (pa_cons (pv 1) pa_nil))))
      (pss_cons (ps_set (i := 4) sc_play.nd rfl (Or.inl rfl) (pe_meth (pv 3) (c_Simulation T) (m_Simulation_block T) (ok_s_block T) (hr.mono (by decide)) (b_s_block T) .nil pass0 (pa_cons (pv 2) pa_nil)))
      (pss_cons (ps_if (pt_cmpR op_notN1 (pv 4) pe_non (nomark _)) (pss_one ps_never) pss_nil)
      (pss_one (ps_ret (pe_meth0 (pv 3) (c_Simulation T) (m_Simulation_state T) (ok_s_state T) (hr.mono (by decide)) (b_s_state T) .nil pass0))))))))), ?_⟩
    try dsimp only [cxOf, Cx.nox, Cx.wish]
    have hstart : ∀ a0 a1 a2 : V, L2.start N_play [a0, a1, a2] = [some a0, some a1, some a2, none, none] := fun _ _ _ => rfl
    rw [hstart]
    clear hstart
    walk_at "w"
    refine ⟨v, ds, rfl, hv, hO, fun H1 e1 => ?_⟩
    walk_at "w"
    refine ⟨v, w, ds, p, rfl, hv.tk (TK.same e1), hO, hw.tk (TK.same e1), hP, fun H2 e2' => ?_⟩
    have e2 := e1.trans e2'
    obtain ⟨a, ra, ba, rfl, ha, hra, hba⟩ := (hw.tk (TK.same e2)).pos_inv
    walk_at "w"
    refine ⟨v, l, xs, ds, p.1.length, ss, by rw [List.length_map]; rfl, hv.tk (TK.same e2), hO, e2 _ _ hl, hx.tk (TK.same e2), hS, fun H3 e3' => ?_⟩
    have e3 := e2.trans e3'
    walk_at "w"
    intro x dx nx ndx ne
    have e4' := same_make (o := .ins (He.ga K "Tree") dx []) (u := .own x) (Same.refl H3) nx ndx
    have x4 := upd_same (H := upd H3 dx (.own x)) (a := x) (o := .ins (He.ga K "Tree") dx [])
    generalize upd (upd H3 dx _) x _ = H4 at *
    refine ⟨x, dx, v, ds, rfl, x4, hv.tk (TK.same (e3.trans e4')), hO, fun H5 kp tr => ⟨rfl, ?_⟩⟩
    have e5 : Same H H5 := Same.kp1 (e3.trans e4') (Same.none e3 nx) kp
    walk_at "w"
    intro s ds2 ns nds ne2
    have e6' := same_make (o := .ins (He.ga K "Simulation") ds2 []) (u := .own s) (Same.refl H5) ns nds
    have s6 := upd_same (H := upd H5 ds2 (.own s)) (a := s) (o := .ins (He.ga K "Simulation") ds2 [])
    generalize upd (upd H5 ds2 _) s _ = H6 at *
    refine ⟨H5, s, x, ds2, .ref a, ds, p, rfl, e6', ns, s6, tr, hw.tk (TK.same (e5.trans e6')), fun H7 rl bl dl S => ⟨rfl, ?_⟩⟩
    obtain ⟨dxs, ob⟩ := S.obj
    walk_at "w"
    refine ⟨H5, s, rl, bl, dl, x, l, ds, p, xs, ss, rfl, S, hO, hP, e5 _ _ hl, hx.tk (TK.same e5), h8, hS, fun i kk hh => ?_, fun q' hq' H8 S8 => ?_⟩
    · rw [hrun] at hh
      cases hh
    · rw [hrun] at hq'
      cases hq'
      obtain ⟨dxs, ob8⟩ := S8.obj
      walk_at "w"
      refine ⟨H5, s, rl, bl, dl, x, ds, q, _, rfl, S8, fun H9 u e9 hu => k _ _ ((e5.trans S8.sm).trans e9) hu⟩
abbrev N_x_eq : List Str := ["self", "other"]
theorem sc_x_eq : FnScope N_x_eq ["self", "other"] (defScope S_x_eq) := ⟨rfl, rfl, rfl, by decide +kernel, rfl, by decide +kernel, by decide +kernel⟩
def sp_x_eq (K : PySem.W.Frag) : Sp := fun vs H Q _ => ∃ (B C : Hp) (s hi s' hi' : Addr) (ds : List Door) (p : PosD) (made : List Stp) (hist hist' : List (PosD × List Stp)), vs = [.ref s, .ref s'] ∧ SessAt K B H s hi ds p made hist ∧ SessAt K C H s' hi' ds p made hist' ∧ Q (.bl true) H
set_option maxHeartbeats 4000000 in
theorem ok_x_eq {P : Program} {w : World} {K : PySem.W.Frag} {mg : Str → Option Value} {base : Heap} (T : Tx K mg) : Ok P w K mg base CX0 2 d_x_eq ["self", "other"] (sp_x_eq K) := by
  refine (f_x_eq T).ok sc_x_eq (fun vs H Q E h => ?_) (fun cdv A outer s H vs Q E hr h => ?_)
  · obtain ⟨B, C, s, hi, s', hi', ds, p, made, hist, hist', rfl, _⟩ := h
    rfl
  · obtain ⟨B, C, s, hi, s', hi', ds, p, made, hist, hist', rfl, S, S', k⟩ := h
    obtain ⟨dx, t, hv, cv, hs, g1, g2, g3, g4, g5, g6⟩ := S.ex
    obtain ⟨dx', t', hv', cv', hs', g1', g2', g3', g4', g5', g6'⟩ := S'.ex
    refine ⟨_, PSs.nox (pss_one (ps_ret (pe_and (pe_callB call_isi (by rfl) (n_isinstance T) bt_isinstance (pa_cons (pv 1) (pa_cons (pe_glob (v := .ref (He.ga K "Session")) (by rfl) (g_Session T) rfl) pa_nil))) (pe_and (pe_cmpR (op_eqD hr.units) (pe_fld (pv 0) rfl) (pe_fld (pv 1) rfl) (nomark _)) (pe_one (pe_cmpR (op_eqD hr.units) (pe_fld (pv 0) rfl) (pe_fld (pv 1) rfl) (nomark _))))))), ?_⟩
    try dsimp only [cxOf, Cx.nox, Cx.wish]
    have hstart : ∀ a0 a1 : V, L2.start N_x_eq [a0, a1] = [some a0, some a1] := fun _ _ => rfl
    rw [hstart]
    clear hstart
    walk_at "w"
    refine ⟨_, _, _, _, true, rfl, .own _, .base (.ins g2' (c_Session T) T.exs.cS T.exs.sp T.exs.tk T.exs.mS), T.exs.kS, ?_⟩
    walk_at "w"
    refine st_eqD g4.dp g4'.dp (Sh.doors ds) (Sh.doors ds) (by decide) (by decide) ?_
    rw [eqv_self (Sh.doors ds)]
    walk_at "w"
    refine st_eqD g5.dp g5'.dp (Sh.cur _) (Sh.cur _) (by decide) (by decide) ?_
    rw [eqv_self (Sh.cur _)]
    exact k
abbrev N_x_init : List Str := ["self", "house", "state"]
theorem sc_x_init : FnScope N_x_init ["self", "house", "state"] (defScope S_x_init) := ⟨rfl, rfl, rfl, by decide +kernel, rfl, by decide +kernel, by decide +kernel⟩
def sp_x_init (K : PySem.W.Frag) : Sp := fun vs H Q _ => ∃ (s dx : Addr) (v w : V) (ds : List Door) (p : PosD), vs = [.ref s, v, w] ∧ H s = some (.ins (He.ga K "Session") dx []) ∧ Im K H v (dDoors ds) ∧ HouseOk ds ∧ Im K H w (dPos p) ∧ PosOk ds p ∧
  ∀ H' B hi, Kp1 s H H' → H hi = none → SessAt K B H' s hi ds p [] [] → Q .non H'
set_option maxHeartbeats 4000000 in
theorem ok_x_init {P : Program} {w : World} {K : PySem.W.Frag} {mg : Str → Option Value} {base : Heap} (T : Tx K mg) : Ok P w K mg base CX0 7 d_x_init ["self", "house", "state"] (sp_x_init K) := by
  refine (f_x_init T).ok sc_x_init (fun vs H Q E h => ?_) (fun cdv A outer s H vs Q E hr h => ?_)
  · obtain ⟨s, dx, v, w, ds, p, rfl, _⟩ := h
    rfl
  · obtain ⟨s, dx, v, w, ds, p, rfl, hs, hv, hO, hw, hP, k⟩ := h
    refine ⟨_, PSs.nox (pss_cons (ps_expr (pe_call (ok_require_house T) (hr.mono (by decide)) (by rfl) (g_require_house T) (f_require_house T).kp (b_require_house T) .nil pass0 (pa_cons (pv 1) pa_nil)))
      (pss_cons (ps_expr (pe_call (ok_require_state T) (hr.mono (by decide)) (by rfl) (g_require_state T) (f_require_state T).kp (b_require_state T) .nil pass0 (pa_cons (pv 1) (pa_cons (pv 2) pa_nil))))
      (pss_cons (ps_fld (pv 0) (pv 1) rfl)
      (pss_cons (ps_fld (pv 0) (pe_make (k_Tree T) (ok_t_init T) (hr.mono (by decide)) (by rfl) (g_Tree T) (b_t_init T) .nil pass0 (pa_cons (pv 1) pa_nil)) rfl)
      (pss_cons (ps_fld (pv 0) (pe_tup (pa_cons (pv 2) (pa_cons (pe_tup pa_nil) pa_nil))) rfl)
      (pss_one (ps_fld (pv 0) (pe_lst pa_nil) rfl))))))), ?_⟩
    try dsimp only [cxOf, Cx.nox, Cx.wish]
    have hstart : ∀ a0 a1 a2 : V, L2.start N_x_init [a0, a1, a2] = [some a0, some a1, some a2] := fun _ _ _ => rfl
    rw [hstart]
    clear hstart
    walk_at "w"
    refine ⟨v, ds, rfl, hv, hO, fun H1 e1 => ?_⟩
    walk_at "w"
    refine ⟨v, w, ds, p, rfl, hv.tk (TK.same e1), hO, hw.tk (TK.same e1), hP, fun H2 e2' => ?_⟩
    have e2 := e1.trans e2'
    walk_at "w"
    refine st_sfldQ (gs := [("house", v)]) (e2 _ _ hs) (c_Session T) (a_Session_house T) (by decide) rfl ?_
    have k3 : Kp1 s H (upd H2 s (.ins (He.ga K "Session") dx [("house", v)])) := (Kp1.same e2).upd
    have s3 := upd_same (H := H2) (a := s) (o := .ins (He.ga K "Session") dx [("house", v)])
    generalize upd H2 s _ = H3 at *
    walk_at "w"
    intro x dx2 nx ndx ne
    have e4' := same_make (o := .ins (He.ga K "Tree") dx2 []) (u := .own x) (Same.refl H3) nx ndx
    have x4 := upd_same (H := upd H3 dx2 (.own x)) (a := x) (o := .ins (He.ga K "Tree") dx2 [])
    generalize upd (upd H3 dx2 _) x _ = H4 at *
    have t4 := (k3.ins hs).trans (TK.same e4')
    refine ⟨x, dx2, v, ds, rfl, x4, hv.tk t4, hO, fun H5 kp tr => ⟨rfl, ?_⟩⟩
    have e5 : Same H3 H5 := Same.kp1 e4' nx kp
    have s5 := e5 _ _ s3
    have k5 := k3.then e5
    have xs : x ≠ s := fun z => by rw [z, s3] at nx; cases nx
    walk_at "w"
    refine st_sfldQ (gs := [("house", v), ("tree", .ref x)]) s5 (c_Session T) (a_Session_tree T) (show ([("house", v)] : List (Str × V)).length < 1000 from Nat.le_of_ble_eq_true rfl) rfl ?_
    have s6 := upd_same (H := H5) (a := s) (o := .ins (He.ga K "Session") dx [("house", v), ("tree", .ref x)])
    have k6 : Kp1 s H5 (upd H5 s (.ins (He.ga K "Session") dx [("house", v), ("tree", .ref x)])) := Kp1.refl.upd
    generalize upd H5 s _ = H6 at *
    walk_at "w"
    intro c nc
    walk_at "w"
    intro p2 np2
    have e8 : Same H6 (upd (upd H6 c (.tup [])) p2 (.tup [w, .ref c])) := (Same.new nc).trans (Same.new np2)
    have p8 := upd_same (H := upd H6 c (.tup [])) (a := p2) (o := .tup [w, .ref c])
    have c8 := Same.new np2 (o := .tup [w, .ref c]) _ _ (upd_same (H := H6) (a := c) (o := .tup []))
    generalize upd (upd H6 c _) p2 _ = H8 at *
    have s8 := e8 _ _ s6
    have k8 : Kp1 s H5 H8 := k6.then e8
    walk_at "w"
    refine st_sfldQ (gs := [("house", v), ("tree", .ref x), ("current", .ref p2)]) s8 (c_Session T) (a_Session_current T) (show ([("house", v), ("tree", V.ref x)] : List (Str × V)).length < 1000 from Nat.le_of_ble_eq_true rfl) rfl ?_
    have s9 := upd_same (H := H8) (a := s) (o := .ins (He.ga K "Session") dx [("house", v), ("tree", .ref x), ("current", .ref p2)])
    have k9 : Kp1 s H8 (upd H8 s (.ins (He.ga K "Session") dx [("house", v), ("tree", .ref x), ("current", .ref p2)])) := Kp1.refl.upd
    generalize upd H8 s _ = H9 at *
    walk_at "w"
    intro hi nh
    walk_at "w"
    have hs1 : hi ≠ s := fun z => by rw [z, s9] at nh; cases nh
    have ss : ∀ y, (H8 y).isSome = true → y ≠ s → (H9 y).isSome = true := fun y e1 e2 => by
      obtain ⟨o, ho⟩ := Option.isSome_iff_exists.mp e1
      rw [k9 _ _ ho e2]
      rfl
    refine st_sfldQ (gs := [("house", v), ("tree", .ref x), ("current", .ref p2), ("history", .ref hi)]) (by rw [upd_ne hs1.symm]; exact s9) (c_Session T) (a_Session_history T) (show ([("house", v), ("tree", V.ref x), ("current", .ref p2)] : List (Str × V)).length < 1000 from Nat.le_of_ble_eq_true rfl) rfl ?_
    have kA : Kp1 s H5 H9 := k8.trans k9
    have kB : Kp1 s H9 (upd (upd H9 hi (.lst [])) s (.ins (He.ga K "Session") dx [("house", v), ("tree", .ref x), ("current", .ref p2), ("history", .ref hi)])) := ((Kp1.same (Same.new nh (o := .lst []))).upd)
    have kC : Kp1 s H _ := (k5.trans kA).trans kB
    have hiH : H hi = none := Kp1.none (k5.trans kA) nh hs1
    have tC := kC.ins hs
    have tB : TK H8 _ := (k9.trans kB).ins s8
    refine k _ (wo H5 s) hi kC hiH ⟨wo_same (kA.trans kB), wo_self, ?_, dx, x, v, .ref p2, [], tr.wo s5 (show (1 : Nat) ≠ 3 by decide), upd_same, by rw [upd_ne hs1, upd_same], hv.tk tC, ?_, .nil⟩
    · rw [wo_ne hs1]
      exact Kp1.none kA nh hs1
    · exact (Im.two (SqT.of p8) (hw.tk ((k5.trans k8).ins hs)) (.tup (SqT.of c8) .nil)).tk tB
abbrev N_l_rebuilt_right : List Str := ["_law_doors", "_law_position", "_law_session", "_law_made", "_law_whole", "_law_single", "_law_person", "_law_start", "_law_end"]
theorem sc_l_rebuilt_right : FnScope N_l_rebuilt_right ["_law_doors", "_law_position", "_law_session"] (defScope S_l_rebuilt_right) := ⟨rfl, rfl, rfl, by decide +kernel, rfl, by decide +kernel, by decide +kernel⟩
def sp_l_rebuilt_right (K : PySem.W.Frag) : Sp := fun vs H Q _ => ∃ (B : Hp) (s hi : Addr) (v w : V) (ds : List Door) (p0 p : PosD) (made : List Stp) (hist : List (PosD × List Stp)), vs = [v, w, .ref s] ∧ Im K H v (dDoors ds) ∧ HouseOk ds ∧ Im K H w (dPos p0) ∧ PosOk ds p0 ∧ SessAt K B H s hi ds p made hist ∧
  runS ds p0 made 0 = .inr p ∧ (∀ x ∈ made, StepOk ds p0.1.length x) ∧ made.length ≤ 200 ∧ ∀ H', Same H H' → Q (.bl true) H'
set_option maxHeartbeats 4000000 in
theorem ok_l_rebuilt_right {P : Program} {w : World} {K : PySem.W.Frag} {mg : Str → Option Value} {base : Heap} (T : Tx K mg) : Ok P w K mg base CX0 9 d_l_rebuilt_right ["_law_doors", "_law_position", "_law_session"] (sp_l_rebuilt_right K) := by
  refine (f_l_rebuilt_right T).ok sc_l_rebuilt_right (fun vs H Q E h => ?_) (fun cdv A outer s H vs Q E hr h => ?_)
  · obtain ⟨B, s, hi, v, w, ds, p0, p, made, hist, rfl, _⟩ := h
    rfl
  · obtain ⟨B, s, hi, v, w, ds, p0, p, made, hist, rfl, hv, hO, hw, hP, S, hrun, hS, h2, k⟩ := h
    obtain ⟨dx, t, hv', cuv, hsv, g1, g2, g3, g4, g5, g6⟩ := S.ex
    have hPp := runS_ok hO made p0 p 0 hP hS hrun
    refine ⟨_, PSs.nox (pss_cons (ps_set (i := 3) sc_l_rebuilt_right.nd rfl (Or.inl rfl) (pe_meth0 (pv 2) (c_Session T) (m_Session_moves T) (ok_x_moves T) (hr.mono (by decide)) (b_x_moves T) .nil pass0))
      (pss_cons (ps_par (i := 4) (j := 5) (by rfl) sc_l_rebuilt_right.nd rfl rfl (by decide) rfl rfl (pa_cons (pe_make (k_Session T) (ok_x_init T) (hr.mono (by decide)) (by rfl) (g_Session T) (b_x_init T) .nil pass0 (pa_cons (pv 0) (pa_cons (pv 1) pa_nil))) (pa_cons (pe_make (k_Session T) (ok_x_init T) (hr.mono (by decide)) (by rfl) (g_Session T) (b_x_init T) .nil pass0 (pa_cons (pv 0) (pa_cons (pv 1) pa_nil))) pa_nil)) (by rfl))
      (pss_cons (ps_if (PW.pt (pw_or (pt_cmpR (op_neD hr.units) (pe_meth (pv 4) (c_Session T) (m_Session_play T) (ok_x_play T) (hr.mono (by decide)) (b_x_play T) .nil passL (pa_cons (pv 3) pa_nil)) (pe_meth0 (pv 2) (c_Session T) (m_Session_state T) (ok_x_state T) (hr.mono (by decide)) (b_x_state T) .nil pass0) (nomark _)) (pw_or (pt_cmpR (op_neI (ok_x_eq T) (hr.mono (by decide)) (m_Session_eq T).at_ (m_Session_eq T).fn T.exs.ne T.exs.mS (b_x_eq T) pass0) (pv 4) (pv 2) (nomark _)) (pw_or1 (pt_cmpR (op_neD hr.units) (pe_call (ok_play T) (hr.mono (by decide)) (by rfl) (g_play T) (f_play T).kp (b_play T) .nil pass0 (pa_cons (pv 0) (pa_cons (pv 1) (pa_cons (pv 3) pa_nil)))) (pe_meth0 (pv 2) (c_Session T) (m_Session_state T) (ok_x_state T) (hr.mono (by decide)) (b_x_state T) .nil pass0) (nomark _)))))) (pss_one (ps_ret pe_bl)) pss_nil)
      (pss_cons (ps_for PassesOwn.never rfl (pi_list (pv 3)) (pg_tup rfl (pgs_cons (pg_name (i := 6) sc_l_rebuilt_right.nd rfl (Or.inl rfl)) (pgs_cons (pg_name (i := 7) sc_l_rebuilt_right.nd rfl (Or.inl rfl)) (pgs_cons (pg_name (i := 8) sc_l_rebuilt_right.nd rfl (Or.inl rfl)) pgs_nil)))) (pss_one (ps_if (PW.pt (pw_or (pt_cmpR op_ne (pe_ix ix_tup (pe_ix ix_tup (pe_meth0 (pv 5) (c_Session T) (m_Session_state T) (ok_x_state T) (hr.mono (by decide)) (b_x_state T) .nil pass0) pe_int (fun _ _ => rfl)) (pv 6) (fun _ _ => rfl)) (pv 7) (nomark _)) (pw_or1 (pt_cmpR op_ne (pe_ix ix_tup (pe_ix ix_tup (pe_meth (pv 5) (c_Session T) (m_Session_go T) (ok_x_go T) (hr.mono (by decide)) (b_x_go T) .nil passL (pa_cons (pv 6) (pa_cons (pv 8) pa_nil))) pe_int (fun _ _ => rfl)) (pv 6) (fun _ _ => rfl)) (pv 8) (nomark _))))) (pss_one (ps_ret pe_bl)) pss_nil)))
      (pss_cons (ps_if (PW.pt (pw_or (pt_cmpR (op_neI (ok_x_eq T) (hr.mono (by decide)) (m_Session_eq T).at_ (m_Session_eq T).fn T.exs.ne T.exs.mS (b_x_eq T) pass0) (pv 5) (pv 2) (nomark _)) (pw_or1 (pt_cmpR op_ne (pe_callB (call_lenI (ok_x_len T) (hr.mono (by decide)) (m_Session_len T).at_ (m_Session_len T).fn (b_x_len T) pass0) (by rfl) (n_len T) bt_len (pa_cons (pv 5) pa_nil)) (pe_callB call_lenA (by rfl) (n_len T) bt_len (pa_cons (pv 3) pa_nil)) (nomark _))))) (pss_one (ps_ret pe_bl)) pss_nil)
      (pss_cons (ps_expr (pe_meth0 (pv 4) (c_Session T) (m_Session_undo T) (ok_x_undo T) (hr.mono (by decide)) (b_x_undo T) .nil passL))
      (pss_one (ps_ret (pe_and (pe_cmpR (op_eqD hr.units) (pe_meth0 (pv 4) (c_Session T) (m_Session_state T) (ok_x_state T) (hr.mono (by decide)) (b_x_state T) .nil pass0) (pv 1) (nomark _)) (pe_one (pe_cmpR (op_eqD hr.units) (pe_meth0 (pv 4) (c_Session T) (m_Session_moves T) (ok_x_moves T) (hr.mono (by decide)) (b_x_moves T) .nil pass0) (pe_lst pa_nil) (nomark _)))))))))))), ?_⟩
    try dsimp only [cxOf, Cx.nox, Cx.wish]
    have hstart : ∀ a0 a1 a2 : V, L2.start N_l_rebuilt_right [a0, a1, a2] = [some a0, some a1, some a2, none, none, none, none, none, none] := fun _ _ _ => rfl
    rw [hstart]
    clear hstart
    walk_at "w"
    refine ⟨B, s, hi, ds, p, made, hist, rfl, S, fun l xs nl hx => ?_⟩
    have e1 := Same.new nl (o := .lst xs)
    have l1 := upd_same (H := H) (a := l) (o := .lst xs)
    generalize upd H l _ = H1 at *
    have xl := hx.len
    rw [List.length_map] at xl
    walk_at "w"
    intro a adx na nda ne
    have e2' := same_make (o := .ins (He.ga K "Session") adx []) (u := .own a) (Same.refl H1) na nda
    have a2 := upd_same (H := upd H1 adx (.own a)) (a := a) (o := .ins (He.ga K "Session") adx [])
    generalize upd (upd H1 adx _) a _ = H2 at *
    have t2 := TK.same (e1.trans e2')
    refine ⟨a, adx, v, w, ds, p0, rfl, a2, hv.tk t2, hO, hw.tk t2, hP, fun H3 Ba ah kp nah SA => ⟨rfl, ?_⟩⟩
    have e3 : Same H1 H3 := Same.kp1 e2' na kp
    have nah1 : H1 ah = none := Same.none e2' nah
    walk_at "w"
    intro b bdx nb ndb neb
    have e4' := same_make (o := .ins (He.ga K "Session") bdx []) (u := .own b) (Same.refl H3) nb ndb
    have b4 := upd_same (H := upd H3 bdx (.own b)) (a := b) (o := .ins (He.ga K "Session") bdx [])
    generalize upd (upd H3 bdx _) b _ = H4 at *
    have t4 := TK.same ((e1.trans e3).trans e4')
    refine ⟨b, bdx, v, w, ds, p0, rfl, b4, hv.tk t4, hO, hw.tk t4, hP, fun H5 Bb bh kp5 nbh SB => ⟨rfl, ?_⟩⟩
    have e5 : Same H3 H5 := Same.kp1 e4' nb kp5
    have nbh3 : H3 bh = none := Same.none e4' nbh
    have s5 := (e1.trans e3).trans e5
    have SA5 := SA.same e5
    walk_at "w"
    obtain ⟨adx5, at5, ahv, acv, axs, ga1, ga2, ga3, ga4, ga5, ga6⟩ := SA5.ex
    have ga6' : axs = [] := ImAll.nil_inv ga6
    subst ga6'
    obtain ⟨Bb', SB5, hB1, hB2⟩ := SB.apart ga2 (show (4 : Nat) ≠ 3 by decide) ga3
    have n1 := fun {y : Addr} (h : H1 y = none) => Same.none e1 h
    have nBa : B a = none := Same.none (S.sm.trans e1) na
    have nBah : B ah = none := Same.none (S.sm.trans e1) nah1
    have nb1 : H1 b = none := Same.none e3 nb
    have nbh1 : H1 bh = none := Same.none e3 nbh3
    have nBb : B b = none := Same.none (S.sm.trans e1) nb1
    have nBbh : B bh = none := Same.none (S.sm.trans e1) nbh1
    have ga2' := (SA.ex)
    obtain ⟨bdx5, bt5, bhv, bcv, bxs, gb1, gb2, gb3, gb4, gb5, gb6⟩ := SB.ex
    have g2' := e1 _ _ g2
    have g3' := e1 _ _ g3
    have sa : s ≠ a := ne_of_none g2' na
    have sah : s ≠ ah := ne_of_none g2' nah1
    have sb : s ≠ b := ne_of_none g2' nb1
    have sbh : s ≠ bh := ne_of_none g2' nbh1
    have hia : hi ≠ a := ne_of_none g3' na
    have hiah : hi ≠ ah := ne_of_none g3' nah1
    have hib : hi ≠ b := ne_of_none g3' nb1
    have hibh : hi ≠ bh := ne_of_none g3' nbh1
    have ga2'' : ∃ o, H3 a = some o := by
      obtain ⟨_, _, _, _, _, _, q, _⟩ := SA.ex
      exact ⟨_, q⟩
    have ga3'' : ∃ o, H3 ah = some o := by
      obtain ⟨_, _, _, _, _, _, _, q, _⟩ := SA.ex
      exact ⟨_, q⟩
    obtain ⟨oa, ga2''⟩ := ga2''
    obtain ⟨oah, ga3''⟩ := ga3''
    have ab : a ≠ b := ne_of_none ga2'' nb
    have abh : a ≠ bh := ne_of_none ga2'' nbh3
    have ahb : ah ≠ b := ne_of_none ga3'' nb
    have ahbh : ah ≠ bh := ne_of_none ga3'' nbh3
    have la : l ≠ a := ne_of_none l1 na
    have lah : l ≠ ah := ne_of_none l1 nah1
    have lb : l ≠ b := ne_of_none l1 nb1
    have lbh : l ≠ bh := ne_of_none l1 nbh1
    have l5 := (e3.trans e5) _ _ l1
    have hx5 := hx.tk (TK.same s5)
    have S5 := S.same s5
    walk_at "w"
    refine ⟨Ba, a, ah, l, xs, ds, p0, [], [], made, rfl, SA5, hO, hP, l5, lah, hx5, h2, Nat.zero_le _, Nat.zero_le _, hS, fun i kk hr => (by rw [hrun] at hr; cases hr), fun q hq H6 u k6 SA6 hu => ?_⟩
    rw [hrun] at hq
    cases hq
    have t6 := k6.tk ga2 ga3
    have l6 := k6 _ _ l5 la lah
    have hx6 := hx5.tk t6
    have S6 := S5.kp2 k6 nBa nBah sa sah hia hiah t6
    have SB6 := SB5.kp2 k6 hB1 hB2 ab.symm ahb.symm abh.symm ahbh.symm t6
    have s6 : Same H H6 := Same.kp2 s5 (Same.none e1 na) (Same.none e1 nah1) k6
    obtain ⟨adx6, at6, ahv6, acv6, axs6, ga16, ga26, ga36, ga46, ga56, ga66⟩ := SA6.ex
    obtain ⟨sdx6, st6, shv6, scv6, sxs6, gs16, gs26, gs36, gs46, gs56, gs66⟩ := S6.ex
    obtain ⟨bdx6, bt6, bhv6, bcv6, bxs6, gb16, gb26, gb36, gb46, gb56, gb66⟩ := SB6.ex
    walk_at "w"
    refine ⟨B, s, hi, ds, p, made, hist, rfl, S6, fun z hz => ?_⟩
    walk_at "w"
    refine st_neD hu.dp hz.dp (Sh.pos _) (Sh.pos _) (by decide) (by decide) ?_
    rw [eqv_self (Sh.pos _)]
    walk_at "w"
    refine ⟨a, s, _, _, _, _, rfl, rfl, ga26, gs26, Ba, B, a, ah, s, hi, ds, p, made, [(p0, [])], hist, rfl, SA6, S6, true, rfl, ?_⟩
    walk_at "w"
    refine ⟨v, w, l, xs, ds, p0, p, made, rfl, hv.tk (TK.same s6), hO, hw.tk (TK.same s6), hP, l6, hx6, by omega, hS, hrun, fun H7 u2 e7 hu2 => ?_⟩
    have gs27 := e7 _ _ gs26
    have ga27 := e7 _ _ ga26
    have ga37 := e7 _ _ ga36
    have gb27 := e7 _ _ gb26
    have gb37 := e7 _ _ gb36
    have l7 := e7 _ _ l6
    have S7 := S6.same e7
    have SA7 := SA6.same e7
    have SB7 := SB6.same e7
    have hx7 := hx6.tk (TK.same e7)
    have s7 := s6.trans e7
    walk_at "w"
    refine ⟨B, s, hi, ds, p, made, hist, rfl, S7, fun z2 hz2 => ?_⟩
    walk_at "w"
    refine st_neD hu2.dp hz2.dp (Sh.pos _) (Sh.pos _) (by decide) (by decide) ?_
    rw [eqv_self (Sh.pos _)]
    walk_at "w"
    refine for_listB xs (fun j σ H8 => ∃ (r : PosD) (hj : List (PosD × List Stp)) (v6 v7 v8 : Option V), σ = [some v, some w, some (.ref s), some (.ref l), some (.ref a), some (.ref b), v6, v7, v8] ∧ Kp2 b bh H7 H8 ∧ SessAt K Bb' H8 b bh ds r (made.take j) hj ∧ hj.length = j ∧ runS ds p0 (made.take j) 0 = .inr r) ?_ ?_ ?_ ?_
    · exact ⟨p0, [], none, none, none, rfl, Kp2.refl, SB7, rfl, rfl⟩
    · rintro j σ H8 _ ⟨r, hj, v6, v7, v8, _, k8, _⟩
      exact SqL.of (k8 _ _ l7 lb lbh)
    · rintro j x σ H8 hj' ⟨r, hj, v6, v7, v8, rfl, k8, SB8, hjl, hr⟩
      obtain ⟨dd, hdd, him⟩ := hx7.get' hj'
      rw [List.getElem?_map] at hdd
      obtain ⟨d, hd, rfl⟩ := Option.map_eq_some_iff.mp hdd
      have jl : j < made.length := (List.getElem?_eq_some_iff.mp hd).1
      have t8 := k8.tk gb27 gb37
      obtain ⟨c, rfl, hc⟩ := (him.tk t8).step_inv
      obtain ⟨r', hr1, hbl, hr2⟩ := runS_at hrun hd
      rw [hr] at hr1
      have hrr : r = r' := by injection hr1
      subst hrr
      obtain ⟨b1, b2⟩ := bl_none hbl
      have hSd := hS d (List.mem_of_getElem? hd)
      obtain ⟨st1, jj, st2⟩ := hSd
      have hPr := runS_ok hO (made.take j) p0 r 0 hP (fun z hz => hS z (List.mem_of_mem_take hz)) hr
      obtain ⟨hPr, hrl⟩ := hPr
      have st1r : d.1 < r.1.length := by rw [hrl]; exact st1
      have hdi : doorI ds d = jj := by unfold doorI; rw [st2]; rfl
      rw [hdi] at b2
      obtain ⟨bdx8, bt8, bhv8, bcv8, bxs8, gb18, gb28, gb38, gb48, gb58, gb68⟩ := SB8.ex
      walk_at "w"
      refine ⟨Bb', b, bh, ds, r, made.take j, hj, rfl, SB8, fun z hz => ?_⟩
      obtain ⟨pa, ra, ba, rfl, q1, q2, q3⟩ := hz.pos_inv
      walk_at "w"
      refine st_ixT q2 (at_map st1r) ?_
      walk_at "w"
      refine iteNDT (show ((r.1.getD d.1 0 : Nat) : Int) = (d.2.1 : Int) by rw [b1]) ?_
      walk_at "w"
      refine ⟨Bb', b, bh, ds, r, made.take j, hj, d.1, d.2.2, rfl, SB8, hO, hPr, st1r, (hO.lt st2).2.1, by rw [List.length_take]; omega, by omega, fun kk hk => ?_, fun i hd' hne H9 u9 k9 SB9 hu9 => ?_⟩
      · exfalso
        rw [b1, st2] at hk
        rcases hk with ⟨h, _⟩ | ⟨⟨i, h1, h2⟩, _⟩
        · cases h
        · cases h1
          exact b2 h2
      · have ed : (d.1, r.1.getD d.1 0, d.2.2) = d := by rw [b1]
        rw [ed] at SB9 hu9
        obtain ⟨pa9, ra9, ba9, rfl, q19, q29, q39⟩ := hu9.pos_inv
        walk_at "w"
        refine st_ixT q29 (at_map (by rw [mv_len]; exact st1r)) ?_
        walk_at "w"
        have em : (mv ds r d).1.getD d.1 0 = d.2.2 := by
          show (r.1.set d.1 d.2.2).getD d.1 0 = _
          rw [List.getD, List.getElem?_set_self st1r]
          rfl
        refine iteNDT (show (((mv ds r d).1.getD d.1 0 : Nat) : Int) = (d.2.2 : Int) by rw [em]) ?_
        walk_at "w"
        have ht : made.take (j + 1) = made.take j ++ [d] := by rw [List.take_add_one, hd]; rfl
        refine ⟨mv ds r d, hj ++ [(r, made.take j)], _, _, _, rfl, k8.trans k9, by rw [ht]; exact SB9, by rw [List.length_append, hjl]; rfl, hr2⟩
    · rintro σ H8 ⟨r, hj, v6, v7, v8, rfl, k8, SB8, hjl, hr⟩
      rw [xl, List.take_length] at SB8 hr
      rw [hrun] at hr
      have hrr : p = r := by injection hr
      subst hrr
      have t8 := k8.tk gb27 gb37
      have S8 := S7.kp2 k8 nBb nBbh sb sbh hib hibh t8
      have SA8 := SA7.kp2 k8 (Same.none SA.sm nb) (Same.none SA.sm nbh3) ab abh ahb ahbh t8
      have s8 : Same H H8 := Same.kp2 s7 (Same.none e1 nb1) (Same.none e1 nbh1) k8
      have l8 := k8 _ _ l7 lb lbh
      obtain ⟨sdx8, st8, shv8, scv8, sxs8, gs18, gs28, gs38, gs48, gs58, gs68⟩ := S8.ex
      obtain ⟨adx8, at8, ahv8, acv8, axs8, ga18, ga28, ga38, ga48, ga58, ga68⟩ := SA8.ex
      obtain ⟨bdx8, bt8, bhv8, bcv8, bxs8, gb18, gb28, gb38, gb48, gb58, gb68⟩ := SB8.ex
      walk_at "w"
      refine ⟨b, s, _, _, _, _, rfl, rfl, gb28, gs28, Bb', B, b, bh, s, hi, ds, p, made, hj, hist, rfl, SB8, S8, true, rfl, ?_⟩
      walk_at "w"
      refine ⟨b, _, _, rfl, gb28, Bb', b, bh, ds, p, made, hj, rfl, SB8, ((made.length : Nat) : Int), rfl, by omega, by omega, ?_⟩
      walk_at "w"
      refine iteNDT (show ((made.length : Nat) : Int) = ((xs.length : Nat) : Int) by rw [xl]) ?_
      walk_at "w"
      refine ⟨Ba, a, ah, ds, p, made, [(p0, [])], rfl, SA8, fun z => (by cases z), fun h0 q m hh H9 k9 SA9 => ?_⟩
      have hq : h0 = [] ∧ q = p0 ∧ m = [] := by
        cases h0 with
        | nil =>
          have := List.cons.inj hh
          have := this.1
          cases this
          exact ⟨rfl, rfl, rfl⟩
        | cons z zs =>
          have := congrArg List.length hh
          simp at this
      obtain ⟨rfl, rfl, rfl⟩ := hq
      have s9 : Same H H9 := Same.kp2 s8 (Same.none e1 na) (Same.none e1 nah1) k9
      obtain ⟨adx9, at9, ahv9, acv9, axs9, ga19, ga29, ga39, ga49, ga59, ga69⟩ := SA9.ex
      walk_at "w"
      refine ⟨Ba, a, ah, ds, q, [], [], rfl, SA9, fun z hz => ?_⟩
      walk_at "w"
      refine st_eqD hz.dp (hw.tk (TK.same s9)).dp (Sh.pos _) (Sh.pos _) (by decide) (by decide) ?_
      rw [eqv_self (Sh.pos _)]
      walk_at "w"
      refine ⟨Ba, a, ah, ds, q, [], [], rfl, SA9, fun l2 ys nl2 hy => ?_⟩
      have hy' : ys = [] := ImAll.nil_inv hy
      subst hy'
      have e10 := Same.new nl2 (o := .lst [])
      have l10 := upd_same (H := H9) (a := l2) (o := .lst [])
      generalize upd H9 l2 _ = H10 at *
      walk_at "w"
      intro l3 nl3
      have e11 := Same.new nl3 (o := .lst [])
      refine st_eqD (j := 1) (k := 1) (d := .list []) (e := .list []) (.lst (SqL.of (e11 _ _ l10)) .nil) (.lst (SqL.of upd_same) .nil) (Sh.lst fun d hd => (by cases hd)) (Sh.lst fun d hd => (by cases hd)) (by decide) (by decide) ?_
      rw [eqv_nil]
      exact k _ ((s9.trans e10).trans e11)
abbrev N_law : List Str := ["_law_script", "_law_generator_here", "_law_doors", "_law_position", "_law_session", "_law_model", "_law_index", "_law_action"]
theorem sc_law : FnScope N_law ["_law_script"] (defScope S_law) := ⟨rfl, rfl, rfl, by decide +kernel, rfl, by decide +kernel, by decide +kernel⟩
def sp_law (K : PySem.W.Frag) : Sp := fun vs H Q _ => ∃ (a : Addr) (ns : List Int), vs = [.ref a] ∧ SqL K H a (ns.map V.int) ∧ ns.length ≤ 63 ∧ ∀ H', Q (.bl true) H'
set_option maxHeartbeats 4000000 in
theorem ok_law {P : Program} {w : World} {K : PySem.W.Frag} {mg : Str → Option Value} {base : Heap} (T : Tx K mg) : Ok P w K mg base CX0 10 d_law ["_law_script"] (sp_law K) := by
  refine (f_law T).ok sc_law (fun vs H Q E h => ?_) (fun cdv A outer s H vs Q E hr h => ?_)
  · obtain ⟨a, ns, rfl, _⟩ := h
    rfl
  · obtain ⟨a, ns, rfl, ha, h63, k⟩ := h
    refine ⟨_, PSs.nox (pss_cons (ps_set (i := 1) sc_law.nd rfl (Or.inl rfl) (pe_call (ok_l_generator T) (hr.mono (by decide)) (by rfl) (g_l_generator T) (f_l_generator T).kp (b_l_generator T) .nil pass0 (pa_cons (pv 0) (pa_cons pe_int pa_nil))))
      (pss_cons (ps_set (i := 2) sc_law.nd rfl (Or.inl rfl) (pe_call (ok_l_random_house T) (hr.mono (by decide)) (by rfl) (g_l_random_house T) (f_l_random_house T).kp (b_l_random_house T) .nil pass0 (pa_cons (pv 1) (pa_cons pe_int pa_nil))))
      (pss_cons (ps_set (i := 3) sc_law.nd rfl (Or.inl rfl) (pe_call (ok_l_random_state T) (hr.mono (by decide)) (by rfl) (g_l_random_state T) (f_l_random_state T).kp (b_l_random_state T) .nil pass0 (pa_cons (pv 1) (pa_cons (pv 2) (pa_cons (pe_op op_add pe_int (pe_call (ok_l_random T) (hr.mono (by decide)) (by rfl) (g_l_random T) (f_l_random T).kp (b_l_random T) .nil pass0 (pa_cons (pv 1) (pa_cons pe_int pa_nil)))) pa_nil)))))
      (pss_cons (ps_set (i := 4) sc_law.nd rfl (Or.inl rfl) (pe_make (k_Session T) (ok_x_init T) (hr.mono (by decide)) (by rfl) (g_Session T) (b_x_init T) .nil pass0 (pa_cons (pv 2) (pa_cons (pv 3) pa_nil))))
      (pss_cons (ps_set (i := 5) sc_law.nd rfl (Or.inl rfl) (pe_disp (pps_cons pe_str (pv 2) (pps_cons pe_str (pe_tup (pa_cons (pv 3) (pa_cons (pe_lst pa_nil) pa_nil))) (pps_cons pe_str (pe_lst pa_nil) pps_nil))) (by rfl) (by rfl) (fun z => by cases z) (by decide)))
      (pss_cons (ps_for PassesOwn.never rfl (pi_range2 (by rfl) (n_range T) (pa_cons pe_int (pa_cons (pe_callB (call_max2A rfl) (by rfl) (n_max T) bt_max (pa_cons pe_int (pa_cons (pe_callB call_lenA (by rfl) (n_len T) bt_len (pa_cons (pe_slice sl_list (pv 0) po_none (po_some pe_int)) pa_nil)) pa_nil))) pa_nil))) (pg_name (i := 6) sc_law.nd rfl (Or.inl rfl)) (pss_cons (ps_set (i := 7) sc_law.nd rfl (Or.inl rfl) (pe_call (ok_l_random_action T) (hr.mono (by decide)) (by rfl) (g_l_random_action T) (f_l_random_action T).kp (b_l_random_action T) .nil pass0 (pa_cons (pe_call (ok_l_generator T) (hr.mono (by decide)) (by rfl) (g_l_generator T) (f_l_generator T).kp (b_l_generator T) .nil pass0 (pa_cons (pv 0) (pa_cons (pv 6) pa_nil))) (pa_cons (pv 5) pa_nil))))
      (pss_cons (ps_if (pt_cmpR (op_neD hr.units) (pe_call (ok_l_call_action T) (hr.mono (by decide)) (by rfl) (g_l_call_action T) (f_l_call_action T).kp (b_l_call_action T) .nil pass0 (pa_cons (pv 4) (pa_cons (pv 7) pa_nil))) (pe_call (ok_l_apply_action T) (hr.mono (by decide)) (by rfl) (g_l_apply_action T) (f_l_apply_action T).kp (b_l_apply_action T) .nil pass0 (pa_cons (pv 5) (pa_cons (pv 7) pa_nil))) (nomark _)) (pss_one (ps_ret pe_bl)) pss_nil)
      (pss_one (ps_if (PW.pt (pw_or (pt_not (pt_val (pe_call (ok_l_matches T) (hr.mono (by decide)) (by rfl) (g_l_matches T) (f_l_matches T).kp (b_l_matches T) .nil pass0 (pa_cons (pv 4) (pa_cons (pv 5) pa_nil))))) (pw_or1 (pt_not (pt_val (pe_call (ok_l_rebuilt_right T) (hr.mono (by decide)) (by rfl) (g_l_rebuilt_right T) (f_l_rebuilt_right T).kp (b_l_rebuilt_right T) .nil pass0 (pa_cons (pv 2) (pa_cons (pv 3) (pa_cons (pv 4) pa_nil))))))))) (pss_one (ps_ret pe_bl)) pss_nil)))))
      (pss_one (ps_ret pe_bl)))))))), ?_⟩
    try dsimp only [cxOf, Cx.nox, Cx.wish]
    have hstart : ∀ a0 : V, L2.start N_law [a0] = [some a0, none, none, none, none, none, none, none] := fun _ => rfl
    rw [hstart]
    clear hstart
    walk_at "w"
    refine ⟨a, ns.map V.int, 0, rfl, ha, fun x hx => ?_, by decide, fun H1 g e1 ng gen1 => ?_⟩
    · obtain ⟨z, _, rfl⟩ := List.mem_map.mp hx
      exact ⟨z, rfl⟩
    walk_at "w"
    refine ⟨g, 20000, rfl, by decide, gen1, fun H2 dv ds k2 hO hdv gen2 => ?_⟩
    walk_at "w"
    refine ⟨g, 3, 20000 + 100, rfl, by decide, by decide, by decide, gen2, fun H3 r hr k3 gen3 => ?_⟩
    walk_at "w"
    have hd3 := hdv.tk (gen2.tk k3)
    refine ⟨g, dv, ds, r + 1, 20000 + 100 + 1, by rw [show (1 : Int) + (r : Int) = ((r + 1 : Nat) : Int) by omega] <;> rfl, hd3, hO.len, by omega, by omega, by decide, gen3, fun H4 pw p0 k4 hP hpw gen4 => ?_⟩
    have hd4 := hd3.tk (gen3.tk k4)
    have e4 : Same H H4 := Same.kp1 e1 ng ((k2.trans k3).trans k4)
    have ha4 : SqL K H4 a (ns.map V.int) := e4.seq ha
    walk_at "w"
    intro s sdx nS nsd ne
    have e5' := same_make (o := .ins (He.ga K "Session") sdx []) (u := .own s) (Same.refl H4) nS nsd
    have s5 := upd_same (H := upd H4 sdx (.own s)) (a := s) (o := .ins (He.ga K "Session") sdx [])
    generalize upd (upd H4 sdx _) s _ = H5 at *
    refine ⟨s, sdx, dv, pw, ds, p0, rfl, s5, hd4.tk (TK.same e5'), hO, hpw.tk (TK.same e5'), hP, fun H6 B hi k6 nhi S6 => ⟨rfl, ?_⟩⟩
    have e6 : Same H4 H6 := Same.kp1 e5' nS k6
    have nhi4 : H4 hi = none := Same.none e5' nhi
    obtain ⟨sdx6, st6, shv6, scv6, sxs6, g16, g26, g36, g46, g56, g66⟩ := S6.ex
    walk_at "w"
    refine st_disp fun M nM => ?_
    have e7 := Same.new nM (o := .dK [])
    have M7 := upd_same (H := H6) (a := M) (o := .dK [])
    generalize upd H6 M _ = H7 at *
    refine st_pcons ?_
    walk_at "w"
    refine st_pcons ?_
    walk_at "w"
    intro ml nml
    have e8 := Same.new nml (o := .lst [])
    have ml8 := upd_same (H := H7) (a := ml) (o := .lst [])
    have M8 := e8 _ _ M7
    generalize upd H7 ml _ = H8 at *
    walk_at "w"
    intro c nc
    have e9 := Same.new nc (o := .tup [pw, .ref ml])
    have c9 := upd_same (H := H8) (a := c) (o := .tup [pw, .ref ml])
    have ml9 := e9 _ _ ml8
    have M9 := e9 _ _ M8
    generalize upd H8 c _ = H9 at *
    refine st_pcons ?_
    walk_at "w"
    intro mh nmh
    have e10 := Same.new nmh (o := .lst [])
    have mh10 := upd_same (H := H9) (a := mh) (o := .lst [])
    have c10 := e10 _ _ c9
    have ml10 := e10 _ _ ml9
    have M10 := e10 _ _ M9
    generalize upd H9 mh _ = H10 at *
    refine st_pnil ?_
    refine ⟨M10, [(.inr "doors", dv), (.inr "current", .ref c), (.inr "history", .ref mh)], rfl, (show 3 ≤ 15 by decide), ?_⟩
    rw [merge3]
    have e610 : Same H6 H10 := ((e7.trans e8).trans e9).trans e10
    have e11 : Same H6 (upd H10 M (.dK [(.inr "doors", dv), (.inr "current", .ref c), (.inr "history", .ref mh)])) := Same.mut e610 nM
    have t11 : TK H10 (upd H10 M (.dK [(.inr "doors", dv), (.inr "current", .ref c), (.inr "history", .ref mh)])) := TK.dK M10
    have M11 := upd_same (H := H10) (a := M) (o := .dK [(.inr "doors", dv), (.inr "current", .ref c), (.inr "history", .ref mh)])
    have mhM : mh ≠ M := fun z => by rw [z, M9] at nmh; cases nmh
    have mlM : ml ≠ M := fun z => by rw [z, M7] at nml; cases nml
    have mlmh : ml ≠ mh := fun z => by rw [← z, ml9] at nmh; cases nmh
    have mh11 := (upd_ne (H := H10) (o := .dK [(.inr "doors", dv), (.inr "current", .ref c), (.inr "history", .ref mh)]) mhM).trans mh10
    have ml11 := (upd_ne (H := H10) (o := .dK [(.inr "doors", dv), (.inr "current", .ref c), (.inr "history", .ref mh)]) mlM).trans ml10
    have c11 := t11.seq (K := K) (SqT.of c10)
    generalize upd H10 M _ = H11 at *
    have nmh6 : H6 mh = none := Same.none ((e7.trans e8).trans e9) nmh
    have nml6 : H6 ml = none := Same.none e7 nml
    have nBM : B M = none := Same.none S6.sm nM
    have nBmh : B mh = none := Same.none S6.sm nmh6
    have sM : s ≠ M := ne_of_none g26 nM
    have smh : s ≠ mh := ne_of_none g26 nmh6
    have hM : hi ≠ M := ne_of_none g36 nM
    have hmh : hi ≠ mh := ne_of_none g36 nmh6
    have sml : s ≠ ml := ne_of_none g26 nml6
    have hml : hi ≠ ml := ne_of_none g36 nml6
    have e411 := e6.trans e11
    have n4M : H4 M = none := Same.none e6 nM
    have n4mh : H4 mh = none := Same.none e6 nmh6
    have hX0 : ml ∉ [s, hi, M, mh] := by simp [sml.symm, hml.symm, mlM, mlmh]
    have MA : ModelAt K H11 [s, hi, M, mh] M mh ds ⟨p0, [], []⟩ := ⟨by simp, dv, .ref c, [], M11, hd4.tk (TK.same e411), ⟨c, ml, pw, [], rfl, c11, hpw.tk (TK.same e411), ml11, .nil, hX0⟩, mh11, rfl, fun i v c' z => (by simp at z)⟩
    have S11 := S6.same e11
    walk_at "w"
    refine st_slL (e411.seq ha4) ?_
    intro z nz
    have e12 := Same.new nz (o := .lst (cutV (ns.map V.int) none (some 15)))
    have z12 := upd_same (H := H11) (a := z) (o := .lst (cutV (ns.map V.int) none (some 15)))
    have MA12 := MA.same e12
    have S12 := S11.same e12
    generalize upd H11 z _ = H12 at *
    walk_at "w"
    have hL : (cutV (ns.map V.int) none (some 15)).length ≤ 15 := by
      rw [show (some (15 : Int)) = some ((15 : Nat) : Int) from rfl, cut_take, List.length_take]
      omega
    generalize (cutV (ns.map V.int) none (some 15)).length = L at *
    obtain ⟨N, hN, hN1⟩ : ∃ N : Nat, (if (L : Int) > 7 then (L : Int) else 7) = (N : Int) ∧ N ≤ 15 := by
      by_cases h : L > 7
      · exact ⟨L, if_pos (by omega), hL⟩
      · exact ⟨7, if_neg (by omega), by decide⟩
    refine st_r2 N hN (by omega) ?_
    have n4s : H4 s = none := nS
    refine for_rangeB (fun i σ H' => ∃ (st : Sta) (v6 v7 : Option V), σ = [some (.ref a), some (.ref g), some dv, some pw, some (.ref s), some (.ref M), v6, v7] ∧ Same H4 H' ∧ SessAt K B H' s hi ds st.p st.made st.hist ∧ ModelAt K H' [s, hi, M, mh] M mh ds st ∧ Reach ds p0 i st) ?_ ?_ ?_
    · exact ⟨⟨p0, [], []⟩, none, none, rfl, e411.trans e12, S12, MA12, reach0 hP⟩
    · rintro i σ HA hi' ⟨st, v6, v7, rfl, eA, SA, MA', RA⟩
      have hlen := RA.len
      have hhl := RA.hl
      obtain ⟨sdxA, stA, shvA, scvA, sxsA, gA1, gA2, gA3, gA4, gA5, gA6⟩ := SA.ex
      obtain ⟨mdA, mcA, mhsA, mA1, mA2, mA3, mA4, mA5, mA6⟩ := MA'.ex
      have hXA : ∀ x ∈ [s, hi, M, mh], HA x ≠ none := by
        intro x hx
        simp only [List.mem_cons, List.not_mem_nil, or_false] at hx
        rcases hx with rfl | rfl | rfl | rfl
        · rw [gA2]; exact fun z => by cases z
        · rw [gA3]; exact fun z => by cases z
        · rw [mA1]; exact fun z => by cases z
        · rw [mA4]; exact fun z => by cases z
      walk_at "w"
      refine ⟨a, ns.map V.int, i + 1, by rw [show (1 : Int) + (i : Nat) = ((i + 1 : Nat) : Int) by omega] <;> rfl, eA.seq ha4, fun x hx => ?_, by omega, fun HB g2 eB ng2 genB => ?_⟩
      · obtain ⟨z, _, rfl⟩ := List.mem_map.mp hx
        exact ⟨z, rfl⟩
      walk_at "w"
      refine ⟨HA, g2, M, mh, _, ds, st, 20000, rfl, by decide, genB, eB, ng2, MA', hXA, hO, RA.pos, fun HC v act kC hact hok => ?_⟩
      have eC : Same HA HC := Same.kp1 eB ng2 kC
      have SC := SA.same eC
      have MC := MA'.same eC
      have gC2 := eC _ _ gA2
      have gC3 := eC _ _ gA3
      have mC1 := eC _ _ mA1
      have mC4 := eC _ _ mA4
      walk_at "w"
      refine ⟨B, s, hi, [s, hi, M, mh], v, ds, st, act, rfl, SC, by simp, hO, RA.pos, by omega, by omega, hact, hok, fun HD q xs kD SD nq qD xD => ?_⟩
      have tD := kD.tk gC2 gC3
      have kxD : KpX [s, hi, M, mh] HC HD := KpX.two kD (by simp) (by simp)
      have mD1 := kD _ _ mC1 sM.symm hM.symm
      have mD4 := kD _ _ mC4 smh.symm hmh.symm
      have MD : ModelAt K HD [s, hi, M, mh] M mh ds st := MC.keep tD kxD (fun o h => kD _ _ h sM.symm hM.symm) (fun o h => kD _ _ h smh.symm hmh.symm)
      have hactD := hact.keep tD kxD
      obtain ⟨sdxD, stD, shvD, scvD, sxsD, gD1, gD2, gD3, gD4, gD5, gD6⟩ := SD.ex
      have hXD : ∀ x ∈ [s, hi, M, mh], HD x ≠ none := by
        intro x hx
        simp only [List.mem_cons, List.not_mem_nil, or_false] at hx
        rcases hx with rfl | rfl | rfl | rfl
        · rw [gD2]; exact fun z => by cases z
        · rw [gD3]; exact fun z => by cases z
        · rw [mD1]; exact fun z => by cases z
        · rw [mD4]; exact fun z => by cases z
      walk_at "w"
      refine ⟨M, mh, [s, hi, M, mh], v, ds, st, act, rfl, MD, by simp, hXD, hO, RA.pos, by omega, by omega, hactD, hok, fun HE q2 xs2 kE ME nq2 q2E x2E => ?_⟩
      have tE := kE.tkD mD1 mD4
      have SE := SD.kp2 kE nBM nBmh sM smh hM hmh tE
      have qE := kE _ _ qD (ne_of_none mC1 nq).symm (ne_of_none mC4 nq).symm
      have RE := RA.step hO act hok
      have e4E : Same H4 HE := Same.kp2 (Same.kp2 (eA.trans eC) n4s nhi4 kD) n4M n4mh kE
      refine st_neD (d := .list (dOut (stepA ds st act).1)) (e := .list (dOut (stepA ds st act).1)) (.lst (SqL.of qE) (xD.tk tE).dp) (.lst (SqL.of q2E) x2E.dp) (sh_out _) (sh_out _) (by decide) (by decide) ?_
      rw [eqv_self (sh_out _)]
      generalize (stepA ds st act).2 = st' at *
      have hlen' := RE.len
      walk_at "w"
      refine ⟨B, s, hi, M, mh, _, ds, st', rfl, SE, ME, by omega, fun HF eF => ?_⟩
      have e4F := e4E.trans eF
      walk_at "w"
      refine ⟨B, s, hi, dv, pw, ds, p0, st'.p, st'.made, st'.hist, rfl, hd4.tk (TK.same e4F), hO, hpw.tk (TK.same e4F), hP, SE.same eF, RE.run, RE.ok, by omega, fun HG eG => ?_⟩
      walk_at "w"
      exact ⟨st', _, _, rfl, e4F.trans eG, (SE.same eF).same eG, (ME.same eF).same eG, RE⟩
    · rintro σ HZ ⟨st, v6, v7, rfl, eZ, SZ, MZ, RZ⟩
      walk_at "w"
      exact k _
end K83
set_option maxHeartbeats 0
namespace K83
open PySem PySem.Spec PyProof.Rows L2
theorem facts {P : Program} {w : World} {K : PySem.W.Frag} {h : Heap} {mg : Str → Option Value} {f : Addr} (X : K.In h) (G : h.Ns mainGlobals mg) (hfa : mg ("law" : Str) = some (.ref f)) (c : SaysY fa fn K) :
    ∃ fd : FuncData, (∀ (s : Shared) (v : Value), BindsTo s fd ⟨[v], []⟩ [("_law_script", v)]) ∧ ∀ base : Heap, K.In base → base.Ns mainGlobals mg → FnOk P w K mg base CX0 10 f fd ["_law_script"] (sp_law K) := by
  have T : Tx K mg := ⟨⟨h, X, G⟩, c⟩
  have e := hfa.symm.trans (g_law T)
  cases e
  have b := FunD.bindsA (ps := ["_law_script"]) (f_law T) fun _ _ _ _ _ _ us hl => match us, hl with | [_], _ => rfl
  exact ⟨_, fun s v => b s [v] rfl, fun base _ _ => ok_law T⟩
end K83
open PySem PySem.W PySem.Calls PyProof.Rows
theorem PySem.Challenge.cw_lastthrough_k83_whole_sessions_rebuilt_holds : PySem.Challenge.rw_lastthrough_k83_whole_sessions_rebuilt.Holds := by
  w_on; o_law
  refine HandSHeadRun.head_any (r := K83.R) (q := view K83.R.prog [49]) (H := K83.hk) (ob := K83.ob) (M := 8000) (loose := K83.loose) (d := HandSHeadRun.topDef K83.R.prog 49) (kwd := []) K83.ob_eq
    (by kernel_rfl) (fun s => by kernel_rfl) K83.run (by kernel_rfl) (by kernel_rfl) (by kernel_rfl) (by rfl) (by first | assumption | decide +kernel) (by decide +kernel) ⟨rfl, rfl, rfl, rfl, rfl, by decide +kernel⟩ ?hw ?hc
  case hw => w_witness2
  case hc =>
    refine L2.walk_ofE (l := PySem.Challenge.rw_lastthrough_k83_whole_sessions_rebuilt) (n := 63) (k := 10) (x := "_law_script") (CX := L2.CX0) rfl (by decide) (by kernel_rfl) ⟨rfl, by decide, by decide⟩ ?F (fun _ _ _ _ z => z)
    intro w mg fa h Y G hmg0
    obtain ⟨K, KX, c⟩ := Y
    have hmg : mg ("law" : PySem.Str) = some (.ref fa) := by
      have e : (HandSHeadRun.topDef K83.R.prog 49).name = ("law" : PySem.Str) := by kernel_rfl
      rw [← e]
      exact hmg0
    obtain ⟨fd, hb, hF⟩ := K83.facts (P := (PySem.Challenge.rw_lastthrough_k83_whole_sessions_rebuilt).prog) (w := w) KX G hmg c
    exact ⟨K, fd, K83.sp_law K, KX, hb, fun H a ns hl _ hS => ⟨a, ns, rfl, hS, hl, fun _ => rfl⟩, hF⟩
