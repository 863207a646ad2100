import PyProof.Rows.All
import Wide.All
import OpenK.AllK
import Wide.FinOn
import KE.KStateDown
import HandS.ForMost
import HandS.Defaults
import HandS.Property
import HandS.Head0
import HandS.Head1
import HandS.Head2
import HandS.HeadEnd
import HandS.HeadHook1
import HandS.HeadHook2
import HandS.IsInst
import KE.KOpsOwn
import KE.KDictKeyed
import KE.KeyNested
import KE.KDictCopyH
import KE.KDictWalk
import KE.DataEq
import HandS.Conv
import KE.KDictDisplayH
import HandS.NoneIn
import HandS.TupSets
import HandS.TupAny
import HandS.Wide
import HandS.WordsDict
import HandS.SortInts
import HandS.More
import HandS.Text
import KE.GoesSet
import HandS.DictComp
import HandS.Walk
import HandS.Set
import HandS.SetFor
import KE.SortData
import KE.GoesEnum
import KE.KDictList
import HandS.Star
import HandS.ListItems
import HandS.SetKeys
import PySem.Challenge.RW_knownlate_k25_whole_told_or_veiled
set_option Elab.async false
set_option linter.all false
set_option maxRecDepth 100000
set_option maxHeartbeats 4000000
namespace K25
open PySem PySem.Spec PyProof.Rows L2
/-! ### the text by places -/
def top (i : Nat) : Stmt := PySem.Challenge.pw_knownlate_k25_whole_told_or_veiled.main.body.getD i (.Pass ⟨0, 0, 0, 0⟩)
abbrev s_is_integer : Stmt := top 16
abbrev s_is_count : Stmt := top 17
abbrev s_is_state : Stmt := top 18
abbrev s_is_name : Stmt := top 19
abbrev s_is_row : Stmt := top 20
abbrev s_is_ascending : Stmt := top 21
abbrev s_Machine_init : Stmt := inClass (top 27) 0
abbrev s_Machine_start : Stmt := inClass (top 27) 1
abbrev s_Machine_steps : Stmt := inClass (top 27) 2
abbrev s_Machine_fault_names : Stmt := inClass (top 27) 4
abbrev s_Machine_faults : Stmt := inClass (top 27) 5
abbrev s_Machine_states : Stmt := inClass (top 27) 6
abbrev s_checked_steps : Stmt := top 28
abbrev s_is_step : Stmt := top 29
abbrev s_checked_faults : Stmt := top 30
abbrev s_leaving_table : Stmt := top 31
abbrev s_reached_states : Stmt := top 32
abbrev s_steps_from : Stmt := top 33
abbrev s_is_fault_step : Stmt := top 34
abbrev s_check_fault : Stmt := top 35
abbrev s_Watch_init : Stmt := inClass (top 37) 0
abbrev s_Watch_sights : Stmt := inClass (top 37) 2
abbrev s_Watch_ior : Stmt := inClass (top 37) 14
abbrev s_Watch_isub : Stmt := inClass (top 37) 18
abbrev s_is_sight_table : Stmt := top 38
abbrev s_sight_table : Stmt := top 39
abbrev s_joined_table : Stmt := top 40
abbrev s_shared_table : Stmt := top 41
abbrev s_table_without : Stmt := top 42
abbrev s_check_watch : Stmt := top 43
abbrev s_sight_of : Stmt := top 44
abbrev s_after : Stmt := top 47
abbrev s_first_estimate : Stmt := top 48
abbrev s_later_estimate : Stmt := top 49
abbrev s_pair_behind : Stmt := top 50
abbrev s_closed_pairs : Stmt := top 51
abbrev s_known : Stmt := top 52
abbrev s_all_estimates : Stmt := top 53
abbrev s_is_sure : Stmt := top 54
abbrev s_telling : Stmt := top 55
abbrev s_veil : Stmt := top 56
abbrev s_split_pairs : Stmt := top 57
abbrev s_is_veil : Stmt := top 58
abbrev s_is_veil_item : Stmt := top 59
abbrev s_later_parts : Stmt := top 60
abbrev s_closed_parts : Stmt := top 61
abbrev s__law_mix : Stmt := top 63
abbrev s__law_cell : Stmt := top 64
abbrev s__law_row : Stmt := top 65
abbrev s__law_names : Stmt := top 66
abbrev s__law_machine : Stmt := top 67
abbrev s__law_faults : Stmt := top 68
abbrev s__law_sights : Stmt := top 69
abbrev s__law_is_integer : Stmt := top 70
abbrev s__law_seen : Stmt := top 71
abbrev s__law_walk : Stmt := top 72
abbrev s__law_flag : Stmt := top 73
abbrev s__law_is_name : Stmt := top 74
abbrev s__law_reached : Stmt := top 75
abbrev s__law_system : Stmt := top 76
abbrev s__law_bad_words : Stmt := top 77
abbrev s__law_pair_behind : Stmt := top 78
abbrev s__law_estimate : Stmt := top 79
abbrev s__law_later : Stmt := top 80
abbrev s__law_all_estimates : Stmt := top 81
abbrev s__law_split : Stmt := top 82
abbrev s__law_veil_item : Stmt := top 83
abbrev s__law_is_veil : Stmt := top 84
abbrev s__law_tells : Stmt := top 85
abbrev s__law_veiled : Stmt := top 86
abbrev s_law : Stmt := top 87
/-! ### the facts that one run of the top shows -/
/-- the getter of a property -/
def pgt (K : PySem.W.Frag) (C f : Str) : Addr := match PySem.W.recIn K (He.ma K (He.ga K C) f) "property" with
  | some (.ref g :: _) => g
  | _ => 0
def propB (K : PySem.W.Frag) (C f : Str) : Bool :=
  decide (PySem.W.findIn K (.ref (He.ga K C)) f = some (some (.ref (He.ma K (He.ga K C) f)))) && (decide (PySem.W.specialIn K (.ref (He.ma K (He.ga K C) f)) "__get__" = some (some (.builtin "property.__get__"))) &&
    (decide (PySem.W.takesIn K (.ref (He.ma K (He.ga K C) f)) = some true) && (match PySem.W.recIn K (He.ma K (He.ga K C) f) "property" with
      | some (.ref g :: _) => true
      | _ => false)))
/-- what isinstance, |= and -= ask of Watch -/
def watchB (K : PySem.W.Frag) : Bool :=
  PySem.W.selfFirst K (He.ga K "Watch") && (decide (PySem.W.findIn K (.ref (He.ga K "Watch")) "__class__" = some (some (.builtin "object.__class__"))) && (decide (PySem.W.specialIn K (.builtin "object.__class__") "__get__" = some (some (.builtin "getset_descriptor.__get__"))) &&
    (decide (PySem.W.takesIn K (.builtin "object.__class__") = some true) && (decide (PySem.W.mroIn K (He.ga K "Watch") (.type "object") = some true) && (decide (PySem.W.kitOne K (.type "dict") (.ref (He.ga K "Watch")) = some false) &&
    ((He.Fa.meth "Watch" "__ior__").ok K && (He.Fa.meth "Watch" "__isub__").ok K))))))
theorem propB_ok {K : PySem.W.Frag} {C f : Str} (h : propB K C f = true) : PropOf K (He.ga K C) f (He.ma K (He.ga K C) f) (pgt K C f) := by
  obtain ⟨h1, h⟩ := He.ba h
  obtain ⟨h2, h⟩ := He.ba h
  obtain ⟨h3, h4⟩ := He.ba h
  refine ⟨of_decide_eq_true h1, of_decide_eq_true h2, of_decide_eq_true h3, ?_⟩
  unfold pgt
  revert h4
  split <;> intro h4
  · rename_i g r e
    exact ⟨r, e⟩
  · cases h4
/-- a def of the text, found by a path -/
structure DefM where
  path : PySem.W.Frag → Addr
  name : Str
  qual : Str
  params : Arguments
  body : List Stmt
  scope : Scope
  dfl : List V
abbrev FnM : Type := Option (Str × Str × Arguments × FuncBody × Scope × Addr × List (Str × Addr) × Addr)
def fnM (K : PySem.W.Frag) (a : Addr) : FnM := match K.lookup a with
  | some ⟨_, _, .func fd, _⟩ => some (fd.name, fd.qualname, fd.params, fd.body, fd.scope, fd.globals, fd.closure, fd.builtins)
  | _ => none
def DefM.val (d : DefM) : FnM := some (d.name, d.qual, d.params, .stmts d.body, d.scope, mainGlobals, [], builtinsNs)
def DefM.ok (K : PySem.W.Frag) (d : DefM) : Bool := PySem.W.keepIn K (.ref (d.path K)) && (match K.lookup (d.path K) with
  | some ⟨_, _, .func fd, _⟩ => PySem.W.codeIn K fd.code d.qual && He.dflB K fd.defaults d.dfl
  | _ => false)
theorem DefM.funD {K : PySem.W.Frag} {d : DefM} (e : fnM K (d.path K) = d.val) (c : d.ok K = true) : ∃ fd, FunD K d.name d.qual d.params d.body d.scope d.dfl [] (d.path K) fd := by
  obtain ⟨kp, c2⟩ := He.ba c
  unfold fnM at e
  split at e
  · rename_i oc od fd osl q
    rw [q] at c2
    obtain ⟨k1, k2⟩ := He.ba (show (PySem.W.codeIn K fd.code d.qual && He.dflB K fd.defaults d.dfl) = true from c2)
    obtain ⟨n1, n2, n3, n4, n5, n6, n7, n8, n9, n10, n11, n12, n13, n14, n15⟩ := fd
    have e2 : (some (n1, n2, n3, n4, n5, n6, n7, n15) : FnM) = some (d.name, d.qual, d.params, .stmts d.body, d.scope, mainGlobals, [], builtinsNs) := e
    simp only [Option.some.injEq, Prod.mk.injEq] at e2
    obtain ⟨h1, h2, h3, h4, h5, h6, h7, h8⟩ := e2
    subst h1 h2 h3 h4 h5 h6 h7 h8
    exact ⟨_, ⟨oc, od, n8, n9, n10, n11, n12, n13, n14, osl, rfl, q, k1, He.dflB_ok k2, .inl rfl⟩, kp⟩
  · cases e
def d_is_integer : DefM := ⟨fun K => He.fAd K ("is_integer", none), "is_integer", "is_integer", defArgs s_is_integer, defBody s_is_integer, defScope s_is_integer, []⟩
def d_is_count : DefM := ⟨fun K => He.fAd K ("is_count", none), "is_count", "is_count", defArgs s_is_count, defBody s_is_count, defScope s_is_count, []⟩
def d_is_state : DefM := ⟨fun K => He.fAd K ("is_state", none), "is_state", "is_state", defArgs s_is_state, defBody s_is_state, defScope s_is_state, []⟩
def d_is_name : DefM := ⟨fun K => He.fAd K ("is_name", none), "is_name", "is_name", defArgs s_is_name, defBody s_is_name, defScope s_is_name, []⟩
def d_is_row : DefM := ⟨fun K => He.fAd K ("is_row", none), "is_row", "is_row", defArgs s_is_row, defBody s_is_row, defScope s_is_row, []⟩
def d_is_ascending : DefM := ⟨fun K => He.fAd K ("is_ascending", none), "is_ascending", "is_ascending", defArgs s_is_ascending, defBody s_is_ascending, defScope s_is_ascending, []⟩
def d_Machine_init : DefM := ⟨fun K => He.fAd K ("Machine", some "__init__"), "__init__", "Machine.__init__", defArgs s_Machine_init, defBody s_Machine_init, defScope s_Machine_init, [.non]⟩
def d_Machine_start : DefM := ⟨fun K => pgt K "Machine" "start", "start", "Machine.start", defArgs s_Machine_start, defBody s_Machine_start, defScope s_Machine_start, []⟩
def d_Machine_steps : DefM := ⟨fun K => pgt K "Machine" "steps", "steps", "Machine.steps", defArgs s_Machine_steps, defBody s_Machine_steps, defScope s_Machine_steps, []⟩
def d_Machine_fault_names : DefM := ⟨fun K => pgt K "Machine" "fault_names", "fault_names", "Machine.fault_names", defArgs s_Machine_fault_names, defBody s_Machine_fault_names, defScope s_Machine_fault_names, []⟩
def d_Machine_faults : DefM := ⟨fun K => pgt K "Machine" "faults", "faults", "Machine.faults", defArgs s_Machine_faults, defBody s_Machine_faults, defScope s_Machine_faults, []⟩
def d_Machine_states : DefM := ⟨fun K => pgt K "Machine" "states", "states", "Machine.states", defArgs s_Machine_states, defBody s_Machine_states, defScope s_Machine_states, []⟩
def d_checked_steps : DefM := ⟨fun K => He.fAd K ("checked_steps", none), "checked_steps", "checked_steps", defArgs s_checked_steps, defBody s_checked_steps, defScope s_checked_steps, []⟩
def d_is_step : DefM := ⟨fun K => He.fAd K ("is_step", none), "is_step", "is_step", defArgs s_is_step, defBody s_is_step, defScope s_is_step, []⟩
def d_checked_faults : DefM := ⟨fun K => He.fAd K ("checked_faults", none), "checked_faults", "checked_faults", defArgs s_checked_faults, defBody s_checked_faults, defScope s_checked_faults, []⟩
def d_leaving_table : DefM := ⟨fun K => He.fAd K ("leaving_table", none), "leaving_table", "leaving_table", defArgs s_leaving_table, defBody s_leaving_table, defScope s_leaving_table, []⟩
def d_reached_states : DefM := ⟨fun K => He.fAd K ("reached_states", none), "reached_states", "reached_states", defArgs s_reached_states, defBody s_reached_states, defScope s_reached_states, []⟩
def d_steps_from : DefM := ⟨fun K => He.fAd K ("steps_from", none), "steps_from", "steps_from", defArgs s_steps_from, defBody s_steps_from, defScope s_steps_from, []⟩
def d_is_fault_step : DefM := ⟨fun K => He.fAd K ("is_fault_step", none), "is_fault_step", "is_fault_step", defArgs s_is_fault_step, defBody s_is_fault_step, defScope s_is_fault_step, []⟩
def d_check_fault : DefM := ⟨fun K => He.fAd K ("check_fault", none), "check_fault", "check_fault", defArgs s_check_fault, defBody s_check_fault, defScope s_check_fault, []⟩
def d_Watch_init : DefM := ⟨fun K => He.fAd K ("Watch", some "__init__"), "__init__", "Watch.__init__", defArgs s_Watch_init, defBody s_Watch_init, defScope s_Watch_init, [.non]⟩
def d_Watch_sights : DefM := ⟨fun K => pgt K "Watch" "sights", "sights", "Watch.sights", defArgs s_Watch_sights, defBody s_Watch_sights, defScope s_Watch_sights, []⟩
def d_Watch_ior : DefM := ⟨fun K => He.fAd K ("Watch", some "__ior__"), "__ior__", "Watch.__ior__", defArgs s_Watch_ior, defBody s_Watch_ior, defScope s_Watch_ior, []⟩
def d_Watch_isub : DefM := ⟨fun K => He.fAd K ("Watch", some "__isub__"), "__isub__", "Watch.__isub__", defArgs s_Watch_isub, defBody s_Watch_isub, defScope s_Watch_isub, []⟩
def d_is_sight_table : DefM := ⟨fun K => He.fAd K ("is_sight_table", none), "is_sight_table", "is_sight_table", defArgs s_is_sight_table, defBody s_is_sight_table, defScope s_is_sight_table, []⟩
def d_sight_table : DefM := ⟨fun K => He.fAd K ("sight_table", none), "sight_table", "sight_table", defArgs s_sight_table, defBody s_sight_table, defScope s_sight_table, []⟩
def d_joined_table : DefM := ⟨fun K => He.fAd K ("joined_table", none), "joined_table", "joined_table", defArgs s_joined_table, defBody s_joined_table, defScope s_joined_table, []⟩
def d_shared_table : DefM := ⟨fun K => He.fAd K ("shared_table", none), "shared_table", "shared_table", defArgs s_shared_table, defBody s_shared_table, defScope s_shared_table, []⟩
def d_table_without : DefM := ⟨fun K => He.fAd K ("table_without", none), "table_without", "table_without", defArgs s_table_without, defBody s_table_without, defScope s_table_without, []⟩
def d_check_watch : DefM := ⟨fun K => He.fAd K ("check_watch", none), "check_watch", "check_watch", defArgs s_check_watch, defBody s_check_watch, defScope s_check_watch, []⟩
def d_sight_of : DefM := ⟨fun K => He.fAd K ("sight_of", none), "sight_of", "sight_of", defArgs s_sight_of, defBody s_sight_of, defScope s_sight_of, []⟩
def d_after : DefM := ⟨fun K => He.fAd K ("after", none), "after", "after", defArgs s_after, defBody s_after, defScope s_after, []⟩
def d_first_estimate : DefM := ⟨fun K => He.fAd K ("first_estimate", none), "first_estimate", "first_estimate", defArgs s_first_estimate, defBody s_first_estimate, defScope s_first_estimate, []⟩
def d_later_estimate : DefM := ⟨fun K => He.fAd K ("later_estimate", none), "later_estimate", "later_estimate", defArgs s_later_estimate, defBody s_later_estimate, defScope s_later_estimate, []⟩
def d_pair_behind : DefM := ⟨fun K => He.fAd K ("pair_behind", none), "pair_behind", "pair_behind", defArgs s_pair_behind, defBody s_pair_behind, defScope s_pair_behind, []⟩
def d_closed_pairs : DefM := ⟨fun K => He.fAd K ("closed_pairs", none), "closed_pairs", "closed_pairs", defArgs s_closed_pairs, defBody s_closed_pairs, defScope s_closed_pairs, []⟩
def d_known : DefM := ⟨fun K => He.fAd K ("known", none), "known", "known", defArgs s_known, defBody s_known, defScope s_known, []⟩
def d_all_estimates : DefM := ⟨fun K => He.fAd K ("all_estimates", none), "all_estimates", "all_estimates", defArgs s_all_estimates, defBody s_all_estimates, defScope s_all_estimates, []⟩
def d_is_sure : DefM := ⟨fun K => He.fAd K ("is_sure", none), "is_sure", "is_sure", defArgs s_is_sure, defBody s_is_sure, defScope s_is_sure, []⟩
def d_telling : DefM := ⟨fun K => He.fAd K ("telling", none), "telling", "telling", defArgs s_telling, defBody s_telling, defScope s_telling, []⟩
def d_veil : DefM := ⟨fun K => He.fAd K ("veil", none), "veil", "veil", defArgs s_veil, defBody s_veil, defScope s_veil, []⟩
def d_split_pairs : DefM := ⟨fun K => He.fAd K ("split_pairs", none), "split_pairs", "split_pairs", defArgs s_split_pairs, defBody s_split_pairs, defScope s_split_pairs, []⟩
def d_is_veil : DefM := ⟨fun K => He.fAd K ("is_veil", none), "is_veil", "is_veil", defArgs s_is_veil, defBody s_is_veil, defScope s_is_veil, []⟩
def d_is_veil_item : DefM := ⟨fun K => He.fAd K ("is_veil_item", none), "is_veil_item", "is_veil_item", defArgs s_is_veil_item, defBody s_is_veil_item, defScope s_is_veil_item, []⟩
def d_later_parts : DefM := ⟨fun K => He.fAd K ("later_parts", none), "later_parts", "later_parts", defArgs s_later_parts, defBody s_later_parts, defScope s_later_parts, []⟩
def d_closed_parts : DefM := ⟨fun K => He.fAd K ("closed_parts", none), "closed_parts", "closed_parts", defArgs s_closed_parts, defBody s_closed_parts, defScope s_closed_parts, []⟩
def d__law_mix : DefM := ⟨fun K => He.fAd K ("_law_mix", none), "_law_mix", "_law_mix", defArgs s__law_mix, defBody s__law_mix, defScope s__law_mix, []⟩
def d__law_cell : DefM := ⟨fun K => He.fAd K ("_law_cell", none), "_law_cell", "_law_cell", defArgs s__law_cell, defBody s__law_cell, defScope s__law_cell, []⟩
def d__law_row : DefM := ⟨fun K => He.fAd K ("_law_row", none), "_law_row", "_law_row", defArgs s__law_row, defBody s__law_row, defScope s__law_row, []⟩
def d__law_names : DefM := ⟨fun K => He.fAd K ("_law_names", none), "_law_names", "_law_names", defArgs s__law_names, defBody s__law_names, defScope s__law_names, []⟩
def d__law_machine : DefM := ⟨fun K => He.fAd K ("_law_machine", none), "_law_machine", "_law_machine", defArgs s__law_machine, defBody s__law_machine, defScope s__law_machine, []⟩
def d__law_faults : DefM := ⟨fun K => He.fAd K ("_law_faults", none), "_law_faults", "_law_faults", defArgs s__law_faults, defBody s__law_faults, defScope s__law_faults, []⟩
def d__law_sights : DefM := ⟨fun K => He.fAd K ("_law_sights", none), "_law_sights", "_law_sights", defArgs s__law_sights, defBody s__law_sights, defScope s__law_sights, []⟩
def d__law_is_integer : DefM := ⟨fun K => He.fAd K ("_law_is_integer", none), "_law_is_integer", "_law_is_integer", defArgs s__law_is_integer, defBody s__law_is_integer, defScope s__law_is_integer, []⟩
def d__law_seen : DefM := ⟨fun K => He.fAd K ("_law_seen", none), "_law_seen", "_law_seen", defArgs s__law_seen, defBody s__law_seen, defScope s__law_seen, []⟩
def d__law_walk : DefM := ⟨fun K => He.fAd K ("_law_walk", none), "_law_walk", "_law_walk", defArgs s__law_walk, defBody s__law_walk, defScope s__law_walk, []⟩
def d__law_flag : DefM := ⟨fun K => He.fAd K ("_law_flag", none), "_law_flag", "_law_flag", defArgs s__law_flag, defBody s__law_flag, defScope s__law_flag, []⟩
def d__law_is_name : DefM := ⟨fun K => He.fAd K ("_law_is_name", none), "_law_is_name", "_law_is_name", defArgs s__law_is_name, defBody s__law_is_name, defScope s__law_is_name, []⟩
def d__law_reached : DefM := ⟨fun K => He.fAd K ("_law_reached", none), "_law_reached", "_law_reached", defArgs s__law_reached, defBody s__law_reached, defScope s__law_reached, []⟩
def d__law_system : DefM := ⟨fun K => He.fAd K ("_law_system", none), "_law_system", "_law_system", defArgs s__law_system, defBody s__law_system, defScope s__law_system, []⟩
def d__law_bad_words : DefM := ⟨fun K => He.fAd K ("_law_bad_words", none), "_law_bad_words", "_law_bad_words", defArgs s__law_bad_words, defBody s__law_bad_words, defScope s__law_bad_words, []⟩
def d__law_pair_behind : DefM := ⟨fun K => He.fAd K ("_law_pair_behind", none), "_law_pair_behind", "_law_pair_behind", defArgs s__law_pair_behind, defBody s__law_pair_behind, defScope s__law_pair_behind, []⟩
def d__law_estimate : DefM := ⟨fun K => He.fAd K ("_law_estimate", none), "_law_estimate", "_law_estimate", defArgs s__law_estimate, defBody s__law_estimate, defScope s__law_estimate, []⟩
def d__law_later : DefM := ⟨fun K => He.fAd K ("_law_later", none), "_law_later", "_law_later", defArgs s__law_later, defBody s__law_later, defScope s__law_later, []⟩
def d__law_all_estimates : DefM := ⟨fun K => He.fAd K ("_law_all_estimates", none), "_law_all_estimates", "_law_all_estimates", defArgs s__law_all_estimates, defBody s__law_all_estimates, defScope s__law_all_estimates, []⟩
def d__law_split : DefM := ⟨fun K => He.fAd K ("_law_split", none), "_law_split", "_law_split", defArgs s__law_split, defBody s__law_split, defScope s__law_split, []⟩
def d__law_veil_item : DefM := ⟨fun K => He.fAd K ("_law_veil_item", none), "_law_veil_item", "_law_veil_item", defArgs s__law_veil_item, defBody s__law_veil_item, defScope s__law_veil_item, []⟩
def d__law_is_veil : DefM := ⟨fun K => He.fAd K ("_law_is_veil", none), "_law_is_veil", "_law_is_veil", defArgs s__law_is_veil, defBody s__law_is_veil, defScope s__law_is_veil, []⟩
def d__law_tells : DefM := ⟨fun K => He.fAd K ("_law_tells", none), "_law_tells", "_law_tells", defArgs s__law_tells, defBody s__law_tells, defScope s__law_tells, []⟩
def d__law_veiled : DefM := ⟨fun K => He.fAd K ("_law_veiled", none), "_law_veiled", "_law_veiled", defArgs s__law_veiled, defBody s__law_veiled, defScope s__law_veiled, []⟩
def d_law : DefM := ⟨fun K => He.fAd K ("law", none), "law", "law", defArgs s_law, defBody s_law, defScope s_law, []⟩
def fn : List DefM := ([d_is_integer, d_is_count, d_is_state, d_is_name, d_is_row, d_is_ascending, d_Machine_init, d_Machine_start, d_Machine_steps, d_Machine_fault_names, d_Machine_faults, d_Machine_states, d_checked_steps, d_is_step, d_checked_faults, d_leaving_table, d_reached_states, d_steps_from, d_is_fault_step, d_check_fault] : List DefM) ++ ([d_Watch_init, d_Watch_sights, d_Watch_ior, d_Watch_isub, d_is_sight_table, d_sight_table, d_joined_table, d_shared_table, d_table_without, d_check_watch, d_sight_of, d_after, d_first_estimate, d_later_estimate, d_pair_behind, d_closed_pairs, d_known, d_all_estimates, d_is_sure, d_telling] : List DefM) ++ ([d_veil, d_split_pairs, d_is_veil, d_is_veil_item, d_later_parts, d_closed_parts, d__law_mix, d__law_cell, d__law_row, d__law_names, d__law_machine, d__law_faults, d__law_sights, d__law_is_integer, d__law_seen, d__law_walk, d__law_flag, d__law_is_name, d__law_reached, d__law_system] : List DefM) ++ ([d__law_bad_words, d__law_pair_behind, d__law_estimate, d__law_later, d__law_all_estimates, d__law_split, d__law_veil_item, d__law_is_veil, d__law_tells, d__law_veiled, d_law] : List DefM)
def fa : List He.Fa := ([.glo "is_integer", .glo "is_count", .glo "is_state", .glo "is_name", .glo "is_row", .glo "is_ascending", .glo "Machine", .cls "Machine", .mkr "Machine", .noat "Machine" "first_state", .noat "Machine" "step_rows", .noat "Machine" "word_list", .noat "Machine" "fault_table", .noat "Machine" "leaving", .noat "Machine" "met_states", .glo "checked_steps", .glo "is_step", .glo "checked_faults", .glo "leaving_table", .glo "reached_states"] : List He.Fa) ++ ([.glo "steps_from", .glo "is_fault_step", .glo "check_fault", .glo "Watch", .cls "Watch", .mkr "Watch", .noat "Watch" "table", .glo "is_sight_table", .glo "sight_table", .glo "joined_table", .glo "shared_table", .glo "table_without", .glo "check_watch", .glo "sight_of", .glo "after", .glo "first_estimate", .glo "later_estimate", .glo "pair_behind", .glo "closed_pairs", .glo "known"] : List He.Fa) ++ ([.glo "all_estimates", .glo "is_sure", .glo "telling", .glo "veil", .glo "split_pairs", .glo "is_veil", .glo "is_veil_item", .glo "later_parts", .glo "closed_parts", .glo "_law_mix", .glo "_law_cell", .glo "_law_row", .glo "_law_names", .glo "_law_machine", .glo "_law_faults", .glo "_law_sights", .glo "_law_is_integer", .glo "_law_seen", .glo "_law_walk", .glo "_law_flag"] : List He.Fa) ++ ([.glo "_law_is_name", .glo "_law_reached", .glo "_law_system", .glo "_law_bad_words", .glo "_law_pair_behind", .glo "_law_estimate", .glo "_law_later", .glo "_law_all_estimates", .glo "_law_split", .glo "_law_veil_item", .glo "_law_is_veil", .glo "_law_tells", .glo "_law_veiled", .glo "law", .free "len", .free "isinstance", .free "sorted", .free "list", .free "dict", .free "set"] : List He.Fa) ++ ([.free "tuple", .free "range", .free "enumerate", .free "int", .free "str", .free "bool", .int "MOST_STATE" 99, .int "MOST_LETTERS" 12, .int "MOST_STEPS" 80, .int "MOST_FROM" 8, .int "MOST_WORDS" 14, .int "MOST_FAULTS" 3, .int "MOST_ESTIMATES" 2000, .str "LETTERS" "abcdefghijklmnopqrstuvwxyz"] : List He.Fa)
def names : List Str := (["KnowError", "BadState", "BadSteps", "BadFaults", "NotLive", "BadWord", "BadWatch", "BadSights", "NoFault", "TooMany", "is_integer", "is_count", "is_state", "is_name", "is_row", "is_ascending", "Machine", "checked_steps", "is_step", "checked_faults", "leaving_table", "reached_states", "steps_from", "is_fault_step", "check_fault", "Watch", "is_sight_table", "sight_table", "joined_table", "shared_table"] : List Str) ++ (["table_without", "check_watch", "sight_of", "after", "first_estimate", "later_estimate", "pair_behind", "closed_pairs", "known", "all_estimates", "is_sure", "telling", "veil", "split_pairs", "is_veil", "is_veil_item", "later_parts", "closed_parts", "_law_mix", "_law_cell", "_law_row", "_law_names", "_law_machine", "_law_faults", "_law_sights", "_law_is_integer", "_law_seen", "_law_walk", "_law_flag", "_law_is_name"] : List Str) ++ (["_law_reached", "_law_system", "_law_bad_words", "_law_pair_behind", "_law_estimate", "_law_later", "_law_all_estimates", "_law_split", "_law_veil_item", "_law_is_veil", "_law_tells", "_law_veiled", "law"] : List Str)
/-! ### the part of the heap that is looked at -/
def keyStr : Value → Option Str
  | .str x _ => some x
  | _ => none
def refsM (g : Addr → Option Obj) (a : Addr) : List Addr := match g a with
  | some ⟨_, _, .func fd, _⟩ => He.refV fd.code ++ He.refV fd.defaults
  | some ⟨_, _, .cls cd, _⟩ => [cd.ns]
  | some ⟨_, _, .dict es _, _⟩ => es.toList.flatMap fun e => He.refV e.val
  | some ⟨.type "property", _, .fields vs, _⟩ => vs.toList.flatMap He.refV
  | _ => []
def startM (g : Addr → Option Obj) : List Addr := match g mainGlobals with
  | some ⟨_, _, .dict es _, _⟩ => es.toList.flatMap fun e => match keyStr e.key with
    | some x => if names.contains x then He.refV e.val else []
    | none => []
  | _ => []
def lvM (g : Addr → Option Obj) : Nat → List Addr → List Addr
  | 0, as => as
  | n + 1, as => as ++ lvM g n (as.flatMap (refsM g))
def asM (g : Addr → Option Obj) : List Addr := mainGlobals :: lvM g 4 (startM g)
def chk (K : PySem.W.Frag) : Bool := (fa.all fun f => f.ok K) && ((fn.all fun d => d.ok K) && (propB K "Machine" "start" && propB K "Machine" "steps" && propB K "Machine" "fault_names" && propB K "Machine" "faults" && propB K "Machine" "states" && propB K "Watch" "sights" && watchB K))
abbrev AlM : Type := Bool × List FnM
def obsK (K : PySem.W.Frag) : AlM := (chk K, fn.map fun d => fnM K (d.path K))
def valK : AlM := (true, fn.map DefM.val)
def Says (K : PySem.W.Frag) : Prop := obsK K = valK
def obsM (g : Addr → Option Obj) : AlM := obsK (He.frG g (asM g))
def hk : PySem.W.Hook where
  α := AlM
  obs := fun s => obsM s.heap.get?
  val := fun _ => valK
  says := fun _ h => ∃ K : PySem.W.Frag, K.In h ∧ Says K
  of := fun _ _ e => ⟨_, He.frG_in, e⟩
  keeps := fun _ _ _ ⟨K, hK, c⟩ k => ⟨K, PySem.W.Frag.In.keeps hK k, c⟩
def ob (s : PySem.W.SharedT) : AlM := obsM (HandSHeadRun.getT s)
theorem ob_eq (s : PySem.W.SharedT) : ob s = hk.obs s.abs := by
  have e : HandSHeadRun.getT s = s.abs.heap.get? := funext (HandSHeadRun.getT_eq s)
  show obsM (HandSHeadRun.getT s) = obsM s.abs.heap.get?
  rw [e]
abbrev R : PySem.W.OpenRow := PySem.W.OpenLaw.row PySem.Challenge.rw_knownlate_k25_whole_told_or_veiled
def loose : List Str := (["_wall", "KnowError", "BadState", "BadSteps", "BadFaults", "NotLive", "BadWord", "BadWatch", "BadSights", "NoFault", "TooMany", "LETTERS", "MOST_STATE", "MOST_LETTERS", "is_integer", "is_count", "is_state", "is_name", "is_row", "is_ascending", "MOST_STEPS", "MOST_FROM", "MOST_WORDS", "MOST_FAULTS", "Machine", "checked_steps", "is_step", "checked_faults", "leaving_table", "reached_states"] : List Str) ++ (["steps_from", "is_fault_step", "check_fault", "Watch", "is_sight_table", "sight_table", "joined_table", "shared_table", "table_without", "check_watch", "sight_of", "MOST_ESTIMATES", "after", "first_estimate", "later_estimate", "pair_behind", "closed_pairs", "known", "all_estimates", "is_sure", "telling", "veil", "split_pairs", "is_veil", "is_veil_item", "later_parts", "closed_parts", "_law_mix", "_law_cell", "_law_row"] : List Str) ++ (["_law_names", "_law_machine", "_law_faults", "_law_sights", "_law_is_integer", "_law_seen", "_law_walk", "_law_flag", "_law_is_name", "_law_reached", "_law_system", "_law_bad_words", "_law_pair_behind", "_law_estimate", "_law_later", "_law_all_estimates", "_law_split", "_law_veil_item", "_law_is_veil", "_law_tells", "_law_veiled"] : List Str)
abbrev vw : Program := PySem.W.view R.prog [87]
end K25
namespace K25
open PySem PySem.W PySem.Calls PyProof.Rows HandSHeadRun
set_option maxHeartbeats 0
theorem run1 (w : World) (os : OsState) : (endF (stepQ (denQ tabQ) R.prog w) 30000 R.prog w os).map (fun s => looksF R.prog (boot_heap w.params) s.abs) = some true := by
  kernel_rfl
theorem run2 (w : World) (os : OsState) : (endF (stepQ (denQ tabQ) R.prog w) 30000 R.prog w os).map (fun s => seenQ vw loose (importedModules R.prog.main.body) (fun s => xlAt vw [] s && recOk R.toRowW.records s) s.abs) = some (openGood vw loose) := by
  kernel_rfl
theorem run3 (w : World) (os : OsState) : (endF (stepQ (denQ tabQ) R.prog w) 30000 R.prog w os).map ob = some valK := by
  kernel_rfl
theorem map3 {α β γ δ : Type} {o : Option α} {f : α → β} {g : α → γ} {h : α → δ} {b : β} {c : γ} {d : δ} (h1 : o.map f = some b) (h2 : o.map g = some c) (h3 : o.map h = some d) : o.map (fun s => (f s, g s, h s)) = some (b, c, d) := by
  cases o with
  | none => cases h1
  | some x =>
    have e1 : f x = b := Option.some.inj h1
    have e2 : g x = c := Option.some.inj h2
    have e3 : h x = d := Option.some.inj h3
    show some (f x, g x, h x) = some (b, c, d)
    rw [e1, e2, e3]
theorem run (w : World) : RunEq R vw hk ob 30000 loose w := fun os => map3 (run1 w os) (run2 w os) (run3 w os)
end K25
namespace K25
open PySem PySem.Spec PyProof.Rows L2
/-! ### heaps that grow -/
def Ex (H H' : Hp) : Prop := ∀ a o, H a = some o → H' a = some o
theorem Ex.refl (H : Hp) : Ex H H := fun _ _ h => h
theorem Ex.trans {H H1 H2 : Hp} (a : Ex H H1) (b : Ex H1 H2) : Ex H H2 := fun x o h => b x o (a x o h)
theorem Ex.new {H : Hp} {p : Addr} {o : HO} (h : H p = none) : Ex H (upd H p o) := fun a u e => by
  rw [upd_ne (ne_of_none e h)]
  exact e
theorem Ex.to {H H' : Hp} {p : Addr} {o : HO} (e : Ex H H') (h : H' p = none) : Ex H (upd H' p o) := e.trans (Ex.new h)
/-- an object that H does not know may change -/
theorem Ex.mut {H H' : Hp} {p : Addr} {o : HO} (e : Ex H H') (h : H p = none) : Ex H (upd H' p o) := fun a u ha => by
  rw [upd_ne (ne_of_none ha h)]
  exact e a u ha
theorem Ex.free {H H' : Hp} {p : Addr} (e : Ex H H') (h : H' p = none) : H p = none := by
  cases h1 : H p with
  | none => rfl
  | some o =>
    rw [e p o h1] at h
    cases h
/-- an object locked and set free again -/
theorem Ex.back {H H' : Hp} {p : Addr} {o u : HO} (h : H p = some o) (e : Ex (upd H p u) H') : Ex H (upd H' p o) := fun a q ha => by
  by_cases c : a = p
  · subst c
    rw [h] at ha
    cases ha
    exact upd_same
  · rw [upd_ne c]
    exact e a q (by rw [upd_ne c]; exact ha)
theorem Ex.rd {H H' : Hp} {a : Addr} {u : HO} (e : Ex H H') (h : Rd H a u) : Rd H' a u := h.imp (fun q => e a _ q) fun ⟨o, q⟩ => ⟨o, e a _ q⟩
theorem Ex.sqL {K : PySem.W.Frag} {H H' : Hp} {a : Addr} {xs : List V} (e : Ex H H') (h : SqL K H a xs) : SqL K H' a xs := h.imp (fun q => e.rd q) fun q => q
theorem Ex.sqT {K : PySem.W.Frag} {H H' : Hp} {a : Addr} {xs : List V} (e : Ex H H') (h : SqT K H a xs) : SqT K H' a xs := h.imp (fun q => e.rd q) fun q => q

/-! ### values that are keys: ints, texts, tuples of keys -/
mutual
inductive Nk (K : PySem.W.Frag) (H : Hp) : V → NestedKey → Prop
  | num (i : Int) : Nk K H (.int i) (.num i)
  | text (x : Str) : Nk K H (.str x) (.text x)
  | tup {a : Addr} {vs : List V} {ks : List NestedKey} : SqT K H a vs → NkA K H vs ks → Nk K H (.ref a) (.tup ks)
inductive NkA (K : PySem.W.Frag) (H : Hp) : List V → List NestedKey → Prop
  | nil : NkA K H [] []
  | cons {v : V} {vs : List V} {k : NestedKey} {ks : List NestedKey} : Nk K H v k → NkA K H vs ks → NkA K H (v :: vs) (k :: ks)
end
section
variable {K : PySem.W.Frag} {H H' : Hp}
mutual
theorem Nk.mono (e : Ex H H') : ∀ (k : NestedKey) (v : V), Nk K H v k → Nk K H' v k
  | .none, _, h => by cases h
  | .num i, _, h => by cases h; exact .num i
  | .text x, _, h => by cases h; exact .text x
  | .tup ks, _, h => by
    cases h with
    | tup h1 h2 => exact .tup (e.sqT h1) (NkA.mono e ks _ h2)
theorem NkA.mono (e : Ex H H') : ∀ (ks : List NestedKey) (vs : List V), NkA K H vs ks → NkA K H' vs ks
  | [], _, h => by cases h; exact .nil
  | k :: ks, _, h => by
    cases h with
    | cons h1 h2 => exact .cons (Nk.mono e k _ h1) (NkA.mono e ks _ h2)
end
mutual
theorem Nk.dp : ∀ (k : NestedKey) (v : V), Nk K H v k → Dp K H v k.data
  | .none, _, h => by cases h
  | .num i, _, h => by cases h; exact .int i
  | .text x, _, h => by cases h; exact .str x
  | .tup ks, _, h => by
    cases h with
    | tup h1 h2 => exact .tup h1 (NkA.dp ks _ h2)
theorem NkA.dp : ∀ (ks : List NestedKey) (vs : List V), NkA K H vs ks → DpAll K H vs (NestedKey.datas ks)
  | [], _, h => by cases h; exact .nil
  | k :: ks, _, h => by
    cases h with
    | cons h1 h2 => exact .cons (Nk.dp k _ h1) (NkA.dp ks _ h2)
end
theorem NkA.length : ∀ {ks : List NestedKey} {vs : List V}, NkA K H vs ks → vs.length = ks.length
  | [], _, h => by cases h; rfl
  | k :: ks, _, h => by
    cases h with
    | cons h1 h2 => simp [NkA.length h2]
theorem NkA.get : ∀ {ks : List NestedKey} {vs : List V} {i : Nat} {v : V}, NkA K H vs ks → vs[i]? = some v → ∃ k, ks[i]? = some k ∧ Nk K H v k
  | [], _, _, _, h, e => by cases h; simp at e
  | k :: ks, _, i, v, h, e => by
    cases h with
    | cons h1 h2 =>
      cases i with
      | zero =>
        simp only [List.getElem?_cons_zero, Option.some.injEq] at e ⊢
        subst e
        exact ⟨k, rfl, h1⟩
      | succ j =>
        simp only [List.getElem?_cons_succ] at e ⊢
        exact NkA.get h2 e
theorem NkA.get' : ∀ {ks : List NestedKey} {vs : List V} {i : Nat} {k : NestedKey}, NkA K H vs ks → ks[i]? = some k → ∃ v, vs[i]? = some v ∧ Nk K H v k
  | [], _, _, _, h, e => by simp at e
  | k0 :: ks, _, i, k, h, e => by
    cases h with
    | cons h1 h2 =>
      cases i with
      | zero =>
        simp only [List.getElem?_cons_zero, Option.some.injEq] at e ⊢
        subst e
        exact ⟨_, rfl, h1⟩
      | succ j =>
        simp only [List.getElem?_cons_succ] at e ⊢
        exact NkA.get' h2 e
theorem NkA.append : ∀ {ks js : List NestedKey} {vs us : List V}, NkA K H vs ks → NkA K H us js → NkA K H (vs ++ us) (ks ++ js)
  | [], _, _, _, h, g => by cases h; exact g
  | k :: ks, _, _, _, h, g => by
    cases h with
    | cons h1 h2 => exact .cons h1 (NkA.append h2 g)
theorem NkA.ints : ∀ ns : List Int, NkA K H (ns.map V.int) (ns.map NestedKey.num)
  | [] => .nil
  | n :: ns => .cons (.num n) (NkA.ints ns)
theorem NkA.strs : ∀ ns : List Str, NkA K H (ns.map V.str) (ns.map NestedKey.text)
  | [] => .nil
  | n :: ns => .cons (.text n) (NkA.strs ns)
theorem NkA.toInts : ∀ {ns : List Int} {vs : List V}, NkA K H vs (ns.map NestedKey.num) → vs = ns.map V.int
  | [], _, h => by cases h; rfl
  | n :: ns, _, h => by
    cases h with
    | cons h1 h2 =>
      cases h1
      rw [NkA.toInts h2]
      rfl
theorem NkA.toStrs : ∀ {ns : List Str} {vs : List V}, NkA K H vs (ns.map NestedKey.text) → vs = ns.map V.str
  | [], _, h => by cases h; rfl
  | n :: ns, _, h => by
    cases h with
    | cons h1 h2 =>
      cases h1
      rw [NkA.toStrs h2]
      rfl
theorem NkA.mem' : ∀ {ks : List NestedKey} {vs : List V} {k : NestedKey}, NkA K H vs ks → k ∈ ks → ∃ v, v ∈ vs ∧ Nk K H v k
  | [], _, _, h, e => by cases e
  | k0 :: ks, _, k, h, e => by
    cases h with
    | cons h1 h2 =>
      rcases List.mem_cons.mp e with z | z
      · subst z
        exact ⟨_, List.mem_cons_self, h1⟩
      · obtain ⟨v, hv, q⟩ := NkA.mem' h2 z
        exact ⟨v, List.mem_cons_of_mem _ hv, q⟩
end
section
variable {X : Cx} {pins : List (Addr × Obj)} {σ : L2.St} {H : Hp} {s : Shared}
mutual
theorem Nk.nested (I : Inv X pins σ H s) : ∀ (k : NestedKey) (v : V) (u : Value), Nk X.K H v k → RelV v u → NestedIs s.heap k u
  | .none, _, _, h, _ => by cases h
  | .num i, _, _, h, r => by
    cases h
    obtain ⟨t, rfl⟩ := r
    exact .int i t
  | .text x, _, _, h, r => by
    cases h
    obtain ⟨t, rfl⟩ := r
    exact .text x t
  | .tup ks, _, _, h, r => by
    cases h with
    | tup h1 h2 =>
      cases r
      obtain ⟨its, rv, ⟨o, ho, hc, n, hd⟩, _⟩ := I.tuple h1
      exact .tup ho hc hd (by simpa using NkA.nested I ks _ its h2 rv)
theorem NkA.nested (I : Inv X pins σ H s) : ∀ (ks : List NestedKey) (vs : List V) (us : List Value), NkA X.K H vs ks → Vals vs us → NestedAll s.heap ks us
  | [], _, _, h, r => by
    cases h
    cases r
    exact .nil
  | k :: ks, _, _, h, r => by
    cases h with
    | cons h1 h2 =>
      cases r with
      | cons r1 r2 => exact .cons (Nk.nested I k _ _ h1 r1) (NkA.nested I ks _ _ h2 r2)
end
theorem Nk.isKey (I : Inv X pins σ H s) {k : NestedKey} {b : Addr} (h : Nk X.K H (.ref b) k) (hd : k.depth ≤ 8) : (nestedKind X.prog X.w).is s.heap k b := ⟨Nk.nested I k _ _ h rfl, hd⟩
end

/-! ### data of keys: one datum, one key -/
mutual
theorem data_eqv : ∀ a b : NestedKey, PyData.eqv a.data b.data = NestedKey.beq a b
  | .none, b => by cases b <;> simp [NestedKey.data, PyData.eqv, NestedKey.beq]
  | .num i, b => by
    cases b <;> simp [NestedKey.data, PyData.eqv, NestedKey.beq]
    rfl
  | .text x, b => by
    cases b <;> simp [NestedKey.data, PyData.eqv, NestedKey.beq]
    rfl
  | .tup xs, b => by
    cases b with
    | tup ys =>
      simp only [NestedKey.data, PyData.eqv, NestedKey.beq]
      exact datas_eqv xs ys
    | _ => simp [NestedKey.data, PyData.eqv, NestedKey.beq]
theorem datas_eqv : ∀ a b : List NestedKey, PyData.eqvAll (NestedKey.datas a) (NestedKey.datas b) = NestedKey.beqAll a b
  | [], [] => by simp [NestedKey.datas, PyData.eqvAll, NestedKey.beqAll]
  | [], _ :: _ => by simp [NestedKey.datas, PyData.eqvAll, NestedKey.beqAll]
  | _ :: _, [] => by simp [NestedKey.datas, PyData.eqvAll, NestedKey.beqAll]
  | a :: as, b :: bs => by
    simp only [NestedKey.datas, PyData.eqvAll, NestedKey.beqAll]
    rw [data_eqv a b, datas_eqv as bs]
end
theorem data_dec (a b : NestedKey) : PyData.eqv a.data b.data = decide (a = b) := (data_eqv a b).trans (NestedKey.decide_eq a b).symm
mutual
theorem data_plain : ∀ a : NestedKey, a.data.plain = true
  | .none => by simp [NestedKey.data, PyData.plain]
  | .num i => by simp [NestedKey.data, PyData.plain]
  | .text x => by simp [NestedKey.data, PyData.plain]
  | .tup xs => by
    simp only [NestedKey.data, PyData.plain]
    exact datas_plain xs
theorem datas_plain : ∀ a : List NestedKey, PyData.plainAll (NestedKey.datas a) = true
  | [] => by simp [NestedKey.datas, PyData.plainAll]
  | a :: as => by
    simp only [NestedKey.datas, PyData.plainAll]
    rw [data_plain a, datas_plain as]
    rfl
end
mutual
theorem data_depth : ∀ a : NestedKey, a.data.depth = a.depth
  | .none => by simp [NestedKey.data, PyData.depth, NestedKey.depth]
  | .num i => by simp [NestedKey.data, PyData.depth, NestedKey.depth]
  | .text x => by simp [NestedKey.data, PyData.depth, NestedKey.depth]
  | .tup xs => by
    simp only [NestedKey.data, PyData.depth, NestedKey.depth]
    rw [datas_depth xs]
theorem datas_depth : ∀ a : List NestedKey, PyData.depthAll (NestedKey.datas a) = NestedKey.depthAll a
  | [] => by simp [NestedKey.datas, PyData.depthAll, NestedKey.depthAll]
  | a :: as => by
    simp only [NestedKey.datas, PyData.depthAll, NestedKey.depthAll]
    rw [data_depth a, datas_depth as]
end
theorem datas_map : ∀ a : List NestedKey, NestedKey.datas a = a.map NestedKey.data
  | [] => rfl
  | a :: as => by rw [NestedKey.datas, datas_map as, List.map_cons]
theorem depthAll_le {n : Nat} : ∀ {ks : List NestedKey}, (∀ k ∈ ks, k.depth ≤ n) → NestedKey.depthAll ks ≤ n
  | [], _ => by simp [NestedKey.depthAll]
  | k :: ks, h => by
    simp only [NestedKey.depthAll]
    have h1 := h k List.mem_cons_self
    have h2 := depthAll_le fun j hj => h j (List.mem_cons_of_mem _ hj)
    omega
theorem any_data (ks : List NestedKey) (k : NestedKey) : ((ks.map NestedKey.data).any fun z => PyData.eqv z k.data) = decide (k ∈ ks) := by
  induction ks with
  | nil => rfl
  | cons a as ih =>
    rw [List.map_cons, List.any_cons, ih, data_dec]
    by_cases e : a = k
    · subst e
      simp
    · have e' : ¬ k = a := fun z => e z.symm
      simp [e, e']
/-- the datum of a list of keys -/
def lD (ks : List NestedKey) : PyData := .list (ks.map NestedKey.data)
theorem lD_plain (ks : List NestedKey) : (lD ks).plain = true := by
  unfold lD
  rw [← datas_map]
  simp only [PyData.plain]
  exact datas_plain ks
theorem lDs_plain : ∀ kss : List (List NestedKey), PyData.plainAll (kss.map lD) = true
  | [] => by simp [PyData.plainAll]
  | ks :: kss => by
    rw [List.map_cons]
    simp only [PyData.plainAll]
    rw [lD_plain ks, lDs_plain kss]
    rfl
theorem keys_plain (ks : List NestedKey) : PyData.plainAll (ks.map NestedKey.data) = true := by
  rw [← datas_map]
  exact datas_plain ks
theorem eqvAll_dec : ∀ a b : List NestedKey, PyData.eqvAll (a.map NestedKey.data) (b.map NestedKey.data) = decide (a = b)
  | [], [] => by simp [PyData.eqvAll]
  | [], _ :: _ => by simp [PyData.eqvAll]
  | _ :: _, [] => by simp [PyData.eqvAll]
  | a :: as, b :: bs => by
    rw [List.map_cons, List.map_cons, PyData.eqvAll, data_dec, eqvAll_dec as bs]
    by_cases h1 : a = b <;> by_cases h2 : as = bs <;> simp [h1, h2]
theorem lD_dec (a b : List NestedKey) : PyData.eqv (lD a) (lD b) = decide (a = b) := by
  unfold lD
  rw [PyData.eqv, eqvAll_dec]
theorem any_lD (kss : List (List NestedKey)) (ks : List NestedKey) : ((kss.map lD).any fun z => PyData.eqv z (lD ks)) = decide (ks ∈ kss) := by
  induction kss with
  | nil => rfl
  | cons a as ih =>
    rw [List.map_cons, List.any_cons, ih, lD_dec]
    by_cases e : a = ks
    · subst e
      simp
    · have e' : ¬ ks = a := fun z => e z.symm
      simp [e, e']

/-! ### a == b, a != b, a in l, a not in l of such data -/
section
variable {X : Cx}
def rEqP (K : PySem.W.Frag) (neg : Bool) : R2 := fun x y H Q => ∃ d e, Dp K H x d ∧ Dp K H y e ∧ d.plain = true ∧ e.plain = true ∧ d.depth ≤ 20 ∧ Q (.bl (if neg then !PyData.eqv d e else PyData.eqv d e)) H
theorem op_eqP {k : Nat} (hr : Room k X.A) : OpR X (compareOp .Eq) (rEqP X.K false) := by
  intro pins s σ H x y v u Q I rx ry h
  obtain ⟨d, e, hd, he, pd, pe, dd, q⟩ := h
  obtain ⟨as, r1⟩ := Dp.reads I d x v hd rx
  obtain ⟨bs, r2⟩ := Dp.reads I e y u he ry
  have hu := hr.un
  exact PySem.SeqAt.eq_plain r1 r2 pd pe (by omega) ⟨.bl _, H, I, rfl, q⟩
theorem op_neP {k : Nat} (hr : Room k X.A) : OpR X (compareOp .NotEq) (rEqP X.K true) := by
  intro pins s σ H x y v u Q I rx ry h
  obtain ⟨d, e, hd, he, pd, pe, dd, q⟩ := h
  obtain ⟨as, r1⟩ := Dp.reads I d x v hd rx
  obtain ⟨bs, r2⟩ := Dp.reads I e y u he ry
  have hu := hr.un
  exact PySem.SeqAt.ne_plain r1 r2 pd pe (by omega) ⟨.bl _, H, I, rfl, q⟩
def rInP (K : PySem.W.Frag) (neg : Bool) : R2 := fun x y H Q => ∃ d ds, Dp K H x d ∧ (Dp K H y (.list ds) ∨ Dp K H y (.tuple ds)) ∧ d.plain = true ∧ PyData.plainAll ds = true ∧ d.depth ≤ 20 ∧
  Q (.bl (if neg then !ds.any fun z => PyData.eqv z d else ds.any fun z => PyData.eqv z d)) H
theorem op_inP {k : Nat} (hr : Room k X.A) : OpR X (compareOp .In) (rInP X.K false) := by
  intro pins s σ H x y v u Q I rx ry h
  obtain ⟨d, ds, hd, he, pd, pe, dd, q⟩ := h
  obtain ⟨as, r1⟩ := Dp.reads I d x v hd rx
  have hu := hr.un
  rcases he with he | he
  · obtain ⟨bs, r2⟩ := Dp.reads I _ y u he ry
    exact PySem.SeqAt.in_list_data r2 r1 pe pd (by omega) ⟨.bl _, H, I, rfl, q⟩
  · obtain ⟨bs, r2⟩ := Dp.reads I _ y u he ry
    exact PySem.SeqAt.in_tuple_data r2 r1 pe pd (by omega) ⟨.bl _, H, I, rfl, q⟩
theorem op_notInP {k : Nat} (hr : Room k X.A) : OpR X (compareOp .NotIn) (rInP X.K true) := by
  intro pins s σ H x y v u Q I rx ry h
  obtain ⟨d, ds, hd, he, pd, pe, dd, q⟩ := h
  obtain ⟨as, r1⟩ := Dp.reads I d x v hd rx
  have hu := hr.un
  rcases he with he | he
  · obtain ⟨bs, r2⟩ := Dp.reads I _ y u he ry
    exact PySem.SeqAt.notIn_list_data r2 r1 pe pd (by omega) ⟨.bl _, H, I, rfl, q⟩
  · obtain ⟨bs, r2⟩ := Dp.reads I _ y u he ry
    exact PySem.SeqAt.notIn_tuple_data r2 r1 pe pd (by omega) ⟨.bl _, H, I, rfl, q⟩
end
end K25
/-! dicts whose keys are nested tuples -/
namespace K25
open PySem PySem.Spec PyProof.Rows L2
/-- an entry: the key, where its tuple stands, the value -/
abbrev NE := NestedKey × Addr × V
def atN (xs : List NE) (k : NestedKey) : Option V := (xs.find? fun x => decide (x.1 = k)).map (·.2.2)
def putN (xs : List NE) (k : NestedKey) (b : Addr) (v : V) : List NE := if (atN xs k).isSome then xs.map (fun x => if x.1 = k then (x.1, x.2.1, v) else x) else xs ++ [(k, b, v)]
def RelNE (p : NE) (q : NestedKey × Addr × Value) : Prop := p.1 = q.1 ∧ p.2.1 = q.2.1 ∧ RelV p.2.2 q.2.2
abbrev KNE : List NE → List (NestedKey × Addr × Value) → Prop := Paired RelNE
def RawN (P : Program) (w : World) (h : Heap) (d : Addr) (ys : List (NestedKey × Addr × Value)) : Prop :=
  ∃ o es ep, h.get? d = some o ∧ o.ExactDict ∧ o.data = .dict es ep ∧ es.toList = ys.map (entryOfKey (nestedKind P w)) ∧ (ys.map (·.1)).Nodup
def FN (P : Program) (w : World) (d : Addr) (xs : List NE) (h : Heap) : Prop := xs.length ≤ sizeLine ∧ (d == sysModules) = false ∧ ∃ ys, KNE xs ys ∧ RawN P w h d ys
def DNO (P : Program) (w : World) (d : Addr) (xs : List NE) : HO := .ext (FN P w d xs)
theorem rawN_at {P : Program} {w : World} {h h' : Heap} {d : Addr} {ys : List (NestedKey × Addr × Value)} (x : RawN P w h d ys) (k : ∀ o, h.get? d = some o → h'.get? d = some o) : RawN P w h' d ys :=
  let ⟨o, es, ep, ho, r⟩ := x
  ⟨o, es, ep, k o ho, r⟩
theorem fn_ok {P : Program} {w : World} {H : Hp} {h : Heap} {d : Addr} {xs : List NE} (x : FN P w d xs h) : ObjOk P w H h d (DNO P w d xs) := by
  obtain ⟨hz, hs, ys, rel, raw⟩ := id x
  obtain ⟨o, es, ep, ho, r⟩ := id raw
  refine ⟨x, ⟨o, ho⟩, fun h1 h2 p k => ?_⟩
  obtain ⟨hz', hs', ys', rel', raw'⟩ := p
  exact ⟨hz', hs', ys', rel', rawN_at raw' k⟩
section
theorem KNE.length {xs : List NE} {ys : List (NestedKey × Addr × Value)} (r : KNE xs ys) : xs.length = ys.length := Paired.length r
theorem KNE.at : ∀ {xs : List NE} {ys : List (NestedKey × Addr × Value)}, KNE xs ys → ∀ k : NestedKey, (atN xs k = none ∧ atKey ys k = none) ∨ ∃ v p, atN xs k = some v ∧ atKey ys k = some p ∧ RelV v p.2
  | _, _, .nil, k => .inl ⟨rfl, rfl⟩
  | _, _, .cons (a := x) (b := y) (l₁ := l1) (l₂ := l2) r t, k => by
    obtain ⟨r1, r2, r3⟩ := r
    by_cases e : x.1 = k
    · refine .inr ⟨x.2.2, y.2, ?_, ?_, r3⟩
      · unfold atN
        rw [List.find?_cons, decide_eq_true e]
        rfl
      · unfold atKey
        rw [List.find?_cons, decide_eq_true (r1 ▸ e)]
        rfl
    · have e1 : atN (x :: l1) k = atN l1 k := by
        unfold atN
        rw [List.find?_cons, decide_eq_false e]
      have e2 : atKey (y :: l2) k = atKey l2 k := by
        unfold atKey
        rw [List.find?_cons, decide_eq_false (r1 ▸ e)]
      rw [e1, e2]
      exact KNE.at t k
theorem KNE.mapPut {k : NestedKey} {v : V} {u : Value} (rv : RelV v u) : ∀ {xs : List NE} {ys : List (NestedKey × Addr × Value)}, KNE xs ys → KNE (xs.map (fun x => if x.1 = k then (x.1, x.2.1, v) else x)) (ys.map (putAt k u))
  | _, _, .nil => .nil
  | _, _, .cons (a := x) (b := y) r t => by
    rw [List.map_cons, List.map_cons]
    refine .cons ?_ (KNE.mapPut rv t)
    obtain ⟨r1, r2, r3⟩ := r
    unfold putAt
    by_cases e : x.1 = k
    · rw [if_pos e, if_pos (r1 ▸ e)]
      exact ⟨r1, r2, rv⟩
    · rw [if_neg e, if_neg (r1 ▸ e)]
      exact ⟨r1, r2, r3⟩
theorem KNE.snoc : ∀ {xs : List NE} {ys : List (NestedKey × Addr × Value)} {p : NE} {q : NestedKey × Addr × Value}, KNE xs ys → RelNE p q → KNE (xs ++ [p]) (ys ++ [q])
  | _, _, _, _, .nil, r => .cons r .nil
  | _, _, _, _, .cons a t, r => .cons a (KNE.snoc t r)
theorem KNE.put {xs : List NE} {ys : List (NestedKey × Addr × Value)} (r : KNE xs ys) (k : NestedKey) (b : Addr) {v : V} {u : Value} (rv : RelV v u) : KNE (putN xs k b v) (storedH ys k b u) := by
  unfold putN storedH
  rcases r.at k with ⟨e1, e2⟩ | ⟨v0, p, e1, e2, _⟩
  · rw [e1, e2]
    exact KNE.snoc r ⟨rfl, rfl, rv⟩
  · rw [e1, e2]
    exact KNE.mapPut rv r
theorem KNE.mem : ∀ {xs : List NE} {ys : List (NestedKey × Addr × Value)}, KNE xs ys → ∀ y ∈ ys, ∃ x ∈ xs, RelNE x y
  | _, _, .nil, y, h => by cases h
  | _, _, .cons (a := x) (b := z) r t, y, h => by
    rcases List.mem_cons.mp h with e | h
    · subst e
      exact ⟨x, List.mem_cons_self, r⟩
    · obtain ⟨x', hx, r'⟩ := KNE.mem t y h
      exact ⟨x', List.mem_cons_of_mem _ hx, r'⟩
theorem KNE.keys : ∀ {xs : List NE} {ys : List (NestedKey × Addr × Value)}, KNE xs ys → xs.map (·.1) = ys.map (·.1)
  | _, _, .nil => rfl
  | _, _, .cons r t => by rw [List.map_cons, List.map_cons, r.1, KNE.keys t]
theorem KNE.addrs : ∀ {xs : List NE} {ys : List (NestedKey × Addr × Value)}, KNE xs ys → Vals (xs.map fun x => V.ref x.2.1) (ys.map fun x => Value.ref x.2.1)
  | _, _, .nil => .nil
  | _, _, .cons r t => by
    rw [List.map_cons, List.map_cons]
    exact .cons (by rw [r.2.1]; rfl) (KNE.addrs t)
theorem putN_length (xs : List NE) (k : NestedKey) (b : Addr) (v : V) : (putN xs k b v).length ≤ xs.length + 1 := by
  unfold putN
  split
  · rw [List.length_map]; omega
  · rw [List.length_append]; exact Nat.le_refl _
theorem atN_none {xs : List NE} {k : NestedKey} : atN xs k = none ↔ k ∉ xs.map (·.1) := by
  unfold atN
  rw [Option.map_eq_none_iff, List.find?_eq_none]
  constructor
  · intro h hm
    obtain ⟨x, hx, e⟩ := List.mem_map.mp hm
    exact h x hx (decide_eq_true e)
  · intro h x hx e
    exact h (List.mem_map.mpr ⟨x, hx, of_decide_eq_true e⟩)
theorem atN_isSome {xs : List NE} {k : NestedKey} : (atN xs k).isSome = decide (k ∈ xs.map (·.1)) := by
  by_cases h : k ∈ xs.map (·.1)
  · rw [decide_eq_true h]
    cases e : atN xs k with
    | none => exact absurd h (atN_none.mp e)
    | some v => rfl
  · rw [decide_eq_false h, atN_none.mpr h]
    rfl
theorem putN_new {xs : List NE} {k : NestedKey} {b : Addr} {v : V} (h : k ∉ xs.map (·.1)) : putN xs k b v = xs ++ [(k, b, v)] := by
  unfold putN
  rw [atN_none.mpr h]
  rfl
theorem putN_old {xs : List NE} {k : NestedKey} {b : Addr} {v : V} (h : k ∈ xs.map (·.1)) (hv : ∀ x ∈ xs, x.2.2 = v) : putN xs k b v = xs := by
  unfold putN
  rw [atN_isSome, decide_eq_true h]
  have e : xs.map (fun x => if x.1 = k then (x.1, x.2.1, v) else x) = xs.map (fun x => x) := List.map_congr_left fun x hx => by
    split
    · rw [← hv x hx]
    · rfl
  rw [if_pos rfl, e, List.map_id']
theorem atN_get {xs : List NE} (hn : (xs.map (·.1)).Nodup) {x : NE} (hx : x ∈ xs) : atN xs x.1 = some x.2.2 := by
  induction xs with
  | nil => cases hx
  | cons y ys ih =>
    rw [List.map_cons, List.nodup_cons] at hn
    unfold atN
    rw [List.find?_cons]
    rcases List.mem_cons.mp hx with e | hx
    · rw [← e, decide_eq_true rfl]
      rfl
    · have ne : ¬ y.1 = x.1 := fun e => hn.1 (e ▸ List.mem_map.mpr ⟨x, hx, rfl⟩)
      rw [decide_eq_false ne]
      exact ih hn.2 hx
end

/-- the nested dict at d, to be read; to be written -/
structure DN (X : Cx) (H : Hp) (d : Addr) (xs : List NE) : Prop where
  at_ : Rd H d (DNO X.prog X.w d xs)
  key : ∀ x ∈ xs, Nk X.K H (.ref x.2.1) x.1 ∧ x.1.depth ≤ 8
structure DW (X : Cx) (H : Hp) (d : Addr) (xs : List NE) : Prop where
  at_ : H d = some (DNO X.prog X.w d xs)
  key : ∀ x ∈ xs, Nk X.K H (.ref x.2.1) x.1 ∧ x.1.depth ≤ 8
section
variable {X : Cx} {pins : List (Addr × Obj)} {σ : L2.St} {H H' : Hp} {s : Shared} {d b : Addr} {xs : List NE} {k : NestedKey}
theorem DW.dn (h : DW X H d xs) : DN X H d xs := ⟨.inl h.at_, h.key⟩
theorem DN.mono (h : DN X H d xs) (e : Ex H H') : DN X H' d xs := ⟨e.rd h.at_, fun x hx => ⟨Nk.mono e _ _ (h.key x hx).1, (h.key x hx).2⟩⟩
theorem DW.mono (h : DW X H d xs) (e : Ex H H') : DW X H' d xs := ⟨e _ _ h.at_, fun x hx => ⟨Nk.mono e _ _ (h.key x hx).1, (h.key x hx).2⟩⟩
/-- keys are tuples: they stay when another kind of object is written -/
theorem sqT_upd {K : PySem.W.Frag} {a : Addr} {vs : List V} {o u : HO} (h : SqT K H a vs) (hd : H d = some u) (hu : (∀ ws, u ≠ .tup ws) ∧ ∀ q ws, u ≠ .frz q (.tup ws)) : SqT K (upd H d o) a vs := by
  rcases h with h | h
  · refine .inl ?_
    rcases h with h | ⟨q, h⟩
    · exact .inl (by rw [upd_ne (ne_of h hd (hu.1 vs).symm)]; exact h)
    · exact .inr ⟨q, by rw [upd_ne (ne_of h hd (hu.2 q vs).symm)]; exact h⟩
  · exact .inr h
mutual
theorem Nk.upd {K : PySem.W.Frag} {o u : HO} (hd : H d = some u) (hu : (∀ ws, u ≠ .tup ws) ∧ ∀ q ws, u ≠ .frz q (.tup ws)) : ∀ (k : NestedKey) (v : V), Nk K H v k → Nk K (L2.upd H d o) v k
  | .none, _, h => by cases h
  | .num i, _, h => by cases h; exact .num i
  | .text x, _, h => by cases h; exact .text x
  | .tup ks, _, h => by
    cases h with
    | tup h1 h2 => exact .tup (sqT_upd h1 hd hu) (NkA.upd hd hu ks _ h2)
theorem NkA.upd {K : PySem.W.Frag} {o u : HO} (hd : H d = some u) (hu : (∀ ws, u ≠ .tup ws) ∧ ∀ q ws, u ≠ .frz q (.tup ws)) : ∀ (ks : List NestedKey) (vs : List V), NkA K H vs ks → NkA K (L2.upd H d o) vs ks
  | [], _, h => by cases h; exact .nil
  | k :: ks, _, h => by
    cases h with
    | cons h1 h2 => exact .cons (Nk.upd hd hu k _ h1) (NkA.upd hd hu ks _ h2)
end
theorem frz_ne {o : Obj} {φ : Heap → Prop} : (∀ ws, HO.frz o (.ext φ) ≠ .tup ws) ∧ ∀ q ws, HO.frz o (.ext φ) ≠ .frz q (.tup ws) := ⟨fun _ z => (nomatch z), fun _ _ z => by injection z with _ z; exact nomatch z⟩
theorem ext_ne {φ : Heap → Prop} : (∀ ws, HO.ext φ ≠ .tup ws) ∧ ∀ q ws, HO.ext φ ≠ .frz q (.tup ws) := ⟨fun _ z => (nomatch z), fun _ _ z => (nomatch z)⟩
theorem lst_ne {ys : List V} : (∀ ws, HO.lst ys ≠ .tup ws) ∧ ∀ q ws, HO.lst ys ≠ .frz q (.tup ws) := ⟨fun _ z => (nomatch z), fun _ _ z => (nomatch z)⟩
theorem dnw_new (hd : H d = none) : DW X (upd H d (DNO X.prog X.w d [])) d [] := ⟨upd_same, fun _ h => nomatch h⟩
theorem DW.put (h : DW X H d xs) (hk : Nk X.K H (.ref b) k) (hdp : k.depth ≤ 8) (v : V) : DW X (upd H d (DNO X.prog X.w d (putN xs k b v))) d (putN xs k b v) := by
  refine ⟨upd_same, fun x hx => ?_⟩
  have up : ∀ {b : Addr} {k : NestedKey}, Nk X.K H (.ref b) k → Nk X.K (upd H d (DNO X.prog X.w d (putN xs k b v))) (.ref b) k := fun q => Nk.upd h.at_ ext_ne _ _ q
  unfold putN at hx
  split at hx
  · obtain ⟨y, hy, e⟩ := List.mem_map.mp hx
    have q := h.key y hy
    split at e
    · subst e
      exact ⟨Nk.upd h.at_ ext_ne _ _ q.1, q.2⟩
    · subst e
      exact ⟨Nk.upd h.at_ ext_ne _ _ q.1, q.2⟩
  · rcases List.mem_append.mp hx with hy | hy
    · have q := h.key x hy
      exact ⟨Nk.upd h.at_ ext_ne _ _ q.1, q.2⟩
    · rw [List.mem_singleton.mp hy]
      exact ⟨Nk.upd h.at_ ext_ne _ _ hk, hdp⟩
theorem DN.of (I : Inv X pins σ H s) (h : DN X H d xs) : xs.length ≤ sizeLine ∧ (d == sysModules) = false ∧ ∃ ys, KNE xs ys ∧ s.heap.DictOfH (nestedKind X.prog X.w) d ys := by
  obtain ⟨⟨hz, hs, ys, rel, o, es, ep, ho, hx, hdt, he, hn⟩, _⟩ := (show ObjOk X.prog X.w H s.heap d (DNO X.prog X.w d xs) from h.at_.ok I.hok)
  refine ⟨hz, hs, ys, rel, o, es, ep, ho, hx, hdt, he, fun y hy => ?_, hn⟩
  obtain ⟨x, hxm, r1, r2, _⟩ := rel.mem y hy
  have q := h.key x hxm
  rw [← r1, ← r2]
  exact Nk.isKey I q.1 q.2
theorem DictOfH.fn {P : Program} {w : World} {h : Heap} {ys : List (NestedKey × Addr × Value)} (x : h.DictOfH (nestedKind P w) d ys) (hz : xs.length ≤ sizeLine) (hs : (d == sysModules) = false) (rel : KNE xs ys) : FN P w d xs h :=
  let ⟨o, es, ep, ho, hx, hdt, he, _, hn⟩ := x
  ⟨hz, hs, ys, rel, o, es, ep, ho, hx, hdt, he, hn⟩
theorem keyRoom {n : Nat} (hr : Room n X.A) : (nestedKind X.prog X.w).room X.A.in1 := by
  have hu := hr.un
  show X.A.units + 1 + 8 < cLine
  omega
end
/-! ### the rules -/
section
variable {X : Cx}
def rNN (X : Cx) (neg : Bool) : R2 := fun x y H Q => ∃ d b k xs, x = .ref b ∧ y = .ref d ∧ DN X H d xs ∧ Nk X.K H (.ref b) k ∧ k.depth ≤ 8 ∧ Q (.bl (if neg then !decide (k ∈ xs.map (·.1)) else decide (k ∈ xs.map (·.1)))) H
theorem op_notInN {n : Nat} (hr : Room n X.A) : OpR X (compareOp .NotIn) (rNN X true) := by
  intro pins s σ H x y v u Q I rx ry h
  obtain ⟨d, b, k, xs, rfl, rfl, hd, hk, hdp, q⟩ := h
  cases rx
  cases ry
  obtain ⟨hz, hs, ys, rel, dd⟩ := hd.of I
  refine notIn_keyed (keyRoom hr) (Nk.isKey I hk hdp) hs ⟨ys, dd, rfl⟩ ?_
  rw [valueAt_pairsH]
  refine ⟨.bl _, H, I.tok _, rfl, ?_⟩
  rw [if_pos rfl, ← atN_isSome] at q
  rcases rel.at k with ⟨e1, e2⟩ | ⟨v0, p, e1, e2, _⟩
  · rw [e1] at q
    rw [e2]
    exact q
  · rw [e1] at q
    rw [e2]
    exact q
theorem op_inN {n : Nat} (hr : Room n X.A) : OpR X (compareOp .In) (rNN X false) := by
  intro pins s σ H x y v u Q I rx ry h
  obtain ⟨d, b, k, xs, rfl, rfl, hd, hk, hdp, q⟩ := h
  cases rx
  cases ry
  obtain ⟨hz, hs, ys, rel, dd⟩ := hd.of I
  refine in_keyed (keyRoom hr) (Nk.isKey I hk hdp) hs ⟨ys, dd, rfl⟩ ?_
  rw [valueAt_pairsH]
  refine ⟨.bl _, H, I.tok _, rfl, ?_⟩
  rw [if_neg Bool.false_ne_true, ← atN_isSome] at q
  rcases rel.at k with ⟨e1, e2⟩ | ⟨v0, p, e1, e2, _⟩
  · rw [e1] at q
    rw [e2]
    exact q
  · rw [e1] at q
    rw [e2]
    exact q
/-- d[k] -/
def tGetN (X : Cx) (td ty : TE) : TE := fun σ H Q => td σ H fun x H1 => ty σ H1 fun y H2 => ∃ d b k xs v, x = .ref d ∧ y = .ref b ∧ DN X H2 d xs ∧ Nk X.K H2 (.ref b) k ∧ k.depth ≤ 8 ∧ atN xs k = some v ∧ Q v H2
theorem pe_getN {n : Nat} {o i : Expr} {td ty : TE} {pos : Pos} (hr : Room n X.A) (ho : PE X o td) (hi : PE X i ty) (hsl : NoSl i) : PE X (.Subscript o i pos) (tGetN X td ty) := by
  refine ⟨fun pins s σ H Q I h => ?_⟩
  refine subD_of PySem.F.slot_dict_getitem.lookup hsl (thn (ho.run pins s σ H _ I h) fun u s1 ⟨x, H1, I1, rx, q1⟩ => thn (hi.run pins s1 σ H1 _ I1 q1) fun iv s2 ⟨y, H2, I2, ry, d, b, k, xs, z, e1, e2, hd, hk, hdp, ea, q⟩ => ?_)
  subst e1
  subst e2
  cases rx
  cases ry
  obtain ⟨hz, hs, ys, rel, dd⟩ := hd.of I2
  rcases rel.at k with ⟨e1, e2⟩ | ⟨v0, p, e1, e2, r⟩
  · rw [e1] at ea
    cases ea
  · rw [e1] at ea
    cases ea
    refine ⟨dd.typeIs, getItem_keyed (keyRoom hr) (Nk.isKey I2 hk hdp) ⟨ys, dd, rfl⟩ (by rw [valueAt_pairsH, e2]; rfl) ?_⟩
    exact ⟨z, H2, I2.tok _, r, q⟩
/-- d[k] = v -/
def rSetN (X : Cx) : TSet := fun o i v H Q => ∃ d b k xs, o = .ref d ∧ i = .ref b ∧ DW X H d xs ∧ Nk X.K H (.ref b) k ∧ k.depth ≤ 8 ∧ xs.length < sizeLine ∧ Q (upd H d (DNO X.prog X.w d (putN xs k b v)))
theorem set_N {n : Nat} (hr : Room n X.A) : PSet X (rSetN X) := by
  intro pins s σ H o i v ov iv u Q I r1 r2 r3 h
  obtain ⟨d, b, k, xs, rfl, rfl, hd, hk, hdp, hl, q⟩ := h
  cases r1
  cases r2
  obtain ⟨hz, hs, ys, rel, dd⟩ := hd.dn.of I
  have l := rel.length
  refine wpAny_setItem_heap (hsz := by omega) (keyRoom hr) (Nk.isKey I hk hdp) dd fun h' dd' sb => ?_
  have l2 := putN_length xs k b v
  have he : ∃ q, h'.get? d = some q := let ⟨q, _, _, hq, _⟩ := dd'; ⟨q, hq⟩
  exact ⟨_, d_write I (by rw [hd.at_]; exact True.intro) sb he (fn_ok (DictOfH.fn dd' (by omega) hs (rel.put k b r3))), q⟩
/-- {} to be such a dict -/
def tNewN (X : Cx) : TE := fun _ H Q => ∀ d, H d = none → Q (.ref d) (upd H d (DNO X.prog X.w d []))
theorem fn_empty {P : Program} {w : World} {h : Heap} (hb : sysModules < h.objs.size) : FN P w h.objs.size [] (h.push { cls := .type "dict", data := .dict #[] }) :=
  ⟨Nat.zero_le _, beq_eq_false_iff_ne.mpr (Ne.symm (Nat.ne_of_lt hb)), [], .nil, _, #[], 0, Heap.get?_push_size _ rfl, ⟨rfl, rfl, rfl⟩, rfl, rfl, List.nodup_nil⟩
theorem pe_newN {pos : Pos} : PE X (.Dict [] [] pos) (tNewN X) := ⟨fun pins s σ H Q I h =>
  wpAny_Dict_empty ⟨.ref s.heap.objs.size, _, I.laid (a := s.heap.objs.size) (t' := s.toks) (fun _ _ q => Heap.get?_push_of_some _ q) (Nat.le_refl _) (fn_ok (fn_empty I.big)), rfl, h _ (I.hok.fresh (Nat.le_refl _))⟩⟩
/-- {k: v} -/
def tOneN (X : Cx) (tk tv : TE) : TE := fun σ H Q => ∀ d, H d = none → tk σ (upd H d (DNO X.prog X.w d [])) fun y H1 => tv σ H1 fun z H2 => ∃ b k, y = .ref b ∧ H2 d = some (DNO X.prog X.w d []) ∧ Nk X.K H2 (.ref b) k ∧ k.depth ≤ 8 ∧
  Q (.ref d) (upd H2 d (DNO X.prog X.w d [(k, b, z)]))
theorem pe_oneN {n : Nat} {ke ve : Expr} {tk tv : TE} {pos : Pos} (hr : Room n X.A) (hk : PE X ke tk) (hv : PE X ve tv)
    (hshape : (evalEachOpt [some ke] X.env).zip ((evalEach [ve] X.env).map fun v => do let x ← v; standAt pos; pure x) = [(some (eval ke X.env), do let x ← eval ve X.env; standAt pos; pure x)] := by rfl) : PE X (.Dict [some ke] [ve] pos) (tOneN X tk tv) := by
  refine ⟨fun pins s σ H Q I h => ?_⟩
  have hu := hr.un
  rw [arm_eval_Dict, hshape]
  have e0 : [(some (eval ke X.env), do let x ← eval ve X.env; standAt pos; pure x)] = [(eval ke X.env, do let x ← eval ve X.env; standAt pos; pure x)].map fun p : Sem Value × Sem Value => (some p.1, p.2) := rfl
  rw [e0, dictDisplay_pairs _ (by simp) (by simp)]
  have I1 : Inv X pins σ (upd H s.heap.objs.size (DNO X.prog X.w s.heap.objs.size [])) { s with heap := s.heap.push { cls := .type "dict", data := .dict #[] } } :=
    I.laid (a := s.heap.objs.size) (t' := s.toks) (fun _ _ q => Heap.get?_push_of_some _ q) (Nat.le_refl _) (fn_ok (fn_empty I.big))
  refine wpAny_bind (wpAny_standAt (wpAny_bind (wpAny_subDictH (knd := nestedKind X.prog X.w) (by show X.A.units + 8 < cLine; omega) (by simp) (evalPairs_cons ?_))))
  refine thn (hk.run pins _ σ _ _ I1 (h _ (I.hok.fresh (Nat.le_refl _)))) fun kv s1 ⟨y, H1, I2, ry, q1⟩ => ?_
  refine wpAny_bind (thn (hv.run pins s1 σ H1 _ I2 q1) fun vv s2 ⟨z, H2, I3, rz, b, k, ey, hd2, hk2, hdp, q⟩ => wpAny_bind (wpAny_standAt (wpAny_pure ?_)))
  subst ey
  cases ry
  refine evalPairs_nil ?_
  have W2 : DW X H2 s.heap.objs.size [] := ⟨hd2, fun _ h => nomatch h⟩
  obtain ⟨hz, hs, ys, rel, dd⟩ := W2.dn.of I3
  cases rel
  refine ⟨[(k, b, vv)], ⟨rfl, rfl, Nk.isKey I3 hk2 hdp, trivial⟩, dd, fun h' tk dd' sb => wpAny_pure ?_⟩
  have he : ∃ q, h'.get? s.heap.objs.size = some q := let ⟨q, _, _, hq, _⟩ := dd'; ⟨q, hq⟩
  exact ⟨.ref s.heap.objs.size, _, d_write I3 (by rw [hd2]; exact True.intro) sb he (fn_ok (DictOfH.fn dd' (by show 1 ≤ sizeLine; decide) hs (.cons ⟨rfl, rfl, rz⟩ .nil))), rfl, q⟩
/-- list(d) -/
def rListN (X : Cx) : List V → Hp → VK → Prop := fun vs H Q => ∃ d xs, vs = [.ref d] ∧ DN X H d xs ∧ ∀ p, H p = none → Q (.ref p) (upd H p (.lst (xs.map fun x => .ref x.2.1)))
theorem call_listN (hc : X.calm = true) : CallR X (.type "list") (rListN X) := by
  intro pins s σ H xs us Q I r h
  obtain ⟨d, es0, rfl, hd, q⟩ := h
  obtain ⟨u, rfl, rx⟩ := r.one
  cases rx
  obtain ⟨hz, hs, ys, rel, o, es, ep, ho, hx, hdt, he, _, hn⟩ := hd.of I
  have l1 : es.size = ys.length := size_of_entries he
  have l2 := rel.length
  refine PySem.W.kdl_call (PySem.KdlSrc.rawDict (es := es) (ep := ep) hs) (I.ok.hd hc) ⟨o, ho, hx, hdt⟩ (by omega) fun h' tk acc' c' kp e it => ?_
  have ea : acc'.toList = ys.map fun x => Value.ref x.2.1 := by
    apply List.ext_getElem?
    intro j
    rw [List.getElem?_map]
    cases hj : acc'.toList[j]? with
    | none =>
      have h1 := List.getElem?_eq_none_iff.mp hj
      rw [Array.length_toList, it.1] at h1
      rw [List.getElem?_eq_none (by omega)]
      rfl
    | some v =>
      obtain ⟨hj2, hv⟩ := it.2 j v (by rw [← Array.getElem?_toList]; exact hj)
      have qe := entry_at he j
      rw [Array.getElem?_eq_getElem hj2] at qe
      cases hb : ys[j]? with
      | none =>
        rw [hb] at qe
        cases qe
      | some y =>
        rw [hb] at qe
        have e1 := Option.some.inj qe
        rw [hv, e1]
        rfl
  have rv : Vals (es0.map fun x => V.ref x.2.1) acc'.toList := by
    rw [ea]
    exact rel.addrs
  have new : ObjOk X.prog X.w (upd H s.heap.objs.size (.lst (es0.map fun x => .ref x.2.1))) h' s.heap.objs.size (.lst (es0.map fun x => .ref x.2.1)) :=
    ⟨by rw [List.length_map]; exact hz, acc'.toList, c', rv, by rw [e]⟩
  exact ⟨.ref s.heap.objs.size, _, I.laid (t' := tk) kp (Nat.le_refl _) new, rfl, q _ (I.hok.fresh (Nat.le_refl _))⟩
end
end K25
/-! walks of nested dicts; enumerate over a tuple -/
namespace K25
open PySem PySem.Spec PyProof.Rows L2
/-- the keys of the nested dict at d, which is the object o -/
def ItN (P : Program) (w : World) (d : Addr) (o : Obj) (xs : List NE) : It :=
  ⟨fun i H => H d = some (.frz o (DNO P w d xs)) ∧ i < xs.length, fun i H x H' => H' = H ∧ ∃ e, xs[i]? = some e ∧ x = .ref e.2.1, fun i H => H d = some (.frz o (DNO P w d xs)) ∧ xs.length ≤ i⟩
/-- its pairs, each a new tuple -/
def ItP (P : Program) (w : World) (d : Addr) (o : Obj) (xs : List NE) : It :=
  ⟨fun i H => H d = some (.frz o (DNO P w d xs)) ∧ i < xs.length, fun i H x H' => ∃ T e, xs[i]? = some e ∧ x = .ref T ∧ H T = none ∧ H' = upd H T (.tup [.ref e.2.1, e.2.2]), fun i H => H d = some (.frz o (DNO P w d xs)) ∧ xs.length ≤ i⟩
section
variable {X : Cx} {pins : List (Addr × Obj)} {σ : L2.St} {H : Hp} {s : Shared} {d : Addr} {o : Obj} {xs : List NE}
theorem frzN (I : Inv X pins σ H s) (h : H d = some (.frz o (DNO X.prog X.w d xs))) :
    (d == sysModules) = false ∧ s.heap.get? d = some o ∧ o.ExactDict ∧ ∃ (es : Array DictEntry) (ep : Nat), o.data = .dict es ep ∧ es.size = xs.length ∧
      ∀ (i : Nat) (e : NE), xs[i]? = some e → ∃ en : DictEntry, es[i]? = some en ∧ en.key = .ref e.2.1 ∧ RelV e.2.2 en.val := by
  obtain ⟨hd, ⟨hz, hs, ys, rel, o', es, ep, ho, hx, hdt, he, hn⟩, _⟩ := I.hok d _ h
  rw [hd] at ho
  cases ho
  refine ⟨hs, hd, hx, es, ep, hdt, ?_, fun i e q => ?_⟩
  · have l1 : es.size = ys.length := size_of_entries he
    have l2 := rel.length
    omega
  · obtain ⟨b, hb, _, e2, e3⟩ := paired_get rel q
    have z := entry_at he i
    rw [hb] at z
    refine ⟨_, z, ?_, e3⟩
    show Value.ref b.2.1 = _
    rw [e2]
end
section
variable {P : Program} {w : World} {K : PySem.W.Frag} {tg : Expr} {d : Addr} {o : Obj} {es : Array DictEntry} {ep : Nat} {xs : List NE}
theorem turn_keysN (it : Addr) (hod : o.data = .dict es ep) : Turn P w K tg (ItN P w d o xs) [it] it (fun i h => h.IsKeyIter it d i xs.length ep) where
  mem := by simp
  obj := fun i h st b hb => by
    obtain rfl : b = it := by simpa using hb
    obtain ⟨oi, e, c, dd⟩ := st
    exact ⟨oi, e, fun v z => by rw [dd] at z; cases z⟩
  keep := fun i h h' st k => st.at fun oi e => k it (by simp) oi e
  item := by
    intro X hP hw hK hc i pins s σ H E I hf st hg
    subst hP hw hK
    obtain ⟨hd, hi⟩ := hg
    obtain ⟨f0, f1, f2, f3, f4, f5⟩ := hf it (by simp)
    obtain ⟨hs, hgd, hx, es', ep', hdt, hsz, ent⟩ := frzN I hd
    obtain ⟨rfl, rfl⟩ := dict_ep hod hdt
    have he : xs[i]? = some xs[i] := List.getElem?_eq_getElem hi
    obtain ⟨en, hen, hkey, _⟩ := ent i _ he
    refine next_key_item st hgd hdt hsz hen fun h' st' sb => ?_
    have I1 : Inv X pins σ H { s with heap := h' } := I.turned (t' := s.toks) (fun b ob hb e => (sb.2 b hb).trans e) f0 f1 f3 f4 f5
    obtain ⟨oi, e, c, dd⟩ := id st'
    exact ⟨en.key, rfl, go_of (s := { s with heap := h' }) e c dd (by decide) ⟨.ref xs[i].2.1, H, I1, hkey, ⟨rfl, _, he, rfl⟩, st', fun b hb => (hf b hb).1⟩⟩
  done := by
    intro X hP hw hK hc i pins s σ H E I hf st hg
    subst hP hw hK
    obtain ⟨hd, hi⟩ := hg
    obtain ⟨f0, f1, f2, f3, f4, f5⟩ := hf it (by simp)
    obtain ⟨hs, hgd, hx, es', ep', hdt, hsz, ent⟩ := frzN I hd
    obtain ⟨rfl, rfl⟩ := dict_ep hod hdt
    exact next_key_end (I.ok.hd hc) st hgd hdt hsz hi fun h' eb => ⟨rfl, I.turned (t' := s.toks) (fun b ob hb e => eb b ob hb e) f0 f1 f3 f4 f5⟩
  self := fun A i s Q E st h => by
    refine wpAny_pyIter_slot st.typeIs F.slot_dict_keyiterator_iter (wpAny_call_entry F.slot_dict_keyiterator_iter st.typeIs F.entry_dict_keyiterator_iter ?_ (F.args_dict_keyiterator_iter_1 _))
    show wpAny _ _ (ret (.ref it)) _ _ s
    exact wpAny_pure ⟨_, rfl, "dict_keyiterator", _, st.typeIs, F.slot_dict_keyiterator_next.lookup, h⟩
theorem turn_itemsN {elts : List Expr} {kk : Nat} {tpos : Pos} (it : Addr) (hod : o.data = .dict es ep) (hon : es.size = xs.length) :
    Turn P w K (.Tuple elts kk tpos) (ItP P w d o xs) [it] it (fun i h => ∃ ok ov, IsItemIter h it d i es.size ep ok ov) where
  mem := by simp
  obj := fun i h st b hb => by
    obtain rfl : b = it := by simpa using hb
    obtain ⟨ok, ov, e⟩ := st
    exact ⟨_, e, fun v z => nomatch z⟩
  keep := fun i h h' st k => let ⟨ok, ov, e⟩ := st; ⟨ok, ov, k it (by simp) _ e⟩
  item := by
    intro X hP hw hK hc i pins s σ H E I hf st hg
    subst hP hw hK
    obtain ⟨hd, hi⟩ := hg
    obtain ⟨hs, hgd, hx, es', ep', hdt, hsz, ent⟩ := frzN I hd
    obtain ⟨rfl, rfl⟩ := dict_ep hod hdt
    have he : xs[i]? = some xs[i] := List.getElem?_eq_getElem hi
    obtain ⟨en, hen, hkey, hval⟩ := ent i _ he
    obtain ⟨hi2, een⟩ := Array.getElem?_eq_some_iff.mp hen
    obtain ⟨ok, ov, hit⟩ := st
    have hlt : it < s.heap.objs.size := Heap.lt_size hit
    refine wpAny_pyNext_items_item_raw hit ⟨o, hgd, hx, hdt⟩ hi2 fun h' ho hT hz hk => ?_
    refine ⟨_, rfl, wpAny_letOwnedTupleGo_items (s := { s with heap := h' }) ho fun h'' he' sb => ?_⟩
    have hT2 : h''.get? s.heap.objs.size = some { cls := .type "tuple", data := .seq #[en.key, en.val] } := by
      rw [← een]
      exact (sb.2 _ (Nat.ne_of_gt hlt)).trans hT
    have new : ObjOk X.prog X.w (upd H s.heap.objs.size (.tup [.ref xs[i].2.1, xs[i].2.2])) h'' s.heap.objs.size (.tup [.ref xs[i].2.1, xs[i].2.2]) :=
      ⟨by show 2 ≤ sizeLine; decide, [en.key, en.val], .cons hkey (.cons hval .nil), ⟨_, hT2, rfl, _, rfl⟩⟩
    have I1 : Inv X pins σ (upd H s.heap.objs.size (.tup [.ref xs[i].2.1, xs[i].2.2])) { s with heap := h'' } :=
      I.turnedNew (t' := s.toks) (ch := [it]) (fun b ob hb e => (sb.2 b (by simpa using hb)).trans (hk b ob (by simpa using hb) e)) hf (Nat.le_refl _) new
    refine ⟨.ref s.heap.objs.size, _, I1, rfl, ⟨_, _, he, rfl, I.hok.fresh (Nat.le_refl _), rfl⟩, ⟨_, _, he'⟩, fun b hb => ?_⟩
    obtain rfl : b = it := by simpa using hb
    rw [upd_ne (Nat.ne_of_lt hlt)]
    exact (hf b (by simp)).1
  done := by
    intro X hP hw hK hc i pins s σ H E I hf st hg
    subst hP hw hK
    obtain ⟨hd, hi⟩ := hg
    obtain ⟨f0, f1, f2, f3, f4, f5⟩ := hf it (by simp)
    obtain ⟨hs, hgd, hx, es', ep', hdt, hsz, ent⟩ := frzN I hd
    obtain ⟨rfl, rfl⟩ := dict_ep hod hdt
    obtain ⟨ok, ov, hit⟩ := st
    exact wpAny_pyNext_items_end_raw (I.ok.hd hc) hit ⟨o, hgd, hx, hdt⟩ (by omega) fun h' eb => ⟨rfl, I.turned (t' := s.toks) (fun b ob hb e => eb b ob hb e) f0 f1 f3 f4 f5⟩
  self := fun A i s Q E st h => let ⟨_, _, e⟩ := st; PySem.W.kcp_self e h
end
section
variable {X : Cx} {tg e : Expr} {td : TE} {apos cpos : Pos}
/-- the dict is locked for good -/
def iKeysN (X : Cx) (td : TE) : TI := fun σ H R => td σ H fun x H1 => ∃ d xs, x = .ref d ∧ Rd H1 d (DNO X.prog X.w d xs) ∧ ∀ o, R (ItN X.prog X.w d o xs) (upd H1 d (.frz o (DNO X.prog X.w d xs)))
def iItemsN (X : Cx) (td : TE) : TI := fun σ H R => td σ H fun x H1 => ∃ d xs, x = .ref d ∧ Rd H1 d (DNO X.prog X.w d xs) ∧ ∀ o, R (ItP X.prog X.w d o xs) (upd H1 d (.frz o (DNO X.prog X.w d xs)))
theorem upd_self {H : Hp} {d : Addr} {u : HO} (h : H d = some u) : upd H d u = H := by
  funext b
  by_cases c : b = d
  · subst c
    rw [upd_same, h]
  · rw [upd_ne c]
theorem lockN {pins : List (Addr × Obj)} {σ : L2.St} {H : Hp} {s : Shared} {d : Addr} {φ : Heap → Prop} (I : Inv X pins σ H s) (h : Rd H d (.ext φ)) : ∃ o, Inv X pins σ (upd H d (.frz o (.ext φ))) s := by
  rcases h with h | ⟨o, h⟩
  · exact I.lock h True.intro
  · exact ⟨o, by rw [upd_self h]; exact I⟩
theorem pi_keysN (he : PE X e td) : PI X tg e (iKeysN X td) := by
  refine ⟨fun pins s σ H R I h => ?_⟩
  refine thn (he.run pins s σ H _ I h) fun u s1 ⟨x, H1, I1, rx, d, xs, ex, hd, q⟩ => ?_
  subst ex
  obtain rfl : u = Value.ref d := rx
  obtain ⟨o, I2⟩ := lockN I1 hd
  obtain ⟨hs, hgd, hx, es, ep, hdt, hsz, ent⟩ := frzN I2 upd_same
  refine iter_keys hs hgd hx hdt (pi_one (tk := s1.toks) I2 _ (turn_keysN _ hdt) ⟨_, Heap.get?_push_size _ rfl, rfl, ?_⟩ (q o))
  rw [hsz]
  rfl
theorem pi_itemsN {elts : List Expr} {kk : Nat} {tpos : Pos} (he : PE X e td) (hbase : attributeBase e "items" X.env (eval e X.env) = eval e X.env := by rfl) (hline : (apos.endLine == cpos.line) = true := by rfl) :
    PI X (.Tuple elts kk tpos) (.Call (.Attribute e "items" apos) [] [] cpos) (iItemsN X td) := by
  refine ⟨fun pins s σ H R I h => ?_⟩
  refine wpAny_Call_method (T := "dict") (id := "dict.items") hbase rfl hline F.plainAttrs_dict F.slot_dict_items F.type_dict_items (thn (he.run pins s σ H _ I h) fun u s1 ⟨x, H1, I1, rx, d, xs, ex, hd, q⟩ => ?_)
  subst ex
  obtain rfl : u = Value.ref d := rx
  obtain ⟨o, I2⟩ := lockN I1 hd
  obtain ⟨hs, hgd, hx, es, ep, hdt, hsz, ent⟩ := frzN I2 upd_same
  have hraw : s1.heap.DictRaw d es ep := ⟨o, hgd, hx, hdt⟩
  refine ⟨hraw.typeIs, fun b q => by cases q; exact ⟨o, hgd, hx.2.1⟩, ?_⟩
  have I3 : Inv X pins σ (upd H1 d (.frz o (DNO X.prog X.w d xs))) { s1 with heap := s1.heap.push { cls := .type "dict_items", data := .fields #[.ref d] } } := I2.kept (t' := s1.toks) fun b ob q => Heap.get?_push_of_some _ q
  have fin : wpAny (model X.prog X.w) X.A (pyIter (.ref s1.heap.objs.size)) (PIE X pins σ (.Tuple elts kk tpos) R) X.xe { s1 with heap := s1.heap.push { cls := .type "dict_items", data := .fields #[.ref d] } } := by
    refine wpAny_pyIter_items_raw (d := d) ⟨_, Heap.get?_push_size _ rfl, rfl, rfl⟩ (hraw.at fun ob e => Heap.get?_push_of_some _ e) (pi_one (tk := s1.toks) I3 _ (turn_itemsN _ hdt hsz) ⟨.none, .none, ?_⟩ (q o))
    exact Heap.get?_push_size _ rfl
  show wpAny _ _ (callWith cpos (.builtin "dict.items") [.ref d] [] []) _ X.xe s1
  exact method_meetsIn F.slot_dict_items F.entry_dict_items rfl (PySem.evalArgs_none ⟨rfl, hraw.typeIs, F.args_dict_items_1 _, _, meets_dict_items_raw d hs, ⟨es, ep, hraw⟩, fin⟩)
end
/-! ### the forms one uses -/
/-- a loop over the keys: the dict stays locked -/
theorem for_keysN {P : Program} {w : World} {d : Addr} {o : Obj} {xs : List NE} {g : TG} {tb : TS} {D : Ends} {σ : L2.St} {H : Hp} (Pv : Nat → L2.St → Hp → Prop) (h0 : Pv 0 σ H) (hl : ∀ i σ H, Pv i σ H → H d = some (.frz o (DNO P w d xs)))
    (hs : ∀ i e σ H, xs[i]? = some e → Pv i σ H → g (.ref e.2.1) σ H fun σ2 H2 => tb { D with nx := Pv (i + 1), ct := Pv (i + 1), bk := D.nx } σ2 H2) (hd : ∀ σ H, Pv xs.length σ H → D.nx σ H) :
    ∃ W : Nat → Nat → L2.St → Hp → Prop, (∃ m, W 0 m σ H) ∧ ∀ i m σ H, W i m σ H →
      ((ItN P w d o xs).stop i H ∧ D.nx σ H) ∨ ((ItN P w d o xs).go i H ∧ ∃ N : L2.St → Hp → Prop, (∀ σ' H', N σ' H' → ∃ m', m' < m ∧ W (i + 1) m' σ' H') ∧ ∀ x H', (ItN P w d o xs).yld i H x H' → g x σ H' fun σ2 H2 => tb { D with nx := N, ct := N, bk := D.nx } σ2 H2) := by
  refine ⟨fun i m σ H => m = xs.length - i ∧ i ≤ xs.length ∧ Pv i σ H, ⟨xs.length, by simp, Nat.zero_le _, h0⟩, ?_⟩
  rintro i m σ H ⟨rfl, hi, p⟩
  have q := hl i σ H p
  by_cases hlt : i < xs.length
  · refine .inr ⟨⟨q, hlt⟩, Pv (i + 1), fun σ' H' p' => ⟨xs.length - (i + 1), by omega, rfl, hlt, p'⟩, fun x H' y => ?_⟩
    obtain ⟨rfl, e, he, rfl⟩ := y
    exact hs i e σ _ he p
  · have e : i = xs.length := by omega
    subst e
    exact .inl ⟨⟨q, Nat.le_refl _⟩, hd σ H p⟩
theorem for_itemsN {P : Program} {w : World} {d : Addr} {o : Obj} {xs : List NE} {g : TG} {tb : TS} {D : Ends} {σ : L2.St} {H : Hp} (Pv : Nat → L2.St → Hp → Prop) (h0 : Pv 0 σ H) (hl : ∀ i σ H, Pv i σ H → H d = some (.frz o (DNO P w d xs)))
    (hs : ∀ i e σ H T, xs[i]? = some e → Pv i σ H → H T = none → g (.ref T) σ (upd H T (.tup [.ref e.2.1, e.2.2])) fun σ2 H2 => tb { D with nx := Pv (i + 1), ct := Pv (i + 1), bk := D.nx } σ2 H2) (hd : ∀ σ H, Pv xs.length σ H → D.nx σ H) :
    ∃ W : Nat → Nat → L2.St → Hp → Prop, (∃ m, W 0 m σ H) ∧ ∀ i m σ H, W i m σ H →
      ((ItP P w d o xs).stop i H ∧ D.nx σ H) ∨ ((ItP P w d o xs).go i H ∧ ∃ N : L2.St → Hp → Prop, (∀ σ' H', N σ' H' → ∃ m', m' < m ∧ W (i + 1) m' σ' H') ∧ ∀ x H', (ItP P w d o xs).yld i H x H' → g x σ H' fun σ2 H2 => tb { D with nx := N, ct := N, bk := D.nx } σ2 H2) := by
  refine ⟨fun i m σ H => m = xs.length - i ∧ i ≤ xs.length ∧ Pv i σ H, ⟨xs.length, by simp, Nat.zero_le _, h0⟩, ?_⟩
  rintro i m σ H ⟨rfl, hi, p⟩
  have q := hl i σ H p
  by_cases hlt : i < xs.length
  · refine .inr ⟨⟨q, hlt⟩, Pv (i + 1), fun σ' H' p' => ⟨xs.length - (i + 1), by omega, rfl, hlt, p'⟩, fun x H' y => ?_⟩
    obtain ⟨T, e, he, rfl, hT, rfl⟩ := y
    exact hs i e σ _ T he p hT
  · have e : i = xs.length := by omega
    subst e
    exact .inl ⟨⟨q, Nat.le_refl _⟩, hd σ H p⟩
/-- a list comprehension over the keys -/
theorem lc_keysN {P : Program} {w : World} {d : Addr} {o : Obj} {xs : List NE} {g : TG} {tt : TT} {te : TE} {vs : List Nat} {σ : L2.St} {H1 : Hp} {D : Addr} {Qd : Hp → Prop} (Pv : Nat → Hp → Prop) (h0 : Pv 0 (upd H1 D (.lst []))) (hl : ∀ i H, Pv i H → H d = some (.frz o (DNO P w d xs)))
    (hs : ∀ i e H, xs[i]? = some e → Pv i H → g (.ref e.2.1) (wipe σ vs) H fun σ2 H2 => wipe σ2 vs = wipe σ vs ∧ tt σ2 H2 fun b H3 =>
      if b = true then te σ2 H3 fun y H4 => ∃ acc, H4 D = some (.lst acc) ∧ acc.length < sizeLine ∧ Pv (i + 1) (upd H4 D (.lst (acc ++ [y]))) else Pv (i + 1) H3) (hd : ∀ H, Pv xs.length H → Qd H) :
    ∃ W : Nat → Nat → Hp → Prop, (∃ m, W 0 m (upd H1 D (.lst []))) ∧ ∀ i m H, W i m H →
      ((ItN P w d o xs).stop i H ∧ Qd H) ∨ ((ItN P w d o xs).go i H ∧ ∃ Nx : Hp → Prop, (∀ H', Nx H' → ∃ m', m' < m ∧ W (i + 1) m' H') ∧ ∀ x H', (ItN P w d o xs).yld i H x H' → g x (wipe σ vs) H' fun σ2 H2 => wipe σ2 vs = wipe σ vs ∧ tt σ2 H2 fun b H3 =>
        if b = true then te σ2 H3 fun y H4 => ∃ acc, H4 D = some (.lst acc) ∧ acc.length < sizeLine ∧ Nx (upd H4 D (.lst (acc ++ [y]))) else Nx H3) := by
  refine ⟨fun i m H => m = xs.length - i ∧ i ≤ xs.length ∧ Pv i H, ⟨xs.length, by simp, Nat.zero_le _, h0⟩, ?_⟩
  rintro i m H ⟨rfl, hi, p⟩
  have q := hl i H p
  by_cases hlt : i < xs.length
  · refine .inr ⟨⟨q, hlt⟩, Pv (i + 1), fun H' p' => ⟨xs.length - (i + 1), by omega, rfl, hlt, p'⟩, fun x H' y => ?_⟩
    obtain ⟨rfl, e, he, rfl⟩ := y
    exact hs i e _ he p
  · have e : i = xs.length := by omega
    subst e
    exact .inl ⟨⟨q, Nat.le_refl _⟩, hd H p⟩
end K25
/-! the text's defs as they are called -/
namespace K25
open PySem PySem.Spec PyProof.Rows L2
/-- what the top has left -/
structure Tp (K : PySem.W.Frag) (mg : Str → Option Value) : Prop where
  says : Says K
  hp : ∃ h : Heap, K.In h ∧ h.Ns mainGlobals mg
section
variable {P : Program} {w : World} {K : PySem.W.Frag} {mg : Str → Option Value} {base : Heap}
theorem Tp.chk (T : Tp K mg) : chk K = true := congrArg (fun z : AlM => z.1) T.says
theorem Tp.fact (T : Tp K mg) (i : Nat) {f : He.Fa} (h : fa[i]? = some f := by rfl) : f.ok K = true :=
  List.all_eq_true.mp (He.ba (show ((fa.all fun f => f.ok K) && _) = true from T.chk)).1 f (List.mem_of_getElem? h)
theorem Tp.fund (T : Tp K mg) (i : Nat) {d : DefM} (h : fn[i]? = some d := by rfl) : ∃ fd, FunD K d.name d.qual d.params d.body d.scope d.dfl [] (d.path K) fd := by
  have c2 := (He.ba (He.ba (show ((fa.all fun f => f.ok K) && ((fn.all fun d => d.ok K) && _)) = true from T.chk)).2).1
  have e : fn.map (fun d => fnM K (d.path K)) = fn.map DefM.val := congrArg (fun z : AlM => z.2) T.says
  have e2 : (fn.map fun d => fnM K (d.path K))[i]? = (fn.map DefM.val)[i]? := by rw [e]
  rw [List.getElem?_map, List.getElem?_map, h] at e2
  exact DefM.funD (Option.some.inj e2) (List.all_eq_true.mp c2 d (List.mem_of_getElem? h))
theorem Tp.glo (T : Tp K mg) {x : Str} (i : Nat) (h : fa[i]? = some (He.Fa.glo x) := by rfl) : mg x = some (.ref (He.ga K x)) := by
  obtain ⟨g, X, G⟩ := T.hp
  exact He.glo_ok X G (T.fact i h)
theorem Tp.free (T : Tp K mg) {x : Str} (i : Nat) (h : fa[i]? = some (He.Fa.free x) := by rfl) : mg x = none := by
  obtain ⟨g, X, G⟩ := T.hp
  exact He.free_ok X G (T.fact i h)
theorem Tp.int (T : Tp K mg) {x : Str} {j : Int} (i : Nat) (h : fa[i]? = some (He.Fa.int x j) := by rfl) : ∃ t, mg x = some (.int j t) := by
  obtain ⟨g, X, G⟩ := T.hp
  exact He.int_ok X G (T.fact i h)
theorem Tp.str (T : Tp K mg) {x z : Str} (i : Nat) (h : fa[i]? = some (He.Fa.str x z) := by rfl) : ∃ t, mg x = some (.str z t) := by
  obtain ⟨g, X, G⟩ := T.hp
  exact He.str_ok X G (T.fact i h)
/-- a module's constant -/
theorem pe_mint {X : Cx} {x : Str} {j : Int} {pos : Pos} (hg : Gl X x) (hm : ∃ t, X.mg x = some (.int j t)) (hd : (x == ("__debug__" : Str)) = false := by decide) : PE X (.Name x pos) (tC (.int j)) := by
  obtain ⟨t, e⟩ := hm
  exact pe_glob hg e ⟨t, rfl⟩ hd
theorem pe_mstr {X : Cx} {x z : Str} {pos : Pos} (hg : Gl X x) (hm : ∃ t, X.mg x = some (.str z t)) (hd : (x == ("__debug__" : Str)) = false := by decide) : PE X (.Name x pos) (tC (.str z)) := by
  obtain ⟨t, e⟩ := hm
  exact pe_glob hg e ⟨t, rfl⟩ hd

/-- the def at f keeps sp, called with all its parameters -/
def Df (P : Program) (w : World) (K : PySem.W.Frag) (mg : Str → Option Value) (base : Heap) (f : Addr) (k : Nat) (ps : List Str) (sp : Sp) : Prop :=
  ∃ fd, FnOk P w K mg base CX0 k f fd ps sp ∧ PySem.W.keepIn K (.ref f) = true ∧ Binds K fd ps []
/-- the module's def x -/
def Cal (P : Program) (w : World) (K : PySem.W.Frag) (mg : Str → Option Value) (base : Heap) (x : Str) (k : Nat) (ps : List Str) (sp : Sp) : Prop :=
  ∃ f, mg x = some (.ref f) ∧ Df P w K mg base f k ps sp
theorem Df.mono {f : Addr} {j k : Nat} {ps : List Str} {sp : Sp} (D : Df P w K mg base f j ps sp) (h : j ≤ k) : Df P w K mg base f k ps sp :=
  let ⟨fd, F, kp, b⟩ := D; ⟨fd, F.mono h, kp, b⟩
theorem Cal.mono {x : Str} {j k : Nat} {ps : List Str} {sp : Sp} (D : Cal P w K mg base x j ps sp) (h : j ≤ k) : Cal P w K mg base x k ps sp :=
  let ⟨f, m, D⟩ := D; ⟨f, m, D.mono h⟩
theorem Cal.imp {x : Str} {k : Nat} {ps : List Str} {sp sp' : Sp} (D : Cal P w K mg base x k ps sp) (h : ∀ vs H Q E, sp' vs H Q E → sp vs H Q E) : Cal P w K mg base x k ps sp' :=
  let ⟨f, m, fd, F, kp, b⟩ := D; ⟨f, m, fd, F.imp h, kp, b⟩
/-- what a call hands back: the heap has only grown -/
def Ret (H : Hp) (Q : VK) (post : V → Hp → Prop) : Prop := ∀ v H', Ex H H' → post v H' → Q v H'
theorem Ret.of {H H' : Hp} {Q : VK} {post : V → Hp → Prop} (r : Ret H Q post) {v : V} (e : Ex H H') (p : post v H') : Q v H' := r v H' e p
theorem Tp.df (T : Tp K mg) (i : Nat) {d : DefM} (h : fn[i]? = some d) (hd : d.dfl = []) {N ps : List Str} {k : Nat} {sp : Sp} (S : FnScope N ps d.scope) (len : ∀ vs H Q E, sp vs H Q E → vs.length = ps.length)
    (hb : ∀ (kV doc pm : Value) (an : Option Addr) (cdv ct : Value) (us : List Value), us.length = ps.length → bindArgs (PySem.W.fnOf d.name d.qual d.params d.body d.scope .none kV doc pm an cdv ct) ⟨us, []⟩ = pure (ps.zip us))
    (hbody : ∀ (cdv : Value) (A : Around) (outer : List Env) (s : Shared) (H : Hp) (vs : List V) (Q : VK) (E : XK), Room k (A.deeper (envOfC d.qual d.scope s.heap.objs.size (d.path K) cdv)) → sp vs H Q E →
      ∃ t, PSs (cxOf CX0 P w K mg base N d.qual d.scope (d.path K) cdv A outer s H E) d.body t ∧ t { nx := fun _ H' => Q .non H', rt := Q } (start N vs) H) : Df P w K mg base (d.path K) (k + 1) ps sp := by
  obtain ⟨fd, F⟩ := T.fund i h
  refine ⟨fd, F.ok S len hbody, F.kp, ?_⟩
  rw [hd] at F
  exact F.bindsN hb
/-- .. with defaults that are not used -/
theorem Tp.dfD (T : Tp K mg) (i : Nat) {d : DefM} (h : fn[i]? = some d) (hd : d.dfl ≠ []) {N ps : List Str} {k : Nat} {sp : Sp} (S : FnScope N ps d.scope) (len : ∀ vs H Q E, sp vs H Q E → vs.length = ps.length)
    (hb : ∀ (T : Addr) (kV doc pm : Value) (an : Option Addr) (cdv ct : Value) (us its : List Value), us.length = ps.length → its.length = d.dfl.length →
      ∃ k, bindArgs (PySem.W.fnOf d.name d.qual d.params d.body d.scope (.ref T) kV doc pm an cdv ct) ⟨us, []⟩ = seqItems? (.ref T) >>= k ∧ k (some its.toArray) = pure (ps.zip us))
    (hbody : ∀ (cdv : Value) (A : Around) (outer : List Env) (s : Shared) (H : Hp) (vs : List V) (Q : VK) (E : XK), Room k (A.deeper (envOfC d.qual d.scope s.heap.objs.size (d.path K) cdv)) → sp vs H Q E →
      ∃ t, PSs (cxOf CX0 P w K mg base N d.qual d.scope (d.path K) cdv A outer s H E) d.body t ∧ t { nx := fun _ H' => Q .non H', rt := Q } (start N vs) H) : Df P w K mg base (d.path K) (k + 1) ps sp := by
  obtain ⟨fd, F⟩ := T.fund i h
  refine ⟨fd, F.ok S len hbody, F.kp, ?_⟩
  obtain ⟨ds, rd, b⟩ := F.binds1 (ps := ps) ps.length d.dfl.length hd (by omega) fun T kV doc pm an cdv ct us its l1 l2 => by
    obtain ⟨k, e1, e2⟩ := hb T kV doc pm an cdv ct us its l1 l2
    refine ⟨k, e1, ?_⟩
    rw [← l2, List.drop_length, List.append_nil]
    exact e2
  rw [List.drop_length] at rd
  cases rd
  exact b
end
/-- x(e, ..) -/
theorem pe_cal {X : Cx} {j k : Nat} {x : Str} {ps : List Str} {sp : Sp} {p pos : Pos} {e : Expr} {es : List Expr} {t : TA} (D : Cal X.prog X.w X.K X.mg X.base x j ps sp) (hr : Room k X.A) (hj : j ≤ k) (hg : Gl X x) (ha : PA X (e :: es) t)
    (hdb : (x == ("__debug__" : Str)) = false := by decide) (he : starEach (e :: es) X.env = (false, eval e X.env) :: starEach es X.env := by rfl) (hpl : (backTo pos (starEach es X.env)).any (·.1) = false := by rfl) :
    PE X (.Call (.Name x p) (e :: es) [] pos) (tCall sp [] (fun _ _ _ => False) t) := by
  obtain ⟨f, m, fd, F, kp, b⟩ := D
  exact pe_call F (hr.mono hj) hg m kp b .nil pass0 ha hdb he hpl
end K25
/-! small rules -/
namespace K25
open PySem PySem.Spec PyProof.Rows L2
section
variable {K : PySem.W.Frag} {mg : Str → Option Value}
theorem Tp.props (T : Tp K mg) : propB K "Machine" "start" = true ∧ propB K "Machine" "steps" = true ∧ propB K "Machine" "fault_names" = true ∧ propB K "Machine" "faults" = true ∧ propB K "Machine" "states" = true ∧ propB K "Watch" "sights" = true ∧ watchB K = true := by
  have h := (He.ba (He.ba (show ((fa.all fun f => f.ok K) && ((fn.all fun d => d.ok K) && (propB K "Machine" "start" && propB K "Machine" "steps" && propB K "Machine" "fault_names" && propB K "Machine" "faults" && propB K "Machine" "states" && propB K "Watch" "sights" && watchB K))) = true from T.chk)).2).2
  obtain ⟨h, h7⟩ := He.ba h
  obtain ⟨h, h6⟩ := He.ba h
  obtain ⟨h, h5⟩ := He.ba h
  obtain ⟨h, h4⟩ := He.ba h
  obtain ⟨h, h3⟩ := He.ba h
  obtain ⟨h1, h2⟩ := He.ba h
  exact ⟨h1, h2, h3, h4, h5, h6, h7⟩
theorem Tp.p_Machine_start (T : Tp K mg) : PropOf K (He.ga K "Machine") "start" (He.ma K (He.ga K "Machine") "start") (d_Machine_start.path K) := propB_ok T.props.1
theorem Tp.p_Machine_steps (T : Tp K mg) : PropOf K (He.ga K "Machine") "steps" (He.ma K (He.ga K "Machine") "steps") (d_Machine_steps.path K) := propB_ok T.props.2.1
theorem Tp.p_Machine_fault_names (T : Tp K mg) : PropOf K (He.ga K "Machine") "fault_names" (He.ma K (He.ga K "Machine") "fault_names") (d_Machine_fault_names.path K) := propB_ok T.props.2.2.1
theorem Tp.p_Machine_faults (T : Tp K mg) : PropOf K (He.ga K "Machine") "faults" (He.ma K (He.ga K "Machine") "faults") (d_Machine_faults.path K) := propB_ok T.props.2.2.2.1
theorem Tp.p_Machine_states (T : Tp K mg) : PropOf K (He.ga K "Machine") "states" (He.ma K (He.ga K "Machine") "states") (d_Machine_states.path K) := propB_ok T.props.2.2.2.2.1
theorem Tp.p_Watch_sights (T : Tp K mg) : PropOf K (He.ga K "Watch") "sights" (He.ma K (He.ga K "Watch") "sights") (d_Watch_sights.path K) := propB_ok T.props.2.2.2.2.2.1
abbrev cM (K : PySem.W.Frag) : Addr := He.ga K "Machine"
abbrev cW (K : PySem.W.Frag) : Addr := He.ga K "Watch"
theorem Tp.clsM (T : Tp K mg) : Cls K (cM K) := He.cls_ok (T.fact 7 (f := .cls "Machine") rfl)
theorem Tp.clsW (T : Tp K mg) : Cls K (cW K) := He.cls_ok (T.fact 24 (f := .cls "Watch") rfl)
theorem Tp.mkrW (T : Tp K mg) : Mk K (cW K) (d_Watch_init.path K) := He.mkr_ok (T.fact 25 (f := .mkr "Watch") rfl)
theorem Tp.watch (T : Tp K mg) : PySem.W.selfFirst K (cW K) = true ∧ PySem.W.kitOne K (.type "dict") (.ref (cW K)) = some false ∧ Meth K (cW K) "__ior__" (d_Watch_ior.path K) ∧ Meth K (cW K) "__isub__" (d_Watch_isub.path K) ∧ ∀ {H : Hp} {a dx : Addr} {fs : List (Str × V)}, H a = some (.ins (cW K) dx fs) → TyOf K H (.ref a) (.ref (cW K)) := by
  obtain ⟨h1, h⟩ := He.ba T.props.2.2.2.2.2.2
  obtain ⟨h2, h⟩ := He.ba h
  obtain ⟨h3, h⟩ := He.ba h
  obtain ⟨h4, h⟩ := He.ba h
  obtain ⟨h5, h⟩ := He.ba h
  obtain ⟨h6, h⟩ := He.ba h
  obtain ⟨h7, h8⟩ := He.ba h
  exact ⟨h1, of_decide_eq_true h6, He.meth_ok h7, He.meth_ok h8, fun e => .ins e T.clsW (of_decide_eq_true h2) (of_decide_eq_true h3) (of_decide_eq_true h4) (of_decide_eq_true h5)⟩
theorem kit_self {t : Value} (h : (t == t) = true) : PySem.W.kitOne K t t = some true := by
  unfold PySem.W.kitOne
  rw [if_pos h]
theorem Tp.noM (T : Tp K mg) : NoAttr K (cM K) "first_state" ∧ NoAttr K (cM K) "step_rows" ∧ NoAttr K (cM K) "word_list" ∧ NoAttr K (cM K) "fault_table" ∧ NoAttr K (cM K) "leaving" ∧ NoAttr K (cM K) "met_states" :=
  ⟨He.noat_ok (T.fact 9 (f := .noat "Machine" "first_state") rfl), He.noat_ok (T.fact 10 (f := .noat "Machine" "step_rows") rfl), He.noat_ok (T.fact 11 (f := .noat "Machine" "word_list") rfl), He.noat_ok (T.fact 12 (f := .noat "Machine" "fault_table") rfl), He.noat_ok (T.fact 13 (f := .noat "Machine" "leaving") rfl), He.noat_ok (T.fact 14 (f := .noat "Machine" "met_states") rfl)⟩
theorem Tp.noW (T : Tp K mg) : NoAttr K (cW K) "table" := He.noat_ok (T.fact 26 (f := .noat "Watch" "table") rfl)
theorem Tp.mkrM (T : Tp K mg) : Mk K (cM K) (d_Machine_init.path K) := He.mkr_ok (T.fact 8 (f := .mkr "Machine") rfl)
end
section
variable {X : Cx} {j k : Nat} {f : Addr} {ps : List Str} {sp : Sp}
/-- e.f, a property -/
theorem pe_prp {C p g : Addr} {x : Str} {e : Expr} {ta : TE} {pos : Pos} (he : PE X e ta) (c : Cls X.K C) (hp : PropOf X.K C x p g) (D : Df X.prog X.w X.K X.mg X.base g j ps sp) (hr : Room k X.A) (hj : j + 1 ≤ k)
    (hab : attributeBase e x X.env (eval e X.env) = eval e X.env := by rfl) : PE X (.Attribute e x pos) (tProp C sp [] (fun _ _ _ => False) ta) := by
  obtain ⟨fd, F, kp, b⟩ := D
  exact pe_prop he c hp F (hr.mono hj) b .nil pass0 hab
/-- C(e, ..) -/
theorem pe_mk {C : Addr} {x : Str} {p pos : Pos} {e : Expr} {es : List Expr} {t : TA} (M : Mk X.K C f) (D : Df X.prog X.w X.K X.mg X.base f j ps sp) (hr : Room k X.A) (hj : j + 1 ≤ k) (hg : Gl X x) (hm : X.mg x = some (.ref C)) (ha : PA X (e :: es) t)
    (hdb : (x == ("__debug__" : Str)) = false := by decide) (he : starEach (e :: es) X.env = (false, eval e X.env) :: starEach es X.env := by rfl) (hpl : (backTo pos (starEach es X.env)).any (·.1) = false := by rfl) :
    PE X (.Call (.Name x p) (e :: es) [] pos) (tMake C sp [] (fun _ _ _ => False) t) := by
  obtain ⟨fd, F, kp, b⟩ := D
  exact pe_make M F (hr.mono hj) hg hm b .nil pass0 ha hdb he hpl
end

/-! ### tests with a known answer -/
theorem itT {b : Bool} {A B : Prop} (h : b = true) (a : A) : if b = true then A else B := by
  rw [if_pos h]
  exact a
theorem itF {b : Bool} {A B : Prop} (h : b = false) (a : B) : if b = true then A else B := by
  rw [h]
  exact iteF a
theorem itE {b : Bool} {A B : Prop} (h1 : b = true → A) (h2 : b = false → B) : if b = true then A else B := by
  cases b with
  | true => exact iteT (h1 rfl)
  | false => exact iteF (h2 rfl)
theorem nF {p : Prop} [Decidable p] (h : p) : (!decide p) = false := by rw [decide_eq_true h]; rfl
theorem nT {p : Prop} [Decidable p] (h : ¬ p) : (!decide p) = true := by rw [decide_eq_false h]; rfl
theorem dT {p : Prop} [Decidable p] (h : p) : decide p = true := decide_eq_true h
theorem dF {p : Prop} [Decidable p] (h : ¬ p) : decide p = false := decide_eq_false h
theorem ofT {p : Prop} [Decidable p] (h : decide p = true) : p := of_decide_eq_true h
theorem ofF {p : Prop} [Decidable p] (h : decide p = false) : ¬ p := of_decide_eq_false h
theorem ofnT {p : Prop} [Decidable p] (h : (!decide p) = true) : ¬ p := by
  intro q
  rw [decide_eq_true q] at h
  cases h
theorem ofnF {p : Prop} [Decidable p] (h : (!decide p) = false) : p := by
  by_cases q : p
  · exact q
  · rw [decide_eq_false q] at h
    cases h
/-! ### membership, equality of keys -/
/-- the sequence of keys at a -/
def SqK (K : PySem.W.Frag) (H : Hp) (a : Addr) (ks : List NestedKey) : Prop := ∃ vs, (SqL K H a vs ∨ SqT K H a vs) ∧ NkA K H vs ks
theorem SqK.dp {K : PySem.W.Frag} {H : Hp} {a : Addr} {ks : List NestedKey} (h : SqK K H a ks) : Dp K H (.ref a) (.list (ks.map NestedKey.data)) ∨ Dp K H (.ref a) (.tuple (ks.map NestedKey.data)) := by
  obtain ⟨vs, h | h, n⟩ := h
  · exact .inl (.lst h (by rw [← datas_map]; exact NkA.dp ks vs n))
  · exact .inr (.tup h (by rw [← datas_map]; exact NkA.dp ks vs n))
theorem SqK.l {K : PySem.W.Frag} {H : Hp} {a : Addr} {vs : List V} {ks : List NestedKey} (h : SqL K H a vs) (n : NkA K H vs ks) : SqK K H a ks := ⟨vs, .inl h, n⟩
theorem SqK.t {K : PySem.W.Frag} {H : Hp} {a : Addr} {vs : List V} {ks : List NestedKey} (h : SqT K H a vs) (n : NkA K H vs ks) : SqK K H a ks := ⟨vs, .inr h, n⟩
section
variable {X : Cx}
def rInK (K : PySem.W.Frag) (neg : Bool) : R2 := fun x y H Q => ∃ a k ks, y = .ref a ∧ Nk K H x k ∧ SqK K H a ks ∧ k.depth ≤ 20 ∧ Q (.bl (if neg then !decide (k ∈ ks) else decide (k ∈ ks))) H
theorem op_inK {n : Nat} (hr : Room n X.A) : OpR X (compareOp .In) (rInK X.K false) := by
  intro pins s σ H x y v u Q I rx ry h
  obtain ⟨a, k, ks, rfl, hk, hs, hd, q⟩ := h
  refine op_inP hr pins s σ H x _ v u Q I rx ry ⟨k.data, ks.map NestedKey.data, Nk.dp k x hk, hs.dp, data_plain k, keys_plain ks, by rw [data_depth]; exact hd, ?_⟩
  rw [any_data]
  exact q
theorem op_notInK {n : Nat} (hr : Room n X.A) : OpR X (compareOp .NotIn) (rInK X.K true) := by
  intro pins s σ H x y v u Q I rx ry h
  obtain ⟨a, k, ks, rfl, hk, hs, hd, q⟩ := h
  refine op_notInP hr pins s σ H x _ v u Q I rx ry ⟨k.data, ks.map NestedKey.data, Nk.dp k x hk, hs.dp, data_plain k, keys_plain ks, by rw [data_depth]; exact hd, ?_⟩
  rw [any_data]
  exact q
def rEqK (K : PySem.W.Frag) (neg : Bool) : R2 := fun x y H Q => ∃ k j, Nk K H x k ∧ Nk K H y j ∧ k.depth ≤ 20 ∧ Q (.bl (if neg then !decide (k = j) else decide (k = j))) H
theorem op_eqK {n : Nat} (hr : Room n X.A) : OpR X (compareOp .Eq) (rEqK X.K false) := by
  intro pins s σ H x y v u Q I rx ry h
  obtain ⟨k, j, hk, hj, hd, q⟩ := h
  refine op_eqP hr pins s σ H x y v u Q I rx ry ⟨k.data, j.data, Nk.dp k x hk, Nk.dp j y hj, data_plain k, data_plain j, by rw [data_depth]; exact hd, ?_⟩
  rw [data_dec]
  exact q
theorem op_neK {n : Nat} (hr : Room n X.A) : OpR X (compareOp .NotEq) (rEqK X.K true) := by
  intro pins s σ H x y v u Q I rx ry h
  obtain ⟨k, j, hk, hj, hd, q⟩ := h
  refine op_neP hr pins s σ H x y v u Q I rx ry ⟨k.data, j.data, Nk.dp k x hk, Nk.dp j y hj, data_plain k, data_plain j, by rw [data_depth]; exact hd, ?_⟩
  rw [data_dec]
  exact q
/-- lists of lists of keys -/
inductive LkA (K : PySem.W.Frag) (H : Hp) : List V → List (List NestedKey) → Prop
  | nil : LkA K H [] []
  | cons {a : Addr} {vs us : List V} {ks : List NestedKey} {kss : List (List NestedKey)} : SqL K H a us → NkA K H us ks → LkA K H vs kss → LkA K H (.ref a :: vs) (ks :: kss)
theorem LkA.dp {K : PySem.W.Frag} {H : Hp} : ∀ {kss : List (List NestedKey)} {vs : List V}, LkA K H vs kss → DpAll K H vs (kss.map lD)
  | _, _, .nil => .nil
  | _, _, .cons h n t => .cons (.lst h (by rw [← datas_map]; exact NkA.dp _ _ n)) (LkA.dp t)
theorem LkA.mono {K : PySem.W.Frag} {H H' : Hp} (e : Ex H H') : ∀ {kss : List (List NestedKey)} {vs : List V}, LkA K H vs kss → LkA K H' vs kss
  | _, _, .nil => .nil
  | _, _, .cons h n t => .cons (e.sqL h) (NkA.mono e _ _ n) (LkA.mono e t)
theorem LkA.append {K : PySem.W.Frag} {H : Hp} : ∀ {kss jss : List (List NestedKey)} {vs us : List V}, LkA K H vs kss → LkA K H us jss → LkA K H (vs ++ us) (kss ++ jss)
  | _, _, _, _, .nil, g => g
  | _, _, _, _, .cons h n t, g => .cons h n (LkA.append t g)
theorem LkA.length {K : PySem.W.Frag} {H : Hp} : ∀ {kss : List (List NestedKey)} {vs : List V}, LkA K H vs kss → vs.length = kss.length
  | _, _, .nil => rfl
  | _, _, .cons h n t => by simp [LkA.length t]
theorem LkA.get {K : PySem.W.Frag} {H : Hp} : ∀ {kss : List (List NestedKey)} {vs : List V} {i : Nat} {ks : List NestedKey}, LkA K H vs kss → kss[i]? = some ks → ∃ a us, vs[i]? = some (.ref a) ∧ SqL K H a us ∧ NkA K H us ks
  | _, _, _, _, .nil, e => by simp at e
  | _, _, 0, _, .cons h n t, e => by
    simp only [List.getElem?_cons_zero, Option.some.injEq] at e ⊢
    subst e
    exact ⟨_, _, rfl, h, n⟩
  | _, _, i + 1, _, .cons h n t, e => by
    simp only [List.getElem?_cons_succ] at e ⊢
    exact LkA.get t e
theorem lD_depth {ks : List NestedKey} {n : Nat} (h : ∀ k ∈ ks, k.depth ≤ n) : (lD ks).depth ≤ n + 1 := by
  unfold lD
  rw [PyData.depth, ← datas_map, datas_depth]
  have := depthAll_le h
  omega
def rInL (K : PySem.W.Frag) (neg : Bool) : R2 := fun x y H Q => ∃ a b vs us ks kss, x = .ref b ∧ y = .ref a ∧ SqL K H a vs ∧ LkA K H vs kss ∧ SqL K H b us ∧ NkA K H us ks ∧ (∀ k ∈ ks, k.depth ≤ 18) ∧ Q (.bl (if neg then !decide (ks ∈ kss) else decide (ks ∈ kss))) H
theorem op_notInL {n : Nat} (hr : Room n X.A) : OpR X (compareOp .NotIn) (rInL X.K true) := by
  intro pins s σ H x y v u Q I rx ry h
  obtain ⟨a, b, vs, us, ks, kss, rfl, rfl, ha, hl, hb, hk, hd, q⟩ := h
  refine op_notInP hr pins s σ H _ _ v u Q I rx ry ⟨lD ks, kss.map lD, .lst hb (by rw [← datas_map]; exact NkA.dp _ _ hk), .inl (.lst ha hl.dp), lD_plain ks, lDs_plain kss, Nat.le_trans (lD_depth hd) (by decide), ?_⟩
  rw [any_lD]
  exact q
/-- a * b, one of them small -/
theorem op_mulR : OpR X (binaryOp .Mult) (rI IntMulOk fun i j => .int (i * j)) := opI fun _ _ _ _ _ _ _ hc q => mul_int q hc
end
end K25
/-! comprehensions of any kind: one core -/
namespace K25
open PySem PySem.Spec PyProof.Rows L2
/-- what a comprehension into the new object at D asks: u its first state, tl what a turn's result does to it -/
def tCc (u : Addr → HO) (wi : TI) (g : TG) (tt : TT) (tl : Addr → L2.St → Hp → (Hp → Prop) → Prop) (vs : List Nat) : TE := fun σ H Q => wi σ H fun J H1 => ∀ D, H1 D = none → ∃ W : Nat → Nat → Hp → Prop, (∃ m, W 0 m (upd H1 D (u D))) ∧ ∀ i m H, W i m H →
  (J.stop i H ∧ Q (.ref D) H) ∨ (J.go i H ∧ ∃ Nx : Hp → Prop, (∀ H', Nx H' → ∃ m', m' < m ∧ W (i + 1) m' H') ∧ ∀ x H', J.yld i H x H' → g x (wipe σ vs) H' fun σ2 H2 => wipe σ2 vs = wipe σ vs ∧ tt σ2 H2 fun b H3 => if b = true then tl D σ2 H3 Nx else Nx H3)
/-- over a walk -/
theorem cc_it {J : It} {n : Nat} {G : Hp → Prop} {Y : Nat → Hp → V → Hp → Prop} (w : Walk J n G Y) {u : HO} {g : TG} {tt : TT} {tl : L2.St → Hp → (Hp → Prop) → Prop} {vs : List Nat} {σ : L2.St} {H1 : Hp} {D : Addr} {Qd : Hp → Prop} (Pv : Nat → Hp → Prop)
    (h0 : Pv 0 (upd H1 D u)) (hG : ∀ i H, i ≤ n → Pv i H → G H)
    (hs : ∀ i x H H', i < n → Pv i H → Y i H x H' → g x (wipe σ vs) H' fun σ2 H2 => wipe σ2 vs = wipe σ vs ∧ tt σ2 H2 fun b H3 => if b = true then tl σ2 H3 (Pv (i + 1)) else Pv (i + 1) H3) (hd : ∀ H, Pv n H → Qd H) :
    ∃ W : Nat → Nat → Hp → Prop, (∃ m, W 0 m (upd H1 D u)) ∧ ∀ i m H, W i m H →
      (J.stop i H ∧ Qd H) ∨ (J.go i H ∧ ∃ Nx : Hp → Prop, (∀ H', Nx H' → ∃ m', m' < m ∧ W (i + 1) m' H') ∧ ∀ x H', J.yld i H x H' → g x (wipe σ vs) H' fun σ2 H2 => wipe σ2 vs = wipe σ vs ∧ tt σ2 H2 fun b H3 => if b = true then tl σ2 H3 Nx else Nx H3) := by
  refine ⟨fun i m H => m = n - i ∧ i ≤ n ∧ Pv i H, ⟨n, by simp, Nat.zero_le _, h0⟩, ?_⟩
  rintro i m H ⟨rfl, hi, p⟩
  have q := hG i H hi p
  rcases Nat.lt_or_eq_of_le hi with hlt | rfl
  · refine .inr ⟨w.goes i H hlt q, fun H' => Pv (i + 1) H', fun H' p' => ⟨n - (i + 1), by omega, rfl, hlt, p'⟩, fun x H' y => hs i x H H' hlt p (w.yields i H x H' hlt q y)⟩
  · exact .inl ⟨w.stops H q, hd H p⟩
/-- what is done with a turn's result, in Lean's words: the state behind it satisfies post -/
abbrev TailT := Env → Addr → Shared → (Shared → Prop) → (Value → Shared → Prop) → Prop
section
variable {X : Cx}
/-- the forms of one kind of comprehension -/
structure CompK (X : Cx) (c : Expr) (tg iter : Expr) (ifs : List Expr) (newAcc : Sem Value) (ob : Obj) (TAIL : TailT) : Prop where
  cl : clausesOf c = [⟨tg, iter, ifs, 0⟩]
  make : ∀ (E : Value → Shared → Prop) (s : Shared) (Q : Value → Shared → Prop), Q (.ref s.heap.objs.size) { s with heap := s.heap.push ob } → wpAny (model X.prog X.w) X.A newAcc Q E s
  loop : ∀ (it : Value) (D : Addr) (ce : Env) (R : Result → Shared → Prop) (I : Nat → Shared → Prop), (∀ n s, I n s → wpAny (model X.prog X.w) X.A (pyNext it) (fun r s1 => match r with
      | none => R (.ok .next) s1
      | some v => wpAny (model X.prog X.w) X.A (letOwnedTupleGo tg it v) (fun _ s2 => wpAny (model X.prog X.w) X.A (assign tg ce v) (fun _ s3 => wpAny (model X.prog X.w) X.A (forIn ifs true fun c r => if r = true then do let ok ← isTrue c ce (eval c ce); pure (ForInStep.yield ok) else pure (ForInStep.yield r)) (fun ok s4 =>
          if ok = true then TAIL ce D s4 (fun s' => ∃ m, m < n ∧ I m s') (notedBy (model X.prog X.w) X.A ce fun e s' => R (.error e) s') else ∃ m, m < n ∧ I m s4)
          (notedBy (model X.prog X.w) X.A ce fun e s' => R (.error e) s') s3) (notedBy (model X.prog X.w) X.A ce fun e s' => R (.error e) s') s2) (notedBy (model X.prog X.w) X.A ce fun e s' => R (.error e) s') s1) (notedBy (model X.prog X.w) X.A ce fun e s' => R (.error e) s') s) →
      ∀ n s, I n s → codeAny (model X.prog X.w) X.A (.compLoop c 0 it (.ref D) ce) R s
  start : ∀ (it acc : Value) (ce : Env) (R : Result → Shared → Prop) (s : Shared), codeAny (model X.prog X.w) X.A (.compLoop c 0 it acc ce) R s →
      wpAny (model X.prog X.w) X.A (pyIter it) (fun it' s' => codeAny (model X.prog X.w) X.A (.compLoop c 0 it' acc ce) R s') (notedBy (model X.prog X.w) X.A ce fun x s' => R (.error x) s') s → codeAny (model X.prog X.w) X.A (.compStart c 0 it acc ce) R s
/-- THE CORE -/
theorem cc_core {pins : List (Addr × Obj)} {s : Shared} {σ : L2.St} {H : Hp} {Q : VK} {c tg iter : Expr} {ifs : List Expr} {scope : Scope} {own : List (Str × Nat)} {pos' : Pos} {newAcc : Sem Value} {ob : Obj} {TAIL : TailT} {u : Addr → HO} {wi : TI} {g : TG} {tt : TT}
    {tl : Addr → L2.St → Hp → (Hp → Prop) → Prop} {use : Option (Value → Sem Unit)} {Qf : Value → Shared → Prop} (C : CompK X c tg iter ifs newAcc ob TAIL) (hc : X.calm = true) (hN : X.N.Nodup) (I : Inv X pins σ H s) (hi : PI X tg iter wi) (ok : BlkOk X.N X.env.scope scope own)
    (hu : ∀ (H : Hp) (s : Shared), sysModules < s.heap.objs.size → ObjOk X.prog X.w (upd H s.heap.objs.size (u s.heap.objs.size)) (s.heap.push ob) s.heap.objs.size (u s.heap.objs.size))
    (hg : ∀ (s : Shared) (H : Hp) (C : Addr) (cl : List (Str × Addr)) (fp : List Addr), PG (X.blk s H scope (compEnvC scope cl C X.env) fp) tg g) (ht : ∀ (s : Shared) (H : Hp) (C : Addr) (cl : List (Str × Addr)) (fp : List Addr), PTs (X.blk s H scope (compEnvC scope cl C X.env) fp) ifs tt)
    (hl : ∀ (s : Shared) (H : Hp) (C : Addr) (cl : List (Str × Addr)) (fp : List Addr) (D : Addr) (pins : List (Addr × Obj)) (s1 : Shared) (σ1 : L2.St) (H1 : Hp) (Nx : Hp → Prop) (post : Shared → Prop) (E : Value → Shared → Prop),
      Inv (X.blk s H scope (compEnvC scope cl C X.env) fp) pins σ1 H1 s1 → tl D σ1 H1 Nx → (∀ s' H', Inv (X.blk s H scope (compEnvC scope cl C X.env) fp) pins σ1 H' s' → Nx H' → post s') → TAIL (compEnvC scope cl C X.env) D s1 post E)
    (hs : ∀ x, foldedSetIterable iter X.env x = pure x) (h : tCc u wi g tt tl (own.map (·.2)) σ H Q)
    (hRR : ∀ D C s' m H', Inv X pins σ H' s' → Q (.ref D) H' → s'.heap.Ns C m → FpOk X pins H' C → compPost (model X.prog X.w) X.A X.xe use Qf (.ref D) C (.ok .next) s') :
    wpAny (model X.prog X.w) X.A (comprehension c scope X.env pos' newAcc false (eval iter X.env) use) Qf X.xe s := by
  have hfree : ∀ y ∈ scope.names, y.2 = .free → ∃ c, X.env.cells.lookup y.1 = some c := fun y hy e => by
    rcases ok.free y hy e with k | k
    · exact I.ok.has _ (.inl k)
    · exact I.ok.has _ (.inr k)
  refine wpAny_comprehension_free (use := use) C.cl hs (closure_ok hfree) ok.kind (fun y hy e => by rw [ok.uniq y hy, e])
    (thn (hi.run pins s σ H _ I h) fun xv s1 hx => thn hx fun itv s2 h2 => ?_)
  obtain ⟨it, fp, tn, J, H2, e, I2, T, st2, f2, q⟩ := h2
  subst e
  refine C.make _ _ _ (newEnv_comp ?_)
  have hDn : H2 s2.heap.objs.size = none := I2.hok.fresh (Nat.le_refl _)
  obtain ⟨W, ⟨m0, w0⟩, turn⟩ := q _ hDn
  have I3 : Inv X pins σ (upd H2 s2.heap.objs.size (u s2.heap.objs.size)) { s2 with heap := s2.heap.push ob } := I2.laid (t' := s2.toks) (fun b o e => Heap.get?_push_of_some _ e) (Nat.le_refl _) (hu H2 s2 I2.big)
  have sz : ∀ b ∈ fp, b < s2.heap.objs.size := fun b hb => by
    obtain ⟨o, e, _⟩ := T.obj _ _ st2 b hb
    exact Heap.lt_size e
  have f3 : ∀ b ∈ fp, FpOk X pins (upd H2 s2.heap.objs.size (u s2.heap.objs.size)) b ∧ b < (s2.heap.push ob).objs.size := fun b hb => by
    refine ⟨⟨?_, (f2 b hb).2⟩, by rw [Heap.size_push]; exact Nat.lt_succ_of_lt (sz b hb)⟩
    rw [upd_ne (Nat.ne_of_lt (sz b hb))]
    exact (f2 b hb).1
  have st3 : tn 0 (s2.heap.push ob) := T.keep _ _ _ st2 fun b _ o e => Heap.get?_push_of_some _ e
  generalize hs3 : ({ s2 with heap := s2.heap.push ob } : Shared) = s3 at I3 ⊢
  have h3 : s2.heap.push ob = s3.heap := by rw [← hs3]
  rw [h3] at f3 st3
  have I4 := block_start I3 ok hN f3
  generalize hD : s2.heap.objs.size = D at *
  generalize hcl : cellsFrom (s3.heap.objs.size + 1) scope.names (cloFrom X.env.cells scope.names []) = cl at I4 ⊢
  have pg := hg s3 (upd H2 D (u D)) s3.heap.objs.size cl fp
  have pt := ht s3 (upd H2 D (u D)) s3.heap.objs.size cl fp
  have pl := hl s3 (upd H2 D (u D)) s3.heap.objs.size cl fp
  show codeAny _ _ (.compStart c 0 (.ref it) (.ref D) (compEnvC scope cl s3.heap.objs.size X.env)) (compPost (model X.prog X.w) X.A X.xe use Qf (.ref D) s3.heap.objs.size) { s3 with heap := pushCells (s3.heap.push { cls := .type "dict", data := .dict #[] }) scope.names }
  generalize hce : compEnvC scope cl s3.heap.objs.size X.env = ce at I4 pg pt pl ⊢
  have cL : ce.locals = s3.heap.objs.size := by subst hce; rfl
  generalize hH3 : upd H2 D (u D) = H3 at I3 I4 pg pt pl w0 f3
  generalize hs4 : ({ s3 with heap := pushCells (s3.heap.push { cls := .type "dict", data := .dict #[] }) scope.names } : Shared) = s4 at I4 ⊢
  have st4 : tn 0 s4.heap := T.keep _ _ _ st3 fun b _ o e => by rw [← hs4]; exact pushCells_keeps _ _ _ _ (Heap.get?_push_of_some _ e)
  have nfp : ∀ b ∈ fp, H3 b = none := fun b hb => (f3 b hb).1.1
  have stat : ∀ {σ' : L2.St} {H' : Hp} {s' : Shared}, Inv (X.blk s3 H3 scope ce fp) [] σ' H' s' → (∀ b ∈ fp, H' b = none) → ∀ b ∈ fp, FpOk (X.blk s3 H3 scope ce fp) [] H' b := fun {σ' H' s'} I' hn b hb =>
    ⟨hn b hb, (I'.ok.exf b hb).1, I'.ok.exfs b hb, .inl hb, fun x c e => (I'.ok.exf b hb).2 x c e, fun p hp => absurd (show p ∈ ([] : List (Addr × Obj)) ++ [] from hp) (by simp)⟩
  have loop : codeAny (model X.prog X.w) X.A (.compLoop c 0 (.ref it) (.ref D) ce) (compPost (model X.prog X.w) X.A X.xe use Qf (.ref D) s3.heap.objs.size) s4 := by
    refine C.loop (.ref it) D ce _ (fun n s' => ∃ i H', Inv (X.blk s3 H3 scope ce fp) [] (wipe σ (own.map (·.2))) H' s' ∧ tn i s'.heap ∧ (∀ b ∈ fp, H' b = none) ∧ W i n H') ?_ m0 s4 ⟨0, H3, I4, st4, nfp, w0⟩
    rintro n s5 ⟨i, H5, I5, st5, n5, w5⟩
    rcases turn i n H5 w5 with ⟨stop, qq⟩ | ⟨go, Nx, hNx, step⟩
    · refine thnF (T.done (X.blk s3 H3 scope ce fp) rfl rfl rfl hc i [] s5 _ H5 (fun _ _ => False) I5 (stat I5 n5) st5 stop) fun r s6 ⟨hr, I6⟩ => ?_
      subst hr
      have I7 : Inv X pins σ H5 s6 := I3.call' (ch := fp) I6.os I6.base I6.hok I6.bare fun b hb => ⟨(f3 b hb).1.2.2.2.1, (f3 b hb).1.2.1, (f3 b hb).1.2.2.2.2.1, (f3 b hb).1.2.2.2.2.2⟩
      have nC : H5 s3.heap.objs.size = none := by
        have z : H5 ce.locals = none := I6.free
        rw [cL] at z
        exact z
      obtain ⟨m, hn, _⟩ := I6.loc
      have hn : s6.heap.Ns ce.locals m := hn
      rw [cL] at hn
      exact hRR D s3.heap.objs.size s6 m H5 I7 qq hn (I3.fpOk (Nat.le_refl _) nC)
    · refine thnF (T.item (X.blk s3 H3 scope ce fp) rfl rfl rfl hc i [] s5 _ H5 (fun _ _ => False) I5 (stat I5 n5) st5 go) fun r s6 ⟨v, hr, h6⟩ => ?_
      subst hr
      refine thnF h6 fun _ s7 ⟨x, H7, I7, r7, y7, st7, n7⟩ => ?_
      have I7' := I7.pinned (stat I7 n7) (T.obj _ _ st7)
      refine thnF (pg.run _ s7 _ H7 x v _ I7' r7 (step x H7 y7)) fun _ s8 ⟨σ8, H8, I8, hw8, q8⟩ => ?_
      refine thnF (pt.run _ s8 σ8 H8 _ I8 q8) fun b s9 ⟨H9, I9, q9⟩ => ?_
      have fin : ∀ (s' : Shared) (H' : Hp), Inv (X.blk s3 H3 scope ce fp) ([] ++ pinsAt fp s7.heap) σ8 H' s' → Nx H' → ∃ m, m < n ∧ ∃ i H', Inv (X.blk s3 H3 scope ce fp) [] (wipe σ (own.map (·.2))) H' s' ∧ tn i s'.heap ∧ (∀ b ∈ fp, H' b = none) ∧ W i m H' := fun s' H' I' nx => by
        obtain ⟨m', hm, w'⟩ := hNx H' nx
        have pin' : ∀ b ∈ fp, ∀ o, s7.heap.get? b = some o → s'.heap.get? b = some o ∧ H' b = none := fun b hb o e =>
          let z := I'.pin (b, o) (List.mem_append_right _ (List.mem_append_right _ (mem_pinsAt hb e)))
          ⟨z.1, z.2.1⟩
        refine ⟨m', hm, i + 1, H', (I'.unpinned (pins := [])).weak (by rw [← hw8, wipe_length]) (fun j v e => ?_), T.keep _ _ _ st7 fun b hb o e => (pin' b hb o e).1, fun b hb => ?_, w'⟩
        · rw [← hw8] at e
          exact (wipe_some e).1
        · obtain ⟨o, e, _⟩ := T.obj _ _ st7 b hb
          exact (pin' b hb o e).2
      cases b with
      | false =>
        simp only [Bool.false_eq_true, if_false] at q9 ⊢
        exact fin s9 H9 I9 q9
      | true =>
        simp only [if_true] at q9 ⊢
        exact pl D _ s9 σ8 H9 Nx _ _ I9 q9 fin
  exact C.start _ _ _ _ _ loop (T.self X.A 0 _ _ _ st4 loop)
/-- dict comprehensions are of such a kind -/
def tailD (P : Program) (w : World) (A : Around) (kx vx : Expr) : TailT := fun ce D s post E => wpAny (model P w) A (eval kx ce) (fun kv s1 => wpAny (model P w) A (eval vx ce) (fun vv s2 => wpAny (model P w) A (dictSet D kv vv) (fun _ s3 => post s3) E s2) E s1) E s
theorem compK_D {kx vx tg iter : Expr} {ifs : List Expr} {scope : Scope} {pos : Pos} : CompK X (.DictComp kx vx [⟨tg, iter, ifs, 0⟩] scope pos) tg iter ifs newDict { cls := .type "dict", data := .dict #[] } (tailD X.prog X.w X.A kx vx) where
  cl := rfl
  make := fun E s Q h => wpAny_newObj_type h
  loop := fun it D ce R I turn n s h => compLoop_anyD I turn n h
  start := fun it acc ce R s h0 h => codeAny_compStart_dict h0 h
def tailS (P : Program) (w : World) (A : Around) (elt : Expr) : TailT := fun ce D s post E => wpAny (model P w) A (eval elt ce) (fun v s1 => wpAny (model P w) A (call (.builtin "set.add") [.ref D, v]) (fun _ s2 => post s2) E s1) E s
theorem compK_S {elt tg iter : Expr} {ifs : List Expr} {scope : Scope} {pos : Pos} : CompK X (.SetComp elt [⟨tg, iter, ifs, 0⟩] scope pos) tg iter ifs (newSet (.type "set")) { cls := .type "set", dict := none, data := .set #[] 0 (.fresh 0 0 (!X.w.params.followText "set-order")) } (tailS X.prog X.w X.A elt) where
  cl := rfl
  make := fun E s Q h => PySem.wpAny_newSet_raw fun led e => by rw [e]; exact h
  loop := fun it D ce R I turn n s h => PySem.compLoop_set_any I turn n h
  start := fun it acc ce R s h0 h => PySem.codeAny_compStart_set h0 h
/-! ### dicts of keys -/
def tlN (X : Cx) (tk tv : TE) : Addr → L2.St → Hp → (Hp → Prop) → Prop := fun D σ H Nx => tk σ H fun y H1 => tv σ H1 fun z H2 => ∃ b k xs, y = .ref b ∧ DW X H2 D xs ∧ Nk X.K H2 (.ref b) k ∧ k.depth ≤ 8 ∧ xs.length < sizeLine ∧ Nx (upd H2 D (DNO X.prog X.w D (putN xs k b z)))
theorem tail_N {n : Nat} {kx vx : Expr} {scope : Scope} {tk tv : TE} (hr : Room n X.A)
    (hk : ∀ (s : Shared) (H : Hp) (C : Addr) (cl : List (Str × Addr)) (fp : List Addr), PE (X.blk s H scope (compEnvC scope cl C X.env) fp) kx tk)
    (he : ∀ (s : Shared) (H : Hp) (C : Addr) (cl : List (Str × Addr)) (fp : List Addr), PE (X.blk s H scope (compEnvC scope cl C X.env) fp) vx tv) :
    ∀ (s : Shared) (H : Hp) (C : Addr) (cl : List (Str × Addr)) (fp : List Addr) (D : Addr) (pins : List (Addr × Obj)) (s1 : Shared) (σ1 : L2.St) (H1 : Hp) (Nx : Hp → Prop) (post : Shared → Prop) (E : Value → Shared → Prop),
      Inv (X.blk s H scope (compEnvC scope cl C X.env) fp) pins σ1 H1 s1 → tlN X tk tv D σ1 H1 Nx → (∀ s' H', Inv (X.blk s H scope (compEnvC scope cl C X.env) fp) pins σ1 H' s' → Nx H' → post s') → tailD X.prog X.w X.A kx vx (compEnvC scope cl C X.env) D s1 post E := fun s0 H0 C cl fp D pins s1 σ1 H1 Nx post E J q fin => by
  refine thnF ((hk s0 H0 C cl fp).run pins s1 σ1 H1 _ J q) fun yv s2 ⟨y, H2, J2, ry, q2⟩ => ?_
  refine thnF ((he s0 H0 C cl fp).run pins s2 σ1 H2 _ J2 q2) fun zv s3 ⟨z, H3, J3, rz, b, k, xs, ey, hd, hkk, hdp, hl, nx⟩ => ?_
  subst ey
  cases ry
  obtain ⟨hz, hsm, ys, rel, dd⟩ := DN.of (X := X.blk s0 H0 scope (compEnvC scope cl C X.env) fp) J3 (show DN (X.blk s0 H0 scope (compEnvC scope cl C X.env) fp) H3 D xs from ⟨.inl hd.at_, hd.key⟩)
  have l := rel.length
  have hu := hr.un
  refine wpAny_dictSet_heap (hsz := by omega) (by show X.A.units + 8 < cLine; omega) (Nk.isKey (X := X.blk s0 H0 scope (compEnvC scope cl C X.env) fp) J3 hkk hdp) dd fun h' dd' sb => ?_
  have l2 := putN_length xs k b z
  have hq : ∃ q, h'.get? D = some q := let ⟨q, _, _, hq, _⟩ := dd'; ⟨q, hq⟩
  exact fin _ _ (d_write J3 (by rw [hd.at_]; exact True.intro) sb hq (fn_ok (DictOfH.fn dd' (by omega) hsm (rel.put k b rz)))) nx
theorem pe_dcN {n : Nat} {kx vx tg iter : Expr} {ifs : List Expr} {scope : Scope} {own : List (Str × Nat)} {pos : Pos} {wi : TI} {g : TG} {tt : TT} {tk tv : TE} (hr : Room n X.A) (hc : X.calm = true) (hN : X.N.Nodup) (hi : PI X tg iter wi) (ok : BlkOk X.N X.env.scope scope own)
    (hg : ∀ (s : Shared) (H : Hp) (C : Addr) (cl : List (Str × Addr)) (fp : List Addr), PG (X.blk s H scope (compEnvC scope cl C X.env) fp) tg g) (ht : ∀ (s : Shared) (H : Hp) (C : Addr) (cl : List (Str × Addr)) (fp : List Addr), PTs (X.blk s H scope (compEnvC scope cl C X.env) fp) ifs tt)
    (hk : ∀ (s : Shared) (H : Hp) (C : Addr) (cl : List (Str × Addr)) (fp : List Addr), PE (X.blk s H scope (compEnvC scope cl C X.env) fp) kx tk)
    (he : ∀ (s : Shared) (H : Hp) (C : Addr) (cl : List (Str × Addr)) (fp : List Addr), PE (X.blk s H scope (compEnvC scope cl C X.env) fp) vx tv) (hs : ∀ x, foldedSetIterable iter X.env x = pure x := by intro _; rfl) :
    PE X (.DictComp kx vx [⟨tg, iter, ifs, 0⟩] scope pos) (tCc (fun D => DNO X.prog X.w D []) wi g tt (tlN X tk tv) (own.map (·.2))) := by
  refine ⟨fun pins s σ H Q I h => ?_⟩
  rw [arm_eval_DictComp]
  refine cc_core compK_D hc hN I hi ok (fun H s big => fn_ok (fn_empty big)) hg ht (tail_N hr hk he) hs h fun D C s' m H' I' q hn f => ⟨m, hn, fun h'' sb => ?_⟩
  obtain ⟨f0, f1, f2, f3, f4, f5⟩ := f
  exact ⟨.ref D, H', I'.turned (t' := s'.toks) (fun b o hb e => (sb.2 b hb).trans e) f0 f1 f3 f4 f5, rfl, q⟩
/-- name = a comprehension, on one line, the name a local: what the store asks -/
theorem use_name {pins : List (Addr × Obj)} {σ : L2.St} {D : Ends} {i : Nat} {y : Str} {py : Pos} {L C : Addr} {s' : Shared} {m : Str → Option Value} {H' : Hp} (hN : X.N.Nodup) (hy : X.N[i]? = some y) (hyl : X.env.scope.names.lookup y = some .local) (I' : Inv X pins σ H' s') (q : gName i (.ref L) σ H' D.nx) (hn : s'.heap.Ns C m) (f : FpOk X pins H' C) :
    compPost (model X.prog X.w) X.A X.xe (some (assign (.Name y py) X.env)) (fun _ s' => SP X pins D .next s') (.ref L) C (.ok .next) s' := by
  show wpAny _ _ (assign (.Name y py) X.env (.ref L)) _ _ _
  refine wpAny_assign_Name (store_ok2 (v := V.ref L) I' hN hy (.inl hyl) rfl (fun s2 I2 ⟨a, sb, ha⟩ => ?_) (.inr hyl))
  obtain ⟨f0, f1, f2, f3, f4, f5⟩ := f
  have haC : C ≠ a := by
    rcases ha with z | z
    · rw [z]; exact f1
    · exact fun e => f4 y a z e.symm
  refine ⟨m, hn.sameBut sb haC, fun h3 sb3 => ?_⟩
  exact ⟨_, H', I2.turned (t' := s2.toks) (fun b o hb e => (sb3.2 b hb).trans e) f0 f1 f3 f4 f5, q⟩
theorem sw_trueD {kx vx : Expr} {gs : List Comprehension} {scope : Scope} {pos py : Pos} {y : Str} {l : Nat} {env : Env} (hk : env.scope.kind = .function) (hy : env.scope.names.lookup y = some .local) (hl : (py.line == pos.line) = true)
    (ha : (scope.names.any fun (n, k) => n == y && (k == .local || k == .cell)) = false) : swapsWith (.DictComp kx vx gs scope pos) (some (.Name y py)) l env = pure true := by
  have ky : env.kindOf y = some .local := hy
  have hb : env.blockKind = .function := by unfold Env.blockKind; rw [hk]; rfl
  unfold swapsWith
  simp only [hb, ky, ha, Expr.pos, hl]
  rfl
theorem ps_setDcN {n i : Nat} {y : Str} {py : Pos} {kx vx tg iter : Expr} {ifs : List Expr} {scope : Scope} {own : List (Str × Nat)} {pos spos : Pos} {wi : TI} {g : TG} {tt : TT} {tk tv : TE} (hr : Room n X.A) (hc : X.calm = true) (hN : X.N.Nodup) (hy : X.N[i]? = some y) (hyl : X.env.scope.names.lookup y = some .local)
    (hsw : swapsWith (.DictComp kx vx [⟨tg, iter, ifs, 0⟩] scope pos) (some (.Name y py)) spos.line X.env = pure true) (hi : PI X tg iter wi) (ok : BlkOk X.N X.env.scope scope own)
    (hg : ∀ (s : Shared) (H : Hp) (C : Addr) (cl : List (Str × Addr)) (fp : List Addr), PG (X.blk s H scope (compEnvC scope cl C X.env) fp) tg g) (ht : ∀ (s : Shared) (H : Hp) (C : Addr) (cl : List (Str × Addr)) (fp : List Addr), PTs (X.blk s H scope (compEnvC scope cl C X.env) fp) ifs tt)
    (hk : ∀ (s : Shared) (H : Hp) (C : Addr) (cl : List (Str × Addr)) (fp : List Addr), PE (X.blk s H scope (compEnvC scope cl C X.env) fp) kx tk)
    (he : ∀ (s : Shared) (H : Hp) (C : Addr) (cl : List (Str × Addr)) (fp : List Addr), PE (X.blk s H scope (compEnvC scope cl C X.env) fp) vx tv) (hs : ∀ x, foldedSetIterable iter X.env x = pure x := by intro _; rfl) :
    PS X (.Assign [.Name y py] (.DictComp kx vx [⟨tg, iter, ifs, 0⟩] scope pos) spos) (tAsg (tCc (fun D => DNO X.prog X.w D []) wi g tt (tlN X tk tv) (own.map (·.2))) (gName i)) := by
  refine ⟨fun pins s σ H D I h => ?_⟩
  rw [exec_Assign_Name_used _ _ _ _ hsw]
  refine wpAny_bind (wpAny_standAt (wpAny_bind ?_))
  show wpAny _ X.A (do let _ ← comprehension (.DictComp kx vx [⟨tg, iter, ifs, 0⟩] scope pos) scope X.env (firstIterPos [⟨tg, iter, ifs, 0⟩] pos) newDict false (eval iter X.env) (some (assign (.Name y py) X.env))) _ _ s
  have h : tCc (fun D => DNO X.prog X.w D []) wi g tt (tlN X tk tv) (own.map (·.2)) σ H (fun x H1 => gName i x σ H1 D.nx) := h
  exact wpAny_bind (thn (cc_core (Qf := fun _ s' => SP X pins D .next s') compK_D hc hN I hi ok (fun H s big => fn_ok (fn_empty big)) hg ht (tail_N hr hk he) hs h fun L C s' m H' I' q hn f => use_name hN hy hyl I' q hn f) fun _ s' hq => wpAny_pure (wpAny_pure hq))
end
end K25
/-! sets of ints and texts -/
namespace K25
open PySem PySem.Spec PyProof.Rows L2
def keyM (e : Int × Value) : Key := match e.2 with
  | .int k _ => .inl k
  | .str x _ => .inr x
  | _ => .inl 0
def GoodM (w : World) (e : Int × Value) : Prop := ∃ k : Key, keyIs k e.2 = true ∧ e.1 = keyH w k
theorem key_scan {k : Key} {v : Value} (h : keyIs k v = true) : v.scannable = true := by
  rcases keyIs_shape h with ⟨i, t, rfl, rfl⟩ | ⟨x, t, rfl, rfl⟩ <;> rfl
theorem keyM_of {k : Key} {e : Int × Value} (h : keyIs k e.2 = true) : keyM e = k := by
  obtain ⟨n, v⟩ := e
  rcases keyIs_shape h with ⟨i, t, rfl, rfl⟩ | ⟨x, t, rfl, e2⟩
  · rfl
  · have e3 : v = Value.str x t := e2
    subst e3
    rfl
theorem GoodM.is {w : World} {e : Int × Value} (g : GoodM w e) : keyIs (keyM e) e.2 = true := by
  obtain ⟨k, h, _⟩ := g
  rw [keyM_of h]
  exact h
theorem goodM_elems {P : Program} {w : World} {l : List (Int × Value)} (g : ∀ e ∈ l, GoodM w e) : ElemsOf (mixKind P w) l := fun e he => by
  obtain ⟨k, h1, h2⟩ := g e he
  exact ⟨⟨k, h1, h2⟩, key_scan h1⟩
theorem goodM_mem {P : Program} {w : World} {l : List (Int × Value)} (g : ∀ e ∈ l, GoodM w e) (k : Key) : k ∈ l.map keyM ↔ ∃ e ∈ l, (mixKind P w).is k e.2 = true := by
  rw [List.mem_map]
  constructor
  · rintro ⟨e, he, q⟩
    exact ⟨e, he, by rw [← q]; exact (g e he).is⟩
  · rintro ⟨e, he, q⟩
    exact ⟨e, he, keyM_of q⟩
/-- the set at a has the members ks, each once -/
def SetM (w : World) (h : Heap) (a : Addr) (ks : List Key) : Prop :=
  ∃ o es ep t, h.get? a = some o ∧ o.ExactSet ∧ o.data = .set es ep t ∧ (∀ e ∈ es.toList, GoodM w e) ∧ (es.toList.map keyM).Perm ks ∧ ks.Nodup ∧ es.size < scanBound ∧ t.fits es.size = true ∧ Ris t.place.toList ∧ (w.params.followText "set-order" = true ∨ t.led = true)
theorem SetM.keep {w : World} {h h' : Heap} {a : Addr} {ks : List Key} (R : SetM w h a ks) (k : ∀ o, h.get? a = some o → h'.get? a = some o) : SetM w h' a ks := by
  obtain ⟨o, es, ep, t, ho, r⟩ := R
  exact ⟨o, es, ep, t, k o ho, r⟩
theorem SetM.len {w : World} {h : Heap} {a : Addr} {ks : List Key} (R : SetM w h a ks) : ks.length < scanBound := by
  obtain ⟨o, es, ep, t, ho, _, _, _, p, _, hb, _⟩ := R
  rw [← p.length_eq, List.length_map, Array.length_toList]
  exact hb
theorem setM_fresh {h : Heap} (w : World) : SetM w (h.push { cls := .type "set", dict := none, data := .set #[] 0 (.fresh 0 0 (!w.params.followText "set-order")) }) h.objs.size [] :=
  ⟨_, #[], 0, _, Heap.get?_push_size _ rfl, ⟨rfl, rfl, rfl⟩, rfl, (fun e he => by simp at he), by simp, List.nodup_nil, (by decide), (by rfl), List.Pairwise.nil, by
    show _ ∨ (!w.params.followText "set-order") = true
    cases w.params.followText "set-order"
    · exact .inr rfl
    · exact .inl rfl⟩
open Classical in
noncomputable def insK {κ : Type} (ks : List κ) (k : κ) : List κ := if k ∈ ks then ks else ks ++ [k]
theorem insK_in {κ : Type} {ks : List κ} {k : κ} (h : k ∈ ks) : insK ks k = ks := by unfold insK; rw [if_pos h]
theorem insK_out {κ : Type} {ks : List κ} {k : κ} (h : k ∉ ks) : insK ks k = ks ++ [k] := by unfold insK; rw [if_neg h]
section
variable {P : Program} {w : World} {A : Around} {E : Value → Shared → Prop} {s : Shared} {a : Addr} {ks : List Key}
/-- the table written, then laid anew when it is too full -/
theorem setM_tail {g : Bool → Sem Unit} (hg : ∀ (b : Bool) (s₁ : Shared) (Q' : Unit → Shared → Prop), Q' () s₁ → wpAny (model P w) A (g b) Q' E s₁) {o : Obj} {es es1 : Array (Int × Value)} {ep : Nat} {t t2 : SetTable} {ks' : List Key} {wd : Bool} {R : Option Bool → Shared → Prop}
    (ho : s.heap.get? a = some o) (hex : o.ExactSet) (hd : o.data = .set es ep t) (g1 : ∀ e ∈ es1.toList, GoodM w e) (pm : (es1.toList.map keyM).Perm ks') (nd : ks'.Nodup) (hb : es1.size < scanBound) (hf : t2.fits es1.size = true) (hr : Ris t2.place.toList)
    (hl : w.params.followText "set-order" = true ∨ t2.led = true) (hR : ∀ h', Heap.SameBut a s.heap h' → SetM w h' a ks' → R (some true) { s with heap := h' }) :
    wpAny (model P w) A (do
        storeSet a es1 t2
        if (!wd && t2.tooFull) = true then do
            g (relayAll t2 es1 (SetTable.grown es1.size)).2.2
            storeSet a (relayAll t2 es1 (SetTable.grown es1.size)).1 (relayAll t2 es1 (SetTable.grown es1.size)).2.1
            pure (some true)
          else pure (some true)) R E s := by
  have ho1 := store_at (es' := es1) (t' := t2) ho hd
  have sb1 := Heap.SameBut.update s.heap a (Obj.putSet es1 t2)
  refine wpAny_bind (wpAny_storeSet_of ho hd ?_ (fits_of_scanBound hb))
  split
  · have p2 := relayAll_perm t2 es1 (SetTable.grown es1.size)
    have hz : (relayAll t2 es1 (SetTable.grown es1.size)).1.size < scanBound := by
      rw [← Array.length_toList, p2.length_eq, Array.length_toList]
      exact hb
    refine wpAny_bind (hg _ _ _ (wpAny_bind (wpAny_storeSet_of ho1 rfl ?_ (fits_of_scanBound hz))))
    refine wpAny_pure (hR _ (sb1.trans (Heap.SameBut.update _ a _)) ⟨_, _, _, _, store_at ho1 rfl, hex, rfl, fun e he => g1 e (p2.mem_iff.mp he), (p2.map keyM).trans pm, nd, hz, relayAll_fits .., relayAll_ris .., hl.imp id fun z => by rw [relayAll_led]; exact z⟩)
  · exact wpAny_pure (hR _ sb1 ⟨_, es1, _, t2, ho1, hex, rfl, g1, pm, nd, hb, hf, hr, hl⟩)
theorem setM_hashed {k : Key} {v : Value} {Q : Bool → Shared → Prop} (R : SetM w s.heap a ks) (hk : keyIs k v = true) (room : ks.length + 1 < scanBound)
    (hQ : ∀ b h', Heap.SameBut a s.heap h' → SetM w h' a (insK ks k) → Q b { s with heap := h' }) : wpAny (model P w) A (setAddHashed a v ((mixKind P w).hash k)) Q E s := by
  obtain ⟨o, es, ep, t, ho, hex, hd, g, pm, nd, hb, hf, hr, hl⟩ := id R
  have hel : ElemsOf (mixKind P w) es.toList := goodM_elems g
  unfold setAddHashed setAddHashedIn
  refine wpAny_holding (wpAny_bind (wpAny_setState_of ho hd hf ?_))
  dsimp only
  rw [byScan_of (key_scan hk) hb hel]
  simp only [↓reduceIte]
  unfold setAddByScan
  refine wpAny_bind (wpAny_bind (wpAny_rule (wpAny_bind (wpAny_setScan_of (k := k) hk ho hd hf hel ?_))))
  have hin : k ∈ ks ↔ ∃ e ∈ es.toList, (mixKind P w).is k e.2 = true := pm.mem_iff.symm.trans (goodM_mem g k)
  cases hfi : List.findIdx? (fun e => (mixKind P w).is k e.2) es.toList with
  | some j =>
    dsimp only
    obtain ⟨hj, pj, _⟩ := List.findIdx?_eq_some_iff_getElem.mp hfi
    refine wpAny_pure (wpAny_pure (hQ _ s.heap (Heap.SameBut.refl a s.heap) ?_))
    have e : insK ks k = ks := insK_in (hin.2 ⟨es.toList[j], List.getElem_mem hj, pj⟩)
    rw [e]
    exact R
  | none =>
    dsimp only
    have hn : k ∉ ks := fun z => by
      obtain ⟨e, he, q⟩ := hin.1 z
      have c := List.findIdx?_eq_none_iff.mp hfi e he
      rw [q] at c
      cases c
    have ei : insK ks k = ks ++ [k] := insK_out hn
    rw [ei] at hQ
    have hgw : ∀ (b : Bool) (s₁ : Shared) (Q' : Unit → Shared → Prop), Q' () s₁ → wpAny (model P w) A (match b with | true => rule "set.scan.the-table-gave-way" | false => pure ()) Q' E s₁ :=
      fun b s₁ Q' q => by cases b <;> first | exact wpAny_pure q | exact wpAny_rule q
    have pl := layNew_perm t es ((mixKind P w).hash k) v
    have hf1 := layNew_fits t es ((mixKind P w).hash k) v
    have hr1 := layNew_ris t es ((mixKind P w).hash k) v hr
    have hl1 := layNew_led t es ((mixKind P w).hash k) v
    generalize layNew t es ((mixKind P w).hash k) v = Z at pl hf1 hr1 hl1 ⊢
    obtain ⟨es1, t1, wd, gave⟩ := Z
    dsimp only at pl hf1 hr1 hl1 ⊢
    rw [Array.toList_push] at pl
    have pk : (es1.toList.map keyM).Perm (ks ++ [k]) := by
      refine (pl.map keyM).trans ?_
      rw [List.map_append]
      refine List.Perm.append pm ?_
      rw [List.map_cons, List.map_nil, keyM_of (e := ((mixKind P w).hash k, v)) hk]
    have g1 : ∀ e ∈ es1.toList, GoodM w e := fun e he => by
      rcases List.mem_append.mp (pl.mem_iff.mp he) with z | z
      · exact g e z
      · rw [List.mem_singleton.mp z]
        exact ⟨k, hk, rfl⟩
    have nd1 : (ks ++ [k]).Nodup := by
      rw [List.nodup_append]
      exact ⟨nd, by simp, fun x hx y hy e => hn (by rw [List.mem_singleton.mp hy] at e; rw [← e]; exact hx)⟩
    have hb1 : es1.size < scanBound := by
      have e := pk.length_eq
      rw [List.length_map, Array.length_toList, List.length_append, List.length_singleton] at e
      rw [e]
      exact room
    have hled : w.params.followText "set-order" = true ∨ t1.led = true := hl.imp id fun z => by rw [hl1]; exact z
    refine wpAny_bind (hgw _ _ _ ?_)
    split
    · refine wpAny_bind ?_
      rw [hashByValue_scannable 8 (key_scan hk)]
      refine wpAny_pure ?_
      refine setM_tail hgw ho hex hd g1 pk nd1 hb1 ?_ ?_ ?_ fun h' sb r => wpAny_pure (hQ true h' sb r)
      · first | (split <;> first | exact hf1 | exact SetTable.fits_plain_off hf1) | exact hf1
      · first | (split <;> exact hr1) | exact hr1
      · first | (split <;> exact hled) | exact hled
    · refine wpAny_bind (wpAny_pure ?_)
      simp only [↓reduceIte]
      exact setM_tail hgw ho hex hd g1 pk nd1 hb1 hf1 hr1 hled fun h' sb r => wpAny_pure (hQ true h' sb r)
theorem setM_add {k : Key} {v : Value} {Q : Bool → Shared → Prop} (R : SetM w s.heap a ks) (hk : keyIs k v = true) (room : ks.length + 1 < scanBound)
    (hQ : ∀ b h', Heap.SameBut a s.heap h' → SetM w h' a (insK ks k) → Q b { s with heap := h', toks := s.toks + 1 }) : wpAny (model P w) A (setAdd a v) Q E s := by
  unfold setAdd
  refine wpAny_holding (wpAny_bind ((mixKind P w).pyHash hk ?_))
  exact setM_hashed (s := { s with toks := s.toks + 1 }) R hk room hQ
end
end K25
/-! set(list), by any rule for one add -/
namespace K25
open PySem PySem.Spec PyProof.Rows L2
section
variable {P : Program} {w : World} {A : Around} {E : Value → Shared → Prop} {s : Shared}
/-- J: what is true of the set at S behind i items; h0: the heap ahead -/
structure SetRun (P : Program) (w : World) (A : Around) (S : Addr) (h0 : Heap) (n : Nat) (Pv : Nat → Value → Prop) (J : Nat → Heap → Prop) : Prop where
  keep : ∀ i h h', J i h → (∀ o, h.get? S = some o → h'.get? S = some o) → (∀ b o, h0.get? b = some o → h'.get? b = some o) → J i h'
  add : ∀ (E : Value → Shared → Prop) (i : Nat) (v : Value) (s : Shared) (Q : Bool → Shared → Prop), i < n → Pv i v → J i s.heap → (∀ b o, h0.get? b = some o → s.heap.get? b = some o) →
    (∀ b h' tk, Heap.SameBut S s.heap h' → J (i + 1) h' → s.toks ≤ tk → Q b { s with heap := h', toks := tk }) → wpAny (model P w) A (setAdd S v) Q E s
/-- set.update's loop -/
theorem set_upd {I S : Addr} {fp wr : List Addr} {G : Array GenState → Array GenState → Prop} {n : Nat} {Pv : Nat → Value → Prop} {St : Nat → Shared → Prop} {R : Result → Shared → Prop} {h0 : Heap} {J : Nat → Heap → Prop} (W : WalksS P w A.in1 I fp wr G n Pv St) (hSf : S ∉ fp)
    (hS0 : h0.get? S = none) (hw0 : ∀ b ∈ wr, h0.get? b = none) (N : SetRun P w A.in1 S h0 n Pv J) :
    ∀ (k i : Nat) (s : Shared), n - i = k → i ≤ n → St i s → (∀ b o, h0.get? b = some o → s.heap.get? b = some o) → J i s.heap →
      (∀ s', Moved (S :: wr) G s s' → J n s'.heap → (∀ b o, h0.get? b = some o → s'.heap.get? b = some o) → R (.ok (.ret .none)) s') → codeAny (model P w) A (.builtin "set.update.loop" ⟨[.ref S, .ref I], []⟩) R s := by
  have hSw : S ∉ wr := fun h => hSf (W.sub _ h)
  have sub : ∀ b ∈ wr, b ∈ S :: wr := fun b hb => List.mem_cons_of_mem _ hb
  have stays : ∀ {s s' : Shared}, Moved wr G s s' → (∀ b o, h0.get? b = some o → s.heap.get? b = some o) → ∀ b o, h0.get? b = some o → s'.heap.get? b = some o := fun hm hk b o e =>
    hm.heap b o (fun hb => by rw [hw0 b hb] at e; cases e) (hk b o e)
  intro k
  induction k with
  | zero =>
    intro i s hz hi hst hk j hR
    obtain rfl : i = n := by omega
    refine codeAny_builtin F.entry_set_update_loop ?_
    rw [Around.under_plainId F.plain_set_update_loop _]
    show wpAny _ A.in1 (pyNext (.ref I) >>= _) _ _ s
    refine wpAny_bind (W.done s _ _ hst fun s' hm => ?_)
    exact wpAny_pure (hR s' (hm.mono sub) (N.keep _ _ _ j (fun o e => hm.heap S o hSw e) (stays hm hk)) (stays hm hk))
  | succ k ih =>
    intro i s hz hi hst hk j hR
    have hlt : i < n := by omega
    refine codeAny_builtin F.entry_set_update_loop ?_
    rw [Around.under_plainId F.plain_set_update_loop _]
    show wpAny _ A.in1 (pyNext (.ref I) >>= _) _ _ s
    refine wpAny_bind (W.item i s _ _ hlt hst fun v s' hP hst' hm => ?_)
    have hk' := stays hm hk
    show wpAny _ A.in1 (holding [v] (setAdd S v) >>= _) _ _ s'
    refine wpAny_bind (wpAny_holding (N.add _ i v s' _ hlt hP (N.keep _ _ _ j (fun o e => hm.heap S o hSw e) hk') hk' fun b h' tk sb j' ht => ?_))
    have hk2 : ∀ b o, h0.get? b = some o → h'.get? b = some o := fun b o e => (sb.2 b (fun z => by rw [z, hS0] at e; cases e)).trans (hk' b o e)
    refine wpAny_pure ⟨plainId_quiet F.plain_set_update_loop _, ih (i + 1) _ (by omega) hlt (W.frame _ s' _ _ hst' ht fun b hb o e => ?_) hk2 j' fun s'' hm'' j'' hk'' => ?_⟩
    · rw [sb.2 b (fun h : b = S => hSf (by rw [← h]; exact hb))]
      exact e
    · refine hR s'' (Moved.trans W.gtrans ((hm.mono sub).then_heap ht fun b o hb e => ?_) hm'') j'' hk''
      rw [sb.2 b (fun h : b = S => hb (by rw [h]; exact List.mem_cons_self))]
      exact e
/-- set(l) -/
theorem set_list {l : Addr} {items : Array Value} {J : Nat → Heap → Prop} {Q : Value → Shared → Prop} (hh : A.handled = none) (hl : s.heap.IsList l items)
    (hN : ∀ (A' : Around), A'.units ≤ A.units + 3 → SetRun P w A' s.heap.objs.size s.heap items.size (fun i v => items[i]? = some v) J)
    (h0 : ∀ h', h'.get? s.heap.objs.size = some { cls := .type "set", dict := none, data := .set #[] 0 (.fresh 0 0 (!w.params.followText "set-order")) } → (∀ b o, s.heap.get? b = some o → h'.get? b = some o) → J 0 h')
    (h : ∀ (h' : Heap) (tk : Nat), J items.size h' → (∀ b o, s.heap.get? b = some o → h'.get? b = some o) → Q (.ref s.heap.objs.size) { s with heap := h', toks := tk }) : wpAny (model P w) A (call (.type "set") [.ref l]) Q E s := by
  obtain ⟨c, tl, hmro⟩ := F.called_set.mro
  have hmade := F.called_set.made
  have hsub := F.called_set.sub
  refine wpAny_call (codeAny_of_tree ?_)
  show wpAny _ _ (callAny (.type "set") _) _ _ _
  refine wpAny_pure ⟨Code.quiet_builtin _ (by decide +kernel), codeAny_builtin F.entry_type_call ?_⟩
  rw [Around.under_plain (weight_type_call_type "set" [.ref l] []) rfl]
  have h1 := F.called_set.notType
  have h2 := F.called_set.canCreate
  have hct := F.typeCall_set_1 (.ref l)
  repeat (any_goals (first | assumption | wp_step))
  refine codeAny_mono (code_set_led1 (.ref l) (E := E) (Q₁ := fun obj s₁ => obj = .ref s.heap.objs.size ∧ s₁ = { s with heap := s.heap.push { cls := .type "set", dict := none, data := .set #[] 0 (.fresh 0 0 (!w.params.followText "set-order")) } }) ⟨rfl, rfl⟩) fun r s₁ hr => ?_
  cases r with
  | error e => exact hr
  | ok fl =>
    cases fl with
    | ret obj =>
      obtain ⟨rfl, rfl⟩ := hr
      have hS : (s.heap.push { cls := .type "set", dict := none, data := .set #[] 0 (.fresh 0 0 (!w.params.followText "set-order")) }).get? s.heap.objs.size = some { cls := .type "set", dict := none, data := .set #[] 0 (.fresh 0 0 (!w.params.followText "set-order")) } := Heap.get?_push_size _ rfl
      have hT : Shared.TypeIs { s with heap := s.heap.push { cls := .type "set", dict := none, data := .set #[] 0 (.fresh 0 0 (!w.params.followText "set-order")) } } (.ref s.heap.objs.size) "set" := ⟨_, hS, rfl⟩
      have hli := F.called_set.init.lookup
      have hbi := F.called_set.init.bind (.ref s.heap.objs.size)
      repeat (any_goals (first | assumption | wp_step))
      refine codeAny_mono (codeAny_call_builtin (R := wants (fun r s₂ => r = .none ∧ ∃ h' tk, s₂ = { s with heap := h', toks := tk } ∧ J items.size h' ∧ (∀ b o, s.heap.get? b = some o → h'.get? b = some o)) E) F.called_set.init.plain F.entry_set_init (check_set_init_1 hT ?_)) fun r₂ s₂ hr₂ => ?_
      · obtain ⟨⟨ocls, odict, odata, oslots⟩, hol, hcl, nl, hdl⟩ := id hl
        simp only at hcl hdl
        subst hcl; subst hdl
        have hl1 : (s.heap.push { cls := .type "set", dict := none, data := .set #[] 0 (.fresh 0 0 (!w.params.followText "set-order")) }).IsList l items := hl.push _
        have hol' : (s.heap.push { cls := .type "set", dict := none, data := .set #[] 0 (.fresh 0 0 (!w.params.followText "set-order")) }).get? l = some { cls := .type "list", dict := odict, data := .seq items nl, slots := oslots } := Heap.get?_push_of_some _ hol
        have hsls := F.sub_list_set
        have hslf := F.sub_list_frozenset
        have hne : (Value.type "list" == Value.type "dict") = false := by decide
        unfold Builtin.«set.__init__» noKeywords Builtin.Frozenset.updateFrom
        generalize hPI : pyIter = PI
        wp_walk
        subst hPI

        refine wpAny_pyIter_list hl1 ?_
        refine wpAny_bind (wpAny_runValue ?_)
        have hlS : l < s.heap.objs.size := Heap.lt_size hol
        have hh3 : A.in1.in1.in1.handled = none := by simp [hh]
        have hz1 : (s.heap.push { cls := .type "set", dict := none, data := .set #[] 0 (.fresh 0 0 (!w.params.followText "set-order")) }).objs.size = s.heap.objs.size + 1 := Heap.size_push ..
        have hneI : l ≠ (s.heap.push { cls := .type "set", dict := none, data := .set #[] 0 (.fresh 0 0 (!w.params.followText "set-order")) }).objs.size := by rw [hz1]; exact Nat.ne_of_lt (Nat.lt_succ_of_lt hlS)
        have hSf : s.heap.objs.size ∉ [(s.heap.push { cls := .type "set", dict := none, data := .set #[] 0 (.fresh 0 0 (!w.params.followText "set-order")) }).objs.size, l] := by
          rw [hz1]
          simp only [List.mem_cons, List.not_mem_nil, or_false, not_or]
          exact ⟨Nat.ne_of_lt (Nat.lt_succ_self _), Nat.ne_of_gt hlS⟩
        have none_of : ∀ b, s.heap.objs.size ≤ b → s.heap.get? b = none := fun b hb => Heap.get?_none_of_le hb
        refine set_upd ((Walks.list hh3 _ l hneI items).toS) hSf (none_of _ (Nat.le_refl _)) (fun b hb => none_of b (by rw [List.mem_singleton.mp hb, hz1]; exact Nat.le_succ _)) (hN _ (by show A.units + 1 + 1 + 1 ≤ _; omega)) (items.size - 0) 0 _ (by omega) (Nat.zero_le _)
          ⟨⟨_, Heap.get?_push_size _ rfl, rfl, rfl⟩, (hl1.push _)⟩ (fun b o e => Heap.get?_push_of_some _ (Heap.get?_push_of_some _ e)) (h0 _ (Heap.get?_push_of_some _ hS) fun b o e => Heap.get?_push_of_some _ (Heap.get?_push_of_some _ e)) fun s' hm j hk => ?_
        obtain ⟨h', g2, d', tk', os'⟩ := s'
        have eg : g2 = s.gens := hm.gens
        have ed : d' = s.drawn := hm.drawn
        have eo : os' = s.os := hm.os
        subst eg; subst ed; subst eo
        show wpAny _ _ _ _ _ _
        refine wpAny_pure ?_
        show wpAny _ _ (ret Value.none) _ _ _
        exact wpAny_pure ⟨rfl, h', tk', rfl, j, hk⟩
      · cases r₂ with
        | error e => exact hr₂
        | ok fl₂ =>
          cases fl₂ with
          | ret r =>
            obtain ⟨rfl, h', tk, rfl, j, hk⟩ := hr₂
            repeat (any_goals (first | assumption | wp_step))
            exact h _ _ j hk
          | _ => exact hr₂.elim
    | _ => exact hr.elim
end
end K25
/-! sets of nested tuples -/
namespace K25
open PySem PySem.Spec PyProof.Rows L2
abbrev IsN (P : Program) (w : World) (h : Heap) (k : NestedKey) (a : Addr) : Prop := (nestedKind P w).is h k a
section
variable {P : Program} {w : World} {A : Around} {E : Value → Shared → Prop} {s : Shared}
/-! ### what a set's search asks of a key -/
mutual
theorem cls_key : ∀ (k : NestedKey) (v : Value) (n : Nat) (s : Shared) (Q : Bool → Shared → Prop), NestedIs s.heap k v → k.depth ≤ n → Q false s → wpAny (model P w) A (ofAClassStatement n v) Q E s
  | .none, _, n, s, Q, x, _, h => by cases x; cases n <;> exact wpAny_pure h
  | .num i, _, n, s, Q, x, _, h => by cases x <;> cases n <;> exact wpAny_pure h
  | .text y, _, n, s, Q, x, _, h => by cases x; cases n <;> exact wpAny_pure h
  | .tup ks, _, n, s, Q, x, hd, h => by
    cases x with
    | @tup a o vs _ _ ho hc hs hk =>
      cases n with
      | zero => simp [NestedKey.depth] at hd
      | succ n =>
        unfold ofAClassStatement
        refine wpAny_bind (wpAny_typeOf (T := "tuple") ⟨o, ho, hc⟩ ?_)
        simp only [beq_self_eq_true, if_true, Bool.not_true, Bool.false_eq_true, if_false]
        refine wpAny_bind (wpAny_pure ?_)
        show wpAny _ _ (seqItems? (.ref a) >>= _) _ _ s
        refine wpAny_bind (wpAny_seqItems ho hs ?_)
        dsimp only
        refine wpAny_bind ?_
        rw [← Array.forIn_toList]
        exact cls_keys ks vs.toList n s _ hk (by simp only [NestedKey.depth] at hd; omega) (wpAny_pure h)
theorem cls_keys : ∀ (ks : List NestedKey) (vs : List Value) (n : Nat) (s : Shared) (Q : (Option Bool × PUnit) → Shared → Prop), NestedAll s.heap ks vs → NestedKey.depthAll ks ≤ n → Q (none, ⟨⟩) s →
    wpAny (model P w) A (forIn vs (none, ⟨⟩) fun y _ => do
      let b ← ofAClassStatement n y
      if b = true then pure (ForInStep.done (some true, ⟨⟩)) else pure (ForInStep.yield (none, ⟨⟩))) Q E s
  | [], _, n, s, Q, x, _, h => by cases x; exact wpAny_pure h
  | k :: ks, _, n, s, Q, x, hd, h => by
    cases x with
    | cons x1 x2 =>
      simp only [NestedKey.depthAll] at hd
      rw [List.forIn_cons]
      refine wpAny_bind (wpAny_bind (cls_key k _ n s _ x1 (by omega) ?_))
      simp only [Bool.false_eq_true, if_false]
      exact wpAny_pure (cls_keys ks _ n s Q x2 (by omega) h)
end
mutual
theorem hash_key : ∀ (k : NestedKey) (v : Value) (n : Nat) (s : Shared) (Q : Bool → Shared → Prop), NestedIs s.heap k v → (∀ b, Q b s) → wpAny (model P w) A (hashByValue n v) Q E s
  | .none, _, n, s, Q, x, h => by cases x; cases n <;> exact wpAny_pure (h _)
  | .num i, _, n, s, Q, x, h => by cases x <;> cases n <;> exact wpAny_pure (h _)
  | .text y, _, n, s, Q, x, h => by cases x; cases n <;> exact wpAny_pure (h _)
  | .tup ks, _, n, s, Q, x, h => by
    cases x with
    | @tup a o vs _ _ ho hc hs hk =>
      cases n with
      | zero => exact wpAny_pure (h _)
      | succ n =>
        unfold hashByValue
        refine wpAny_bind (wpAny_specialOf (T := "tuple") ⟨o, ho, hc⟩ F.slot_tuple_hash.lookup ?_)
        show wpAny _ _ (seqItems? (.ref a) >>= _) _ _ s
        refine wpAny_bind (wpAny_seqItems ho hs ?_)
        refine wpAny_bind ?_
        show wpAny _ _ (forIn vs _ _) _ _ s
        rw [← Array.forIn_toList]
        exact hash_keys ks vs.toList n s _ hk (wpAny_pure (h _)) fun b => wpAny_pure (h b)
theorem hash_keys : ∀ (ks : List NestedKey) (vs : List Value) (n : Nat) (s : Shared) (Q : (Option Bool × PUnit) → Shared → Prop), NestedAll s.heap ks vs → Q (none, ⟨⟩) s → (∀ b, Q (some b, ⟨⟩) s) →
    wpAny (model P w) A (forIn vs (none, ⟨⟩) fun y _ => do
      let b ← hashByValue n y
      if (!b) = true then pure (ForInStep.done (some false, ⟨⟩)) else pure (ForInStep.yield (none, ⟨⟩))) Q E s
  | [], _, n, s, Q, x, h, _ => by cases x; exact wpAny_pure h
  | k :: ks, _, n, s, Q, x, h, h' => by
    cases x with
    | cons x1 x2 =>
      rw [List.forIn_cons]
      refine wpAny_bind (wpAny_bind (hash_key k _ n s _ x1 fun b => ?_))
      cases b with
      | false => exact wpAny_pure (wpAny_pure (h' false))
      | true =>
        simp only [Bool.not_true, Bool.false_eq_true, if_false]
        exact wpAny_pure (hash_keys ks _ n s Q x2 h h')
end
/-- a search among such keys shows nothing -/
theorem seen_keys {k : NestedKey} {b : Addr} {Q : Bool → Shared → Prop} (hk : IsN P w s.heap k b) : ∀ {ys : List Value}, (∀ y ∈ ys, ∃ j c, y = Value.ref c ∧ IsN P w s.heap j c) → Q false s → wpAny (model P w) A (searchCouldBeSeen (.ref b) ys) Q E s := fun {ys} hy h => by
  unfold searchCouldBeSeen
  refine wpAny_bind ?_
  refine wpAny_forIn_list _ (fun rest r s' => r.1 = none ∧ s' = s ∧ ∀ y ∈ rest, y ∈ ys) _ ?_ ?_ _ _ ⟨rfl, rfl, fun _ q => q⟩
  · rintro v rest r s' ⟨hr, rfl, sub⟩
    obtain ⟨j, c, rfl, hc⟩ := hy v (sub v List.mem_cons_self)
    have sub' : ∀ y ∈ rest, y ∈ ys := fun y q => sub y (List.mem_cons_of_mem _ q)
    dsimp only
    by_cases hv : (b == c || (carriedByValue (.ref b) && carriedByValue (.ref c))) = true
    · exact wp_if_pos hv (wpAny_pure ⟨rfl, rfl, sub'⟩)
    · refine wp_if_neg hv ?_
      refine wpAny_bind ((nestedKind P w).quiet hk ?_)
      simp only [Bool.not_true, Bool.false_eq_true, if_false]
      refine wpAny_bind ((nestedKind P w).quiet hc ?_)
      simp only [Bool.not_true, Bool.false_eq_true, if_false]
      refine wpAny_bind (cls_key k _ 8 _ _ hk.1 hk.2 ?_)
      simp only [Bool.false_eq_true, if_false]
      refine wpAny_bind (cls_key j _ 8 _ _ hc.1 hc.2 ?_)
      simp only [Bool.false_eq_true, if_false]
      exact wpAny_pure ⟨rfl, rfl, sub'⟩
  · rintro ⟨r1, r2⟩ s' ⟨hr, rfl, _⟩
    simp only at hr
    subst hr
    exact wpAny_pure h
end
end K25
/-! sets of nested tuples: the table -/
namespace K25
open PySem PySem.Spec PyProof.Rows L2
abbrev hN (P : Program) (w : World) (k : NestedKey) : Int := (nestedKind P w).hash k
abbrev LN : Type := List (NestedKey × Addr)
def rowsN (P : Program) (w : World) (L : LN) : List (Int × Value) := L.map fun p => (hN P w p.1, Value.ref p.2)
/-- the set's object at a: the keys L, in the table's order -/
structure SetN (P : Program) (w : World) (h : Heap) (a : Addr) (L : LN) (es : Array (Int × Value)) (ep : Nat) (t : SetTable) : Prop where
  ob : ∃ o, h.get? a = some o ∧ o.ExactSet ∧ o.data = .set es ep t
  rows : es.toList = rowsN P w L
  tab : TabOk t (L.map fun p => hN P w p.1)
  nd : (L.map (·.1)).Nodup
  key : ∀ p ∈ L, IsN P w h p.1 p.2
  led : w.params.followText "set-order" = true ∨ t.led = true
  room : L.length * 5 < t.mask * 3
  few : L.length < 64
section
variable {P : Program} {w : World} {A : Around} {E : Value → Shared → Prop} {s : Shared} {a : Addr} {L : LN} {es : Array (Int × Value)} {ep : Nat} {t : SetTable}
theorem isN_keep {h h' : Heap} {k : NestedKey} {b : Addr} (x : IsN P w h k b) (hk : ∀ c o vs n, h.get? c = some o → o.data = .seq vs n → h'.get? c = some o) : IsN P w h' k b := ⟨NestedIs.at hk k _ x.1, x.2⟩
/-- a tuple isn't the set -/
theorem isN_set {h h' : Heap} {k : NestedKey} {b : Addr} {o : Obj} (x : IsN P w h k b) (ho : h.get? a = some o) (hd : o.data = .set es ep t) (sb : Heap.SameBut a h h') : IsN P w h' k b :=
  isN_keep x fun c u vs n e hu => (sb.2 c (fun z => by subst z; rw [ho] at e; cases e; rw [hd] at hu; cases hu)).trans e
theorem rowsN_len (h : es.toList = rowsN P w L) : es.size = L.length := by
  have q := congrArg List.length h
  unfold rowsN at q
  rw [Array.length_toList, List.length_map] at q
  exact q
theorem rowsN_at (h : es.toList = rowsN P w L) {i : Nat} {p : NestedKey × Addr} (hp : L[i]? = some p) : es[i]? = some (hN P w p.1, Value.ref p.2) := by
  rw [← Array.getElem?_toList, h]
  unfold rowsN
  rw [List.getElem?_map, hp]
  rfl
theorem fits_of (hs : t.place.size = es.size) (hd : t.dummies = #[]) (hm : es.size ≤ t.mask) : t.fits es.size = true := by
  unfold SetTable.fits SetTable.fill
  rw [hd, Bool.and_eq_true, beq_iff_eq, decide_eq_true_eq]
  show t.place.size = es.size ∧ t.place.size + 0 ≤ t.mask
  omega
theorem SetN.fits (R : SetN P w s.heap a L es ep t) : t.fits es.size = true := by
  have h1 := R.tab.sz
  rw [List.length_map] at h1
  have h2 := rowsN_len R.rows
  have h3 := R.room
  exact fits_of (by omega) R.tab.dm (by omega)
abbrev stp (t : SetTable) (h : Int) (c : Nat) : SetTable.Probe := nth t.mask (runAt t.mask (SetTable.bits h % (t.mask + 1)) (SetTable.bits h)) c
theorem stp_add (t : SetTable) (h : Int) (c q : Nat) : nth t.mask (stp t h c) q = stp t h (c + q) := (nth_add t.mask c _ q).symm
theorem nth_dummy (m : Nat) : ∀ (n : Nat) (p : SetTable.Probe), p.dummy = none → (nth m p n).dummy = none
  | 0, _, h => h
  | n + 1, p, h => nth_dummy m n (adv m p) (by unfold adv; split <;> exact h)
/-- THE SEARCH from the c-th step of its way: K the first free slot's step; every equal key stands between -/
theorem srch (R : SetN P w s.heap a L es ep t) {x : Addr} {k : NestedKey} (hx : IsN P w s.heap k x) (hu : (nestedKind P w).room A) {K : Nat} (hKf : K < 10 * SetTable.turns t.mask) (hK : way t.mask (hN P w k) K ∉ t.place.toList)
    (hKb : ∀ c, c < K → way t.mask (hN P w k) c ∈ t.place.toList) {Q : SetFound → Shared → Prop} (hin : k ∈ L.map (·.1) → Q (.there none) s) (hout : k ∉ L.map (·.1) → Q (.free (way t.mask (hN P w k) K) false) s) :
    ∀ (f c : Nat) (stand : Option SetTable.Probe), stand.getD (t.probeStart (hN P w k)) = stp t (hN P w k) c → c ≤ K → K - c < f → (∀ (i : Nat) p, L[i]? = some p → p.1 = k → ∃ c', c ≤ c' ∧ c' < K ∧ t.place.toList[i]? = some (way t.mask (hN P w k) c')) →
      wpAny (model P w) A (setSearchFrom a (.ref x) (hN P w k) true f stand) Q E s := by
  obtain ⟨o, ho, hex, hd⟩ := R.ob
  intro f
  induction f with
  | zero => intro c stand _ _ hf _; exact absurd hf (Nat.not_lt_zero _)
  | succ f ih =>
    intro c stand hst hc hf hre
    rw [setSearchFrom_succ]
    refine wpAny_bind (wpAny_setState_of ho hd R.fits ?_)
    dsimp only
    refine wp_if_neg (by unfold SetTable.gaveWay; rw [mask_odd R.tab.mok]; decide) ?_
    try refine wpAny_bind (wpAny_pure ?_)
    have ej : ∀ q, (nth t.mask (stp t (hN P w k) c) q).j = way t.mask (hN P w k) (c + q) := fun q => congrArg SetTable.Probe.j (stp_add t _ c q)
    have hash : ∀ (i : Nat) p, L[i]? = some p → (fun i => (es[i]?.map (·.1)).getD 0) i = hN P w p.1 := fun i p hp => by
      show (es[i]?.map (·.1)).getD 0 = _
      rw [rowsN_at R.rows hp]
      rfl
    have spec := go_spec t R.tab.ris R.tab.dm (fun i => (es[i]?.map (·.1)).getD 0) (hN P w k) (10 * SetTable.turns t.mask) (K - c) (stp t (hN P w k) c) (nth_dummy _ c _ rfl) (by omega)
      (fun q hq => by rw [ej]; exact hKb (c + q) (by omega)) (by rw [ej, show c + (K - c) = K by omega]; exact hK)
    rcases spec with ⟨q, i, hq, hi, hh, hno, hpr⟩ | ⟨hno, hpr⟩
    · rw [ej] at hi
      rw [show t.probe (fun i => (es[i]?.map (·.1)).getD 0) (hN P w k) (stand.getD (t.probeStart (hN P w k))) = some (.candidate (way t.mask (hN P w k) (c + q)) i (stp t (hN P w k) (c + (q + 1)))) by rw [hst, ← ej, ← stp_add]; exact hpr]
      dsimp only
      have hil : i < L.length := by
        have h1 : i < t.place.toList.length := (List.getElem?_eq_some_iff.mp hi).1
        have h2 := R.tab.sz
        rw [List.length_map] at h2
        rw [Array.length_toList] at h1
        omega
      obtain ⟨p, hp⟩ : ∃ p, L[i]? = some p := ⟨_, List.getElem?_eq_getElem hil⟩
      have hmem : p ∈ L := List.mem_of_getElem? hp
      have hsl : t.slot (way t.mask (hN P w k) (c + q)) = .live i := slot_live R.tab.ris hi
      have rest : wpAny (model P w) A (searchRest a (.ref x) (hN P w k) true f es t (way t.mask (hN P w k) (c + q)) i (stp t (hN P w k) (c + (q + 1)))) Q E s := by
        unfold searchRest
        rw [rowsN_at R.rows hp]
        dsimp only
        refine wpAny_bind (wpAny_holding ((nestedKind P w).eqBool hu (R.key p hmem) hx ?_))
        refine wpAny_bind (wpAny_setState_of ho hd R.fits ?_)
        dsimp only
        by_cases hkk : p.1 = k
        · refine wp_if_pos (by simp [hkk]) ?_
          exact wpAny_pure (hin (List.mem_map.mpr ⟨p, hmem, hkk⟩))
        · refine wp_if_neg (by simp [hkk]) ?_
          try refine wpAny_bind (wpAny_pure ?_)
          rw [sameMem]
          dsimp only
          simp only [if_true, hsl, rowsN_at R.rows hp]
          refine wpAny_bind (wpAny_isSame_ref_self (wpAny_bind (wpAny_pure ?_)))
          simp only [if_true]
          refine wp_if_neg (by simp [hkk]) ?_
          refine ih (c + (q + 1)) _ rfl (by omega) (by omega) fun i0 p0 h0 hk0 => ?_
          obtain ⟨c', a1, a2, a3⟩ := hre i0 p0 h0 hk0
          refine ⟨c', ?_, a2, a3⟩
          -- an equal key isn't passed over
          rcases Nat.lt_trichotomy c' (c + q) with z | z | z
          · exact absurd ((hash i0 p0 h0).trans (congrArg (hN P w) hk0)) (hno (c' - c) i0 (by omega) (by rw [ej, show c + (c' - c) = c' by omega]; exact a3))
          · subst z
            have s0 := slot_live R.tab.ris a3
            rw [hsl] at s0
            injection s0 with s0
            rw [← s0, hp] at h0
            exact absurd ((congrArg Prod.fst (Option.some.inj h0)).trans hk0) hkk
          · omega
      by_cases hl : t.led = true
      · refine wp_if_neg (by simp [hl]) ?_
        try refine wpAny_bind (wpAny_pure ?_)
        exact rest
      · refine wp_if_pos (by simp [hl]) ?_
        refine wpAny_bind (seen_keys hx (fun y hy => ?_) ?_)
        · obtain ⟨e, he, rfl⟩ := List.mem_map.mp hy
          have he1 : e ∈ es ∧ e.1 = hN P w k := by simpa using he
          have he2 : e ∈ es.toList := by simpa using he1.1
          rw [R.rows] at he2
          obtain ⟨p2, hp2, rfl⟩ := List.mem_map.mp he2
          exact ⟨p2.1, p2.2, rfl, R.key p2 hp2⟩
        · refine wp_if_neg (by decide) ?_
          try refine wpAny_bind (wpAny_pure ?_)
          exact rest
    · rw [show t.probe (fun i => (es[i]?.map (·.1)).getD 0) (hN P w k) (stand.getD (t.probeStart (hN P w k))) = some (.empty (way t.mask (hN P w k) K) none) by
        rw [hst, show way t.mask (hN P w k) K = (nth t.mask (stp t (hN P w k) c) (K - c)).j by rw [ej, show c + (K - c) = K by omega]]
        exact hpr]
      dsimp only
      refine wpAny_pure (hout fun hm => ?_)
      obtain ⟨p0, h0, hk0⟩ := List.mem_map.mp hm
      obtain ⟨i0, hi0, e0⟩ := List.getElem_of_mem h0
      have h00 : L[i0]? = some p0 := by rw [List.getElem?_eq_getElem hi0, e0]
      obtain ⟨c', a1, a2, a3⟩ := hre i0 p0 h00 hk0
      exact hno (c' - c) i0 (by omega) (by rw [ej, show c + (c' - c) = c' by omega]; exact a3) ((hash i0 p0 h00).trans (congrArg (hN P w) hk0))
theorem srch_at (R : SetN P w s.heap a L es ep t) {x : Addr} {k : NestedKey} (hx : IsN P w s.heap k x) (hu : (nestedKind P w).room A) {Q : SetFound → Shared → Prop} (hin : k ∈ L.map (·.1) → Q (.there none) s)
    (hout : ∀ K, k ∉ L.map (·.1) → way t.mask (hN P w k) K ∉ t.place.toList → (∀ c, c < K → way t.mask (hN P w k) c ∈ t.place.toList) → Q (.free (way t.mask (hN P w k) K) false) s) : wpAny (model P w) A (setSearch a (.ref x) (hN P w k) true) Q E s := by
  have hroom := R.room
  obtain ⟨K, hKf, hK, hKb⟩ := R.tab.first (by rw [List.length_map]; omega) (hN P w k)
  have hbig : K < 100000 := by
    have : 10 * SetTable.turns t.mask ≤ 1420 := by
      unfold SetTable.turns
      rcases R.tab.mok with e | e | e <;> omega
    omega
  unfold setSearch
  refine srch R hx hu hKf hK hKb hin (fun hn => hout K hn hK hKb) 100000 0 none rfl (Nat.zero_le _) (by omega) fun i p hp hk => ?_
  have hil : i < t.place.toList.length := by
    have h1 : i < L.length := (List.getElem?_eq_some_iff.mp hp).1
    have h2 := R.tab.sz
    rw [List.length_map] at h2
    rw [Array.length_toList]
    omega
  have hj := List.getElem?_eq_getElem hil
  obtain ⟨c, hc, e⟩ := R.tab.before hK (by rw [List.getElem?_map, hp, ← hk]; rfl) hj
  exact ⟨c, Nat.zero_le _, hc, by rw [hj, e]⟩
end
end K25
/-! sets of nested tuples: adding -/
namespace K25
open PySem PySem.Spec PyProof.Rows L2
section
variable {P : Program} {w : World} {A : Around} {E : Value → Shared → Prop} {s : Shared} {a : Addr} {L : LN} {es : Array (Int × Value)} {ep : Nat} {t : SetTable}
theorem TabOk.off {hs : List Int} (T : TabOk t hs) : TabOk { t with plain := false } hs := ⟨T.ris, T.dm, T.sz, T.mok, T.bd, T.reach⟩
theorem range_get {α : Type} (L : List α) : (List.range L.length).filterMap (fun i => L[i]?) = L := PySem.List.filterMap_getElem?_range_length L
/-- the rows taken in another order -/
theorem rowsN_order {order : Array Nat} (hr : es.toList = rowsN P w L) (hp : order.toList.Perm (List.range L.length)) :
    ∃ L2 : LN, (order.filterMap (es[·]?)).toList = rowsN P w L2 ∧ L2.Perm L ∧ (L2.map fun p => hN P w p.1) = order.toList.map fun i => (es.map (·.1)).getD i 0 := by
  have hz := rowsN_len hr
  have key : ∀ l : List Nat, (∀ i ∈ l, i < L.length) → l.filterMap (fun i => es[i]?) = rowsN P w (l.filterMap fun i => L[i]?) ∧ ((l.filterMap fun i => L[i]?).map fun p => hN P w p.1) = l.map fun i => (es.map (·.1)).getD i 0 := by
    intro l
    induction l with
    | nil => intro _; exact ⟨rfl, rfl⟩
    | cons i l ih =>
      intro hl
      have hi := hl i List.mem_cons_self
      obtain ⟨e1, e2⟩ := ih fun j hj => hl j (List.mem_cons_of_mem _ hj)
      have hL : L[i]? = some L[i] := List.getElem?_eq_getElem hi
      have hE := rowsN_at hr hL
      have hd : (es.map (·.1)).getD i 0 = hN P w L[i].1 := by
        rw [Array.getD_eq_getD_getElem?, Array.getElem?_map, hE]
        rfl
      rw [List.filterMap_cons_some hE, List.filterMap_cons_some hL, e1, List.map_cons, List.map_cons, e2, hd]
      exact ⟨rfl, rfl⟩
  obtain ⟨e1, e2⟩ := key order.toList fun i hi => List.mem_range.mp (hp.mem_iff.mp hi)
  refine ⟨_, by rw [Array.toList_filterMap]; exact e1, ?_, e2⟩
  have q := hp.filterMap fun i => L[i]?
  rw [range_get] at q
  exact q
/-- what stands behind the put, ahead of a wider table -/
structure PreN (P : Program) (w : World) (h : Heap) (a : Addr) (L : LN) (es : Array (Int × Value)) (ep : Nat) (t : SetTable) : Prop where
  ob : ∃ o, h.get? a = some o ∧ o.ExactSet ∧ o.data = .set es ep t
  rows : es.toList = rowsN P w L
  tab : TabOk t (L.map fun p => hN P w p.1)
  nd : (L.map (·.1)).Nodup
  key : ∀ p ∈ L, IsN P w h p.1 p.2
  led : w.params.followText "set-order" = true ∨ t.led = true
  fit : L.length ≤ t.mask
  few : L.length < 64
theorem widen (R : PreN P w s.heap a L es ep t) {wanted M : Nat} (hw : SetTable.sizeAbove wanted - 1 = M) (hM : MaskOk M) (hw2 : SetTable.sizeAbove wanted ≤ 128) (hn : L.length * 5 < M * 3) {Q : Unit → Shared → Prop}
    (hQ : ∀ h' L' es' ep' t', Heap.SameBut a s.heap h' → SetN P w h' a L' es' ep' t' → L'.Perm L → Q () { s with heap := h' }) : wpAny (model P w) A (setRelay a wanted) Q E s := by
  obtain ⟨o, ho, hex, hd⟩ := R.ob
  have hsl := rowsN_len R.rows
  have h1 := R.tab.sz
  rw [List.length_map] at h1
  have hfew := R.few
  obtain ⟨t', order, e, hp, T, em, el, _, _⟩ := relaid_ok t (hs := es.map (·.1)) (wanted := wanted) hw hM (by rw [Array.size_map, hsl]; omega)
  rw [Array.size_map, hsl] at hp
  obtain ⟨L2, r1, r2, r3⟩ := rowsN_order R.rows hp
  rw [← r3] at T
  have hs2 : (order.filterMap (es[·]?)).size = es.size := by rw [rowsN_len r1, r2.length_eq, hsl]
  rw [setRelay_eq]
  refine wpAny_bind (wpAny_setState_of ho hd (fits_of (by omega) R.tab.dm (by have := R.fit; omega)) ?_)
  dsimp only
  refine wp_if_neg (by rw [sizeLine_eq]; omega) ?_
  try refine wpAny_bind (wpAny_pure ?_)
  rw [e]
  dsimp only
  refine wpAny_bind ?_
  refine wp_if_neg (by rw [hs2]; simp) ?_
  try refine wpAny_bind (wpAny_pure ?_)
  refine wpAny_pure ?_
  dsimp only
  refine wpAny_storeSet_of ho hd ?_ (by rw [hs2, hsl, sizeLine_eq]; omega)
  have sb : Heap.SameBut a s.heap (s.heap.update a (Obj.putSet (order.filterMap (es[·]?)) t')) := Heap.SameBut.update ..
  exact hQ _ L2 _ _ t' sb ⟨⟨_, store_at ho hd, ⟨hex.1, hex.2.1, hex.2.2⟩, rfl⟩, r1, T, (r2.map (·.1)).nodup_iff.mpr R.nd, fun p hpm => isN_set (R.key p (r2.mem_iff.mp hpm)) ho hd sb, by rw [el]; exact R.led, by rw [r2.length_eq, em]; exact hn, by rw [r2.length_eq]; exact hfew⟩ r2
theorem addN (R : SetN P w s.heap a L es ep t) {x : Addr} {k : NestedKey} (hx : IsN P w s.heap k x) (hu : (nestedKind P w).room A) (hfew : L.length + 1 < 64) {Q : Bool → Shared → Prop}
    (hQ : ∀ b h' L' es' ep' t', Heap.SameBut a s.heap h' → SetN P w h' a L' es' ep' t' → (k ∈ L.map (·.1) → L' = L) → (k ∉ L.map (·.1) → L'.Perm ((k, x) :: L)) → Q b { s with heap := h' }) : wpAny (model P w) A (setAddHashed a (.ref x) (hN P w k)) Q E s := by
  obtain ⟨o, ho, hex, hd⟩ := R.ob
  have hsl := rowsN_len R.rows
  have hroom := R.room
  unfold setAddHashed
  refine wpAny_holding ?_
  rw [show (100000 : Nat) = 99999 + 1 from rfl, setAddHashedIn_succ]
  refine wpAny_bind (wpAny_setState_of ho hd R.fits ?_)
  dsimp only
  refine wp_if_neg (by simp [byScan, Value.scannable]) ?_
  try refine wpAny_bind (wpAny_pure ?_)
  refine wpAny_bind (srch_at R hx hu (fun hm => wpAny_pure (hQ false s.heap L es ep t (Heap.SameBut.refl a s.heap) R (fun _ => rfl) fun z => absurd hm z)) fun K hm hK hb => ?_)
  dsimp only
  refine wpAny_bind (wpAny_setState_of ho hd R.fits ?_)
  dsimp only
  obtain ⟨q1, q2, q3, q4, q5, q6, q7, q8, q9⟩ := R.tab.put hK hb
  generalize hpt : t.put (way t.mask (hN P w k) K) = pt at q1 q3 q4 q5 q6 q7 q8 q9 ⊢
  obtain ⟨t1, p⟩ := pt
  dsimp only at q1 q3 q4 q5 q6 q7 q8 q9 ⊢
  subst q1
  have hin : (SetTable.insertAt es (SetTable.below t.place (way t.mask (hN P w k) K)) (hN P w k, Value.ref x)).toList = rowsN P w (L.take (SetTable.below t.place (way t.mask (hN P w k) K)) ++ (k, x) :: L.drop (SetTable.below t.place (way t.mask (hN P w k) K))) := by
    rw [SetTable.toList_insertAt, R.rows]
    unfold rowsN
    rw [List.map_append, List.map_cons, List.map_take, List.map_drop]
  generalize SetTable.below t.place (way t.mask (hN P w k) K) = p at q2 q3 hin ⊢
  have pm := put_perm L p (k, x)
  have hhs : (L.take p ++ (k, x) :: L.drop p).map (fun p => hN P w p.1) = (L.map fun p => hN P w p.1).take p ++ hN P w k :: (L.map fun p => hN P w p.1).drop p := by
    rw [List.map_append, List.map_cons, List.map_take, List.map_drop]
  rw [← hhs] at q3
  generalize SetTable.insertAt es p (hN P w k, Value.ref x) = es1 at hin ⊢
  generalize L.take p ++ (k, x) :: L.drop p = L1 at pm q3 hin
  have hlen : L1.length = L.length + 1 := pm.length_eq
  have hes := rowsN_len hin
  have nd1 : (L1.map (·.1)).Nodup := (pm.map (·.1)).nodup_iff.mpr (by rw [List.map_cons]; exact List.nodup_cons.mpr ⟨hm, R.nd⟩)
  -- behind the put, whatever the table's mark
  have fin : ∀ (t2 : SetTable), TabOk t2 (L1.map fun p => hN P w p.1) → t2.mask = t.mask → t2.led = t.led → t2.fill = L.length + 1 → wpAny (model P w) A (do
      storeSet a es1 t2
      if (!false && t2.tooFull) = true then setRelay a (SetTable.grown (es.size + 1))
      return true) Q E s := fun t2 T2 em el efl => by
    refine wpAny_bind (wpAny_storeSet_of ho hd ?_ (by rw [hes, sizeLine_eq]; omega))
    have sb : Heap.SameBut a s.heap (s.heap.update a (Obj.putSet es1 t2)) := Heap.SameBut.update ..
    have ho1 := store_at (es' := es1) (t' := t2) ho hd
    have led1 : w.params.followText "set-order" = true ∨ t2.led = true := by rw [el]; exact R.led
    have key1 : ∀ p ∈ L1, IsN P w (s.heap.update a (Obj.putSet es1 t2)) p.1 p.2 := fun p hp => by
      rcases List.mem_cons.mp (pm.mem_iff.mp hp) with e | hp
      · rw [e]
        exact isN_set hx ho hd sb
      · exact isN_set (R.key p hp) ho hd sb
    have ob1 : ∃ o, (s.heap.update a (Obj.putSet es1 t2)).get? a = some o ∧ o.ExactSet ∧ o.data = .set es1 (ep + 1) t2 := ⟨_, ho1, ⟨hex.1, hex.2.1, hex.2.2⟩, rfl⟩
    by_cases hf : t2.tooFull = true
    · have hfull : (L.length + 1) * 5 ≥ t2.mask * 3 := by
        have h := hf
        unfold SetTable.tooFull at h
        rw [decide_eq_true_eq, efl] at h
        exact h
      have cases2 : (t.mask = 7 ∧ L.length = 4) ∨ (t.mask = 31 ∧ L.length = 18) := by
        rcases R.tab.mok with e | e | e
        · left; rw [em, e] at hfull; rw [e] at hroom; exact ⟨e, by omega⟩
        · right; rw [em, e] at hfull; rw [e] at hroom; exact ⟨e, by omega⟩
        · exfalso; rw [em, e] at hfull; omega
      have go : ∀ M, SetTable.sizeAbove (SetTable.grown (L.length + 1)) - 1 = M → MaskOk M → SetTable.sizeAbove (SetTable.grown (L.length + 1)) ≤ 128 → (L.length + 1) * 5 < M * 3 →
          wpAny (model P w) A (setRelay a (SetTable.grown (L.length + 1))) (fun _ s' => wpAny (model P w) A (pure true) Q E s') E { s with heap := s.heap.update a (Obj.putSet es1 t2) } := fun M h1 h2 h3 h4 => by
        refine widen (s := { s with heap := s.heap.update a (Obj.putSet es1 t2) }) ⟨ob1, hin, T2, nd1, key1, led1, by rw [hlen, em]; rcases cases2 with ⟨e, e2⟩ | ⟨e, e2⟩ <;> omega, by rw [hlen]; exact hfew⟩ h1 h2 h3 (by rw [hlen]; exact h4) ?_
        intro h' L2 es2 ep2 t3 sb2 R2 pm2
        exact wpAny_pure (hQ true h' L2 es2 ep2 t3 (sb.trans sb2) R2 (fun z => absurd z hm) fun _ => pm2.trans pm)
      first
        | (refine wpAny_bind ?_; refine wp_if_pos (by simp [hf]) ?_)
        | (refine wp_if_pos (by simp [hf]) ?_; refine wpAny_bind ?_)
      rw [hsl]
      rcases cases2 with ⟨_, e2⟩ | ⟨_, e2⟩
      · exact go 31 (by rw [e2, size_20]) (.inr (.inl rfl)) (by rw [e2, size_20]; decide) (by omega)
      · exact go 127 (by rw [e2, size_76]) (.inr (.inr rfl)) (by rw [e2, size_76]; decide) (by omega)
    · have hroom1 : L1.length * 5 < t2.mask * 3 := by
        have h := hf
        unfold SetTable.tooFull at h
        rw [decide_eq_true_eq, efl] at h
        rw [hlen]
        omega
      have done := hQ true _ L1 es1 (ep + 1) t2 sb ⟨ob1, hin, T2, nd1, key1, led1, hroom1, by rw [hlen]; exact hfew⟩ (fun z => absurd z hm) fun _ => pm
      first
        | (refine wp_if_neg (by simp [hf]) ?_; exact wpAny_pure done)
        | (refine wpAny_bind ?_; refine wp_if_neg (by simp [hf]) ?_; exact wpAny_pure (wpAny_pure done))
  have e9 : t1.fill = L.length + 1 := by rw [q9, List.length_map]
  by_cases hpl : t1.plain = true
  · refine wp_if_pos hpl (wpAny_bind (hash_key k _ 8 s _ hx.1 fun b => ?_))
    cases b with
    | true =>
      simp only [if_true]
      exact fin t1 q3 q4 q5 e9
    | false =>
      simp only [Bool.false_eq_true, if_false]
      exact fin _ (TabOk.off q3) q4 q5 e9
  · refine wp_if_neg hpl (wpAny_bind (wpAny_pure ?_))
    simp only [if_true]
    exact fin t1 q3 q4 q5 e9
end
end K25
/-! sorted lists of keys -/
namespace K25
open PySem PySem.Spec PyProof.Rows L2
/-! ### the order -/
def ltK (a b : NestedKey) : Prop := PySem.W.dataLt a.data b.data = true
/-- the sorted list -/
def srt (ks : List NestedKey) : List NestedKey := ks.mergeSort (PySem.W.dataLe false NestedKey.data)
/-- keys of one kind, that a sort takes -/
def Alk (ks : List NestedKey) : Prop := PySem.W.AllAlike (ks.map NestedKey.data) ∧ PySem.W.Sortable (ks.map NestedKey.data)
theorem ltK_irr (a : NestedKey) : ¬ ltK a a := fun h => by
  have q := lex_irrefl (O := itemOrd) (PySem.W.keyToks a.data)
  unfold ltK PySem.W.dataLt at h
  rw [q] at h
  cases h
theorem ltK_tr {a b c : NestedKey} (h1 : ltK a b) (h2 : ltK b c) : ltK a c := lex_trans (O := itemOrd) _ _ _ h1 h2
theorem leK_def (a b : NestedKey) : PySem.W.dataLe false NestedKey.data a b = !PySem.W.dataLt b.data a.data := rfl
theorem toks_inj {x y : PyData} (h : PySem.W.alike x y = true) (e : PySem.W.keyToks x = PySem.W.keyToks y) : PyData.eqv x y = true := by
  cases q : PyData.eqv x y with
  | true => rfl
  | false =>
    have z := (PySem.W.toks_eqv x y h).2 q [] [.inl 0]
    rw [e, PySem.W.lex_pre, lex_irrefl] at z
    exact absurd z (by decide)
/-- not below one another: the same -/
theorem ltK_tot {a b : NestedKey} (h : PySem.W.alike a.data b.data = true) (h1 : ¬ ltK a b) (h2 : ¬ ltK b a) : a = b := by
  have e : PySem.W.keyToks a.data = PySem.W.keyToks b.data := lex_total (O := itemOrd) _ _ (Bool.not_eq_true _ ▸ h1) (Bool.not_eq_true _ ▸ h2)
  have q := toks_inj h e
  rw [data_dec] at q
  exact of_decide_eq_true q
theorem srt_perm (ks : List NestedKey) : (srt ks).Perm ks := List.mergeSort_perm ..
theorem srt_mem {ks : List NestedKey} {k : NestedKey} : k ∈ srt ks ↔ k ∈ ks := (srt_perm ks).mem_iff
theorem srt_len (ks : List NestedKey) : (srt ks).length = ks.length := (srt_perm ks).length_eq
theorem srt_pw (ks : List NestedKey) : (srt ks).Pairwise fun a b => ¬ ltK b a := by
  have q := List.pairwise_mergeSort (le := PySem.W.dataLe false NestedKey.data) (fun a b c h1 h2 => ?_) (fun a b => ?_) ks
  · refine q.imp fun {a b} h => ?_
    rw [leK_def] at h
    intro z
    unfold ltK at z
    rw [z] at h
    cases h
  · rw [leK_def] at h1 h2 ⊢
    cases z : PySem.W.dataLt c.data a.data with
    | false => rfl
    | true =>
      rcases lex_negTrans (O := itemOrd) (PySem.W.keyToks c.data) (PySem.W.keyToks b.data) (PySem.W.keyToks a.data) z with y | y
      · have y' : PySem.W.dataLt c.data b.data = true := y
        rw [y'] at h2
        cases h2
      · have y' : PySem.W.dataLt b.data a.data = true := y
        rw [y'] at h1
        cases h1
  · rw [leK_def, leK_def]
    cases z : PySem.W.dataLt b.data a.data with
    | false => rfl
    | true =>
      cases y : PySem.W.dataLt a.data b.data with
      | false => rfl
      | true => exact absurd (ltK_tr (show ltK a b from y) (show ltK b a from z)) (ltK_irr a)
/-- strictly rising -/
def Srt (ks : List NestedKey) : Prop := ks.Pairwise ltK
theorem Srt.nodup {ks : List NestedKey} (h : Srt ks) : ks.Nodup := List.Pairwise.imp (S := fun a b => a ≠ b) (fun {a b} (q : ltK a b) (e : a = b) => ltK_irr a (by rw [← e] at q; exact q)) h
theorem srt_srt {ks : List NestedKey} (ha : PySem.W.AllAlike (ks.map NestedKey.data)) (hn : ks.Nodup) : Srt (srt ks) := by
  have h1 : (srt ks).Nodup := (srt_perm ks).nodup_iff.mpr hn
  have h2 := srt_pw ks
  have h3 : ∀ a ∈ srt ks, ∀ b ∈ srt ks, PySem.W.alike a.data b.data = true := fun a h b h' => ha _ (List.mem_map.mpr ⟨a, srt_mem.mp h, rfl⟩) _ (List.mem_map.mpr ⟨b, srt_mem.mp h', rfl⟩)
  unfold Srt
  generalize srt ks = l at h1 h2 h3
  induction l with
  | nil => exact .nil
  | cons x l ih =>
    obtain ⟨n1, n2⟩ := List.nodup_cons.mp h1
    obtain ⟨p1, p2⟩ := List.pairwise_cons.mp h2
    refine List.pairwise_cons.mpr ⟨fun y hy => ?_, ih n2 p2 fun a ha' b hb => h3 a (List.mem_cons_of_mem _ ha') b (List.mem_cons_of_mem _ hb)⟩
    rcases Classical.em (ltK x y) with z | z
    · exact z
    · exact absurd (ltK_tot (h3 x List.mem_cons_self y (List.mem_cons_of_mem _ hy)) z (p1 y hy)) fun e => n1 (e ▸ hy)
/-- a strictly rising list is told by its members -/
theorem Srt.ext : ∀ {xs ys : List NestedKey}, Srt xs → Srt ys → (∀ k, k ∈ xs ↔ k ∈ ys) → xs = ys
  | [], [], _, _, _ => rfl
  | [], y :: ys, _, _, h => absurd ((h y).mpr List.mem_cons_self) (by simp)
  | x :: xs, [], _, _, h => absurd ((h x).mp List.mem_cons_self) (by simp)
  | x :: xs, y :: ys, hx, hy, h => by
    obtain ⟨x1, x2⟩ := List.pairwise_cons.mp hx
    obtain ⟨y1, y2⟩ := List.pairwise_cons.mp hy
    have e : x = y := by
      rcases List.mem_cons.mp ((h x).mp List.mem_cons_self) with z | z
      · exact z
      · rcases List.mem_cons.mp ((h y).mpr List.mem_cons_self) with u | u
        · exact u.symm
        · exact absurd (ltK_tr (x1 y u) (y1 x z)) (ltK_irr x)
    subst e
    have e2 : xs = ys := Srt.ext x2 y2 fun k => by
      constructor
      · intro hk
        rcases List.mem_cons.mp ((h k).mp (List.mem_cons_of_mem _ hk)) with z | z
        · subst z
          exact absurd (x1 k hk) (ltK_irr k)
        · exact z
      · intro hk
        rcases List.mem_cons.mp ((h k).mpr (List.mem_cons_of_mem _ hk)) with z | z
        · subst z
          exact absurd (y1 k hk) (ltK_irr k)
        · exact z
    rw [e2]
theorem srt_perm_eq {ks js : List NestedKey} (ha : PySem.W.AllAlike (ks.map NestedKey.data)) (hn : ks.Nodup) (p : js.Perm ks) : srt js = srt ks := by
  refine Srt.ext (srt_srt (fun d hd d' hd' => ha d (((p.map NestedKey.data).mem_iff).mp hd) d' (((p.map NestedKey.data).mem_iff).mp hd')) (p.nodup_iff.mpr hn)) (srt_srt ha hn) fun k => ?_
  rw [srt_mem, srt_mem, p.mem_iff]
theorem Srt.fix {ks : List NestedKey} (ha : PySem.W.AllAlike (ks.map NestedKey.data)) (h : Srt ks) : srt ks = ks := Srt.ext (srt_srt ha h.nodup) h fun k => srt_mem

/-! ### kinds of keys -/
theorem alk_of {p : NestedKey → Prop} {ks : List NestedKey} (h : ∀ k ∈ ks, p k) (al : ∀ a b, p a → p b → PySem.W.alike a.data b.data = true) (so : (∀ a, p a → ∃ x r, a.data = .tuple (x :: r)) ∨ ∀ a, p a → a.data ≠ .none ∧ ∀ xs, a.data ≠ .tuple xs) : Alk ks := by
  refine ⟨fun d hd d' hd' => ?_, ?_⟩
  · obtain ⟨a, ha, rfl⟩ := List.mem_map.mp hd
    obtain ⟨b, hb, rfl⟩ := List.mem_map.mp hd'
    exact al a b (h a ha) (h b hb)
  · rcases so with so | so
    · refine .inl fun d hd => ?_
      obtain ⟨a, ha, rfl⟩ := List.mem_map.mp hd
      exact so a (h a ha)
    · refine .inr fun d hd => ?_
      obtain ⟨a, ha, rfl⟩ := List.mem_map.mp hd
      exact so a (h a ha)
theorem alk_nums (ns : List Int) : Alk (ns.map .num) := alk_of (p := fun k => ∃ i, k = .num i) (fun k hk => by obtain ⟨i, _, rfl⟩ := List.mem_map.mp hk; exact ⟨i, rfl⟩)
  (fun a b ⟨i, hi⟩ ⟨j, hj⟩ => by subst hi; subst hj; rfl) (.inr fun a ⟨i, hi⟩ => by subst hi; exact ⟨fun z => (by cases z), fun xs z => (by cases z)⟩)
theorem alk_texts (ns : List Str) : Alk (ns.map .text) := alk_of (p := fun k => ∃ i, k = .text i) (fun k hk => by obtain ⟨i, _, rfl⟩ := List.mem_map.mp hk; exact ⟨i, rfl⟩)
  (fun a b ⟨i, hi⟩ ⟨j, hj⟩ => by subst hi; subst hj; rfl) (.inr fun a ⟨i, hi⟩ => by subst hi; exact ⟨fun z => (by cases z), fun xs z => (by cases z)⟩)
/-! ### the rules -/
section
variable {X : Cx} {pins : List (Addr × Obj)} {σ : L2.St} {H : Hp} {s : Shared}
mutual
theorem Nk.reads (I : Inv X pins σ H s) : ∀ (k : NestedKey) (v : V) (u : Value), Nk X.K H v k → RelV v u → Reads s.heap u k.data []
  | .none, _, _, h, _ => by cases h
  | .num i, _, _, h, r => by
    cases h
    obtain ⟨t, rfl⟩ := r
    exact .int i t
  | .text x, _, _, h, r => by
    cases h
    obtain ⟨t, rfl⟩ := r
    exact .str x t
  | .tup ks, _, _, h, r => by
    cases h with
    | tup h1 h2 =>
      cases r
      obtain ⟨its, rv, ⟨o, ho, hc, n, hd⟩, _⟩ := I.tuple h1
      exact .tuple ho hc hd (by simpa using NkA.reads I ks _ its h2 rv)
theorem NkA.reads (I : Inv X pins σ H s) : ∀ (ks : List NestedKey) (vs : List V) (us : List Value), NkA X.K H vs ks → Vals vs us → ReadsAll s.heap us (NestedKey.datas ks) []
  | [], _, _, h, r => by
    cases h
    cases r
    exact .nil
  | k :: ks, _, _, h, r => by
    cases h with
    | cons h1 h2 =>
      cases r with
      | cons r1 r2 => exact .cons (Nk.reads I k _ _ h1 r1) (NkA.reads I ks _ _ h2 r2)
end
/-- a value that stands for the key k -/
def StK (K : PySem.W.Frag) (H : Hp) (u : Value) (k : NestedKey) : Prop := ∃ v, RelV v u ∧ Nk K H v k
theorem stk_each {K : PySem.W.Frag} : ∀ {ks : List NestedKey} {vs : List V} {us : List Value}, NkA K H vs ks → Vals vs us → PySem.W.EachIs (StK K H) us ks
  | [], _, _, h, r => by
    cases h
    cases r
    exact .nil
  | k :: ks, _, _, h, r => by
    cases h with
    | cons h1 h2 =>
      cases r with
      | cons r1 r2 => exact .cons ⟨_, r1, h1⟩ (stk_each h2 r2)
theorem each_stk {K : PySem.W.Frag} : ∀ {ks : List NestedKey} {us : List Value}, PySem.W.EachIs (StK K H) us ks → ∃ vs, Vals vs us ∧ NkA K H vs ks
  | _, _, .nil => ⟨[], .nil, .nil⟩
  | _, _, .cons ⟨v, r, n⟩ t => by
    obtain ⟨vs, rs, ns⟩ := each_stk t
    exact ⟨v :: vs, .cons r rs, .cons n ns⟩
theorem each_len {α β : Type} {R : α → β → Prop} : ∀ {us : List α} {ks : List β}, PySem.W.EachIs R us ks → us.length = ks.length
  | _, _, .nil => rfl
  | _, _, .cons _ t => congrArg Nat.succ (each_len t)
theorem each_imp {α β : Type} {R R' : α → β → Prop} (f : ∀ a b, R a b → R' a b) : ∀ {us : List α} {ks : List β}, PySem.W.EachIs R us ks → PySem.W.EachIs R' us ks
  | _, _, .nil => .nil
  | _, _, .cons h t => .cons (f _ _ h) (each_imp f t)
theorem each_perm {α β : Type} {R : α → β → Prop} {us us' : List α} (p : us'.Perm us) : ∀ {ks : List β}, PySem.W.EachIs R us ks → ∃ ks', ks'.Perm ks ∧ PySem.W.EachIs R us' ks' := by
  induction p with
  | nil => intro ks h; exact ⟨ks, .refl _, h⟩
  | cons x p ih =>
    intro ks h
    cases h with
    | cons h1 t =>
      obtain ⟨ks', p', e'⟩ := ih t
      exact ⟨_ :: ks', p'.cons _, .cons h1 e'⟩
  | swap x y l =>
    intro ks h
    cases h with
    | cons h1 t =>
      cases t with
      | cons h2 t => exact ⟨_ :: _ :: _, .swap _ _ _, .cons h2 (.cons h1 t)⟩
  | trans p1 p2 ih1 ih2 =>
    intro ks h
    obtain ⟨k1, q1, e1⟩ := ih2 h
    obtain ⟨k2, q2, e2⟩ := ih1 e1
    exact ⟨k2, q2.trans q1, e2⟩
theorem depth_le {n : Nat} {ks : List NestedKey} (h : ∀ k ∈ ks, k.depth ≤ 8) (hn : n + 2 + 8 < cLine) : ∀ k ∈ ks, n + 2 + k.data.depth < cLine := fun k hk => by
  rw [data_depth]
  have := h k hk
  omega
/-- sorted(l), l a list of keys -/
def rSortK (K : PySem.W.Frag) : List V → Hp → VK → Prop := fun xs H Q => ∃ a vs ks, xs = [.ref a] ∧ SqL K H a vs ∧ NkA K H vs ks ∧ Alk ks ∧ (∀ k ∈ ks, k.depth ≤ 8) ∧ ∀ us p, NkA K H us (srt ks) → H p = none → Q (.ref p) (upd H p (.lst us))
theorem call_sortedK {n : Nat} (hc : X.calm = true) (hr : Room n X.A) : CallR X (.builtin "sorted") (rSortK X.K) := by
  intro pins s σ H xs us Q I r h
  obtain ⟨a, vs, ks, rfl, hs, hk, ⟨al, so⟩, hd, q⟩ := h
  obtain ⟨u, rfl, r1⟩ := r.one
  cases r1
  obtain ⟨its, rv, pl, hz⟩ := I.list hs
  have hu := hr.un
  have hl : ks.length ≤ sizeLine := by rw [← hk.length]; exact hz
  refine PySem.W.sorted_data (enc := NestedKey.data) (R := StK X.K H) pl.isList (stk_each hk rv) (each_imp (fun v k ⟨x, rx, nx⟩ => ⟨[], Nk.reads I k x v nx rx⟩) (stk_each hk rv)) al so hl (depth_le hd (by omega)) fun out ho e => ?_
  obtain ⟨ws, rw', nw⟩ := each_stk e
  obtain ⟨c, hc'⟩ := sortedAll_at s.heap its out.toArray
  have hsz : ws.length ≤ sizeLine := by rw [nw.length]; rw [show (ks.mergeSort (PySem.W.dataLe false NestedKey.data)).length = ks.length from srt_len ks]; exact hl
  have new : ObjOk X.prog X.w (upd H (s.heap.objs.size + 1) (.lst ws)) (sortedAll s.heap its out.toArray) (s.heap.objs.size + 1) (.lst ws) := ⟨hsz, out, c, rw', hc'⟩
  exact ⟨.ref (s.heap.objs.size + 1), _, I.laid (t' := s.toks) (fun b o e => sortedAll_old e) (Nat.le_succ _) new, rfl, q ws _ nw (I.hok.fresh (Nat.le_succ _))⟩
end
end K25
/-! sets: the rules -/
namespace K25
open PySem PySem.Spec PyProof.Rows L2
def toN : Key → NestedKey
  | .inl i => .num i
  | .inr x => .text x
theorem toN_inj {a b : Key} (h : toN a = toN b) : a = b := by
  cases a <;> cases b <;> simp [toN] at h <;> rw [h]
theorem toN_nk (K : PySem.W.Frag) (H : Hp) (k : Key) : Nk K H (kV k) (toN k) := by
  cases k with
  | inl i => exact .num i
  | inr x => exact .text x
theorem kV_keyIs {k : Key} {u : Value} (r : RelV (kV k) u) : keyIs k u = true := by
  cases k with
  | inl i => obtain ⟨t, rfl⟩ := r; exact keyIs_int i t
  | inr x => obtain ⟨t, rfl⟩ := r; exact keyIs_str x t
theorem keyIs_rel {k : Key} {u : Value} (h : keyIs k u = true) : RelV (kV k) u := by
  rcases keyIs_shape h with ⟨i, t, rfl, rfl⟩ | ⟨x, t, rfl, rfl⟩
  · exact ⟨t, rfl⟩
  · exact ⟨t, rfl⟩
/-- a set of scalars -/
def SKO (w : World) (a : Addr) (ks : List Key) : HO := .ext fun h => SetM w h a ks
theorem sko_ok {P : Program} {w : World} {H : Hp} {h : Heap} {a : Addr} {ks : List Key} (R : SetM w h a ks) : ObjOk P w H h a (SKO w a ks) := by
  refine ⟨R, ?_, fun h1 h2 r k => r.keep k⟩
  obtain ⟨o, _, _, _, ho, _⟩ := R
  exact ⟨o, ho⟩
/-- a set of nested tuples -/
structure SetN0 (P : Program) (w : World) (h : Heap) (a : Addr) (L : LN) (es : Array (Int × Value)) (ep : Nat) (t : SetTable) : Prop where
  ob : ∃ o, h.get? a = some o ∧ o.ExactSet ∧ o.data = .set es ep t
  rows : es.toList = rowsN P w L
  tab : TabOk t (L.map fun p => hN P w p.1)
  nd : (L.map (·.1)).Nodup
  led : w.params.followText "set-order" = true ∨ t.led = true
  room : L.length * 5 < t.mask * 3
  few : L.length < 64
def SNO (P : Program) (w : World) (a : Addr) (L : LN) : HO := .ext fun h => ∃ es ep t, SetN0 P w h a L es ep t
theorem SetN.n0 {P : Program} {w : World} {h : Heap} {a : Addr} {L : LN} {es : Array (Int × Value)} {ep : Nat} {t : SetTable} (R : SetN P w h a L es ep t) : SetN0 P w h a L es ep t := ⟨R.ob, R.rows, R.tab, R.nd, R.led, R.room, R.few⟩
theorem sno_ok {P : Program} {w : World} {H : Hp} {h : Heap} {a : Addr} {L : LN} {es : Array (Int × Value)} {ep : Nat} {t : SetTable} (R : SetN0 P w h a L es ep t) : ObjOk P w H h a (SNO P w a L) := by
  refine ⟨⟨es, ep, t, R⟩, ?_, fun h1 h2 ⟨es, ep, t, r⟩ k => ?_⟩
  · obtain ⟨o, ho, _⟩ := R.ob
    exact ⟨o, ho⟩
  · obtain ⟨o, ho, q⟩ := r.ob
    exact ⟨es, ep, t, ⟨o, k o ho, q⟩, r.rows, r.tab, r.nd, r.led, r.room, r.few⟩
section
variable {X : Cx} {pins : List (Addr × Obj)} {σ : L2.St} {H : Hp} {s : Shared}
/-- set.add of a scalar -/
theorem add_call {A : Around} {E : Value → Shared → Prop} {P : Program} {w : World} {a : Addr} {ks : List Key} {k : Key} {v : Value} {Q : Value → Shared → Prop} (R : SetM w s.heap a ks) (hk : keyIs k v = true) (room : ks.length + 1 < scanBound)
    (hQ : ∀ h' tk, Heap.SameBut a s.heap h' → SetM w h' a (insK ks k) → Q .none { s with heap := h', toks := tk }) : wpAny (model P w) A (call (.builtin "set.add") [.ref a, v]) Q E s := by
  have hT : s.TypeIs (.ref a) "set" := by
    obtain ⟨o, _, _, _, ho, hx, _⟩ := R
    exact ⟨o, ho, hx.1⟩
  refine wpAny_call_entry F.slot_set_add hT F.entry_set_add ?_ (F.args_set_add_2 _ _)
  unfold Builtin.«set.add» Builtin.Frozenset.oneOther
  simp only [List.isEmpty_nil, bind_assoc]
  unfold Builtin.Frozenset.addrOf
  refine wpAny_bind (wpAny_pure ?_)
  try dsimp only
  refine wpAny_bind (wpAny_pure ?_)
  try dsimp only
  refine wpAny_bind (setM_add R hk room fun b h' sb r => ?_)
  show wpAny _ _ (ret Value.none) _ _ _
  exact wpAny_pure ⟨_, rfl, hQ h' _ sb r⟩
def tlS (w : World) (te : TE) : Addr → L2.St → Hp → (Hp → Prop) → Prop := fun D σ H Nx => te σ H fun y H1 => ∃ ks k, y = kV k ∧ H1 D = some (SKO w D ks) ∧ ks.length + 1 < scanBound ∧ Nx (upd H1 D (SKO w D (insK ks k)))
theorem pe_scK {n : Nat} {elt tg iter : Expr} {ifs : List Expr} {scope : Scope} {own : List (Str × Nat)} {pos : Pos} {wi : TI} {g : TG} {tt : TT} {te : TE} (hr : Room n X.A) (hc : X.calm = true) (hN : X.N.Nodup) (hi : PI X tg iter wi) (ok : BlkOk X.N X.env.scope scope own)
    (hg : ∀ (s : Shared) (H : Hp) (C : Addr) (cl : List (Str × Addr)) (fp : List Addr), PG (X.blk s H scope (compEnvC scope cl C X.env) fp) tg g) (ht : ∀ (s : Shared) (H : Hp) (C : Addr) (cl : List (Str × Addr)) (fp : List Addr), PTs (X.blk s H scope (compEnvC scope cl C X.env) fp) ifs tt)
    (he : ∀ (s : Shared) (H : Hp) (C : Addr) (cl : List (Str × Addr)) (fp : List Addr), PE (X.blk s H scope (compEnvC scope cl C X.env) fp) elt te) (hs : ∀ x, foldedSetIterable iter X.env x = pure x := by intro _; rfl) :
    PE X (.SetComp elt [⟨tg, iter, ifs, 0⟩] scope pos) (tCc (fun D => SKO X.w D []) wi g tt (tlS X.w te) (own.map (·.2))) := by
  refine ⟨fun pins s σ H Q I h => ?_⟩
  rw [arm_eval_SetComp]
  refine cc_core compK_S hc hN I hi ok (fun H s big => sko_ok (setM_fresh X.w)) hg ht (fun s0 H0 C cl fp D pins s1 σ1 H1 Nx post E J q fin => ?_) hs h fun D C s' m H' I' q hn f => ⟨m, hn, fun h'' sb => ?_⟩
  · refine thnF ((he s0 H0 C cl fp).run pins s1 σ1 H1 _ J q) fun yv s2 ⟨y, H2, J2, ry, ks, k, ey, hd, room, nx⟩ => ?_
    subst ey
    obtain ⟨R, _, _⟩ := (show ObjOk X.prog X.w H2 s2.heap D (SKO X.w D ks) from J2.hok D _ hd)
    refine add_call R (kV_keyIs ry) room fun h' tk sb r => ?_
    have hq : ∃ q, h'.get? D = some q := let ⟨q, _, _, _, hq, _⟩ := r; ⟨q, hq⟩
    exact fin _ _ (d_write J2 (by rw [hd]; exact True.intro) sb hq (sko_ok r)) nx
  · obtain ⟨f0, f1, f2, f3, f4, f5⟩ := f
    exact ⟨.ref D, H', I'.turned (t' := s'.toks) (fun b o hb e => (sb.2 b hb).trans e) f0 f1 f3 f4 f5, rfl, q⟩
/-- the members of a list, each once, in the order of their first places -/
noncomputable def insAll {κ : Type} (ks : List κ) : List κ → List κ
  | [] => ks
  | x :: xs => insAll (insK ks x) xs
theorem insK_mem {κ : Type} {ks : List κ} {k j : κ} : j ∈ insK ks k ↔ j ∈ ks ∨ j = k := by
  rcases Classical.em (k ∈ ks) with h | h
  · rw [insK_in h]
    exact ⟨.inl, fun q => q.elim id fun e => e ▸ h⟩
  · rw [insK_out h, List.mem_append, List.mem_singleton]
theorem insK_len {κ : Type} (ks : List κ) (k : κ) : (insK ks k).length ≤ ks.length + 1 := by
  rcases Classical.em (k ∈ ks) with h | h
  · rw [insK_in h]; omega
  · rw [insK_out h, List.length_append]; exact Nat.le_refl _
theorem insAll_snoc {κ : Type} : ∀ (xs : List κ) (ks : List κ) (x : κ), insAll ks (xs ++ [x]) = insK (insAll ks xs) x
  | [], _, _ => rfl
  | y :: ys, ks, x => insAll_snoc ys (insK ks y) x
theorem insAll_len {κ : Type} : ∀ (xs ks : List κ), (insAll ks xs).length ≤ ks.length + xs.length
  | [], _ => Nat.le_refl _
  | y :: ys, ks => by
    have h1 := insAll_len ys (insK ks y)
    have h2 := insK_len ks y
    show (insAll (insK ks y) ys).length ≤ _
    rw [List.length_cons]
    omega
theorem insAll_mem {κ : Type} {j : κ} : ∀ {xs ks : List κ}, j ∈ insAll ks xs ↔ j ∈ ks ∨ j ∈ xs
  | [], ks => by simp [insAll]
  | y :: ys, ks => by
    show j ∈ insAll (insK ks y) ys ↔ _
    rw [insAll_mem, insK_mem, List.mem_cons, or_assoc]
/-- set(l), scalars -/
def rSetK (K : PySem.W.Frag) (w : World) : List V → Hp → VK → Prop := fun xs H Q => ∃ a ks, xs = [.ref a] ∧ SqL K H a (ks.map kV) ∧ ks.length + 1 < scanBound ∧ ∀ p, H p = none → Q (.ref p) (upd H p (SKO w p (insAll [] ks)))
theorem vals_keys : ∀ {ks : List Key} {us : List Value} {i : Nat} {v : Value}, Vals (ks.map kV) us → us[i]? = some v → ∃ k, ks[i]? = some k ∧ keyIs k v = true
  | [], _, _, _, r, e => by
    cases r
    simp at e
  | k :: ks, _, 0, v, r, e => by
    cases r with
    | cons r1 r2 =>
      simp only [List.getElem?_cons_zero, Option.some.injEq] at e ⊢
      subst e
      exact ⟨k, rfl, kV_keyIs r1⟩
  | k :: ks, _, i + 1, v, r, e => by
    cases r with
    | cons r1 r2 =>
      simp only [List.getElem?_cons_succ] at e ⊢
      exact vals_keys r2 e
theorem call_setK {n : Nat} (hc : X.calm = true) (hr : Room n X.A) : CallR X (.type "set") (rSetK X.K X.w) := by
  intro pins s σ H xs us Q I r h
  obtain ⟨a, ks, rfl, hs, hz, q⟩ := h
  obtain ⟨u, rfl, r1⟩ := r.one
  cases r1
  obtain ⟨its, rv, pl, _⟩ := I.list hs
  have hlen : its.toArray.size = ks.length := by rw [List.size_toArray, ← rv.length, List.length_map]
  refine set_list (J := fun i h => SetM X.w h s.heap.objs.size (insAll [] (ks.take i))) (I.ok.hd hc) pl.isList (fun A' hu => ⟨fun i h h' j k1 k2 => j.keep k1, fun E i v s1 Q1 hi hv j hk fin => ?_⟩) (fun h' ho hk => ?_) fun h' tk j hk => ?_
  · obtain ⟨k, e, hkey⟩ := vals_keys (i := i) (v := v) rv (by rw [← Array.getElem?_toList]  at hv; exact hv)
    have e1 : insAll [] (ks.take (i + 1)) = insK (insAll [] (ks.take i)) k := by rw [take_next e, insAll_snoc]
    have l1 := insAll_len (ks.take i) []
    rw [List.length_take] at l1
    refine setM_add j hkey ?_ fun b h' sb r => fin b h' _ sb (by rw [e1]; exact r) (Nat.le_succ _)
    simp only [List.length_nil] at l1
    omega
  · have e : insAll [] (ks.take 0) = [] := rfl
    rw [e]
    exact ⟨_, #[], 0, _, ho, ⟨rfl, rfl, rfl⟩, rfl, (fun e he => by simp at he), by simp, List.nodup_nil, (by decide), (by rfl), List.Pairwise.nil, by
      show _ ∨ (!X.w.params.followText "set-order") = true
      cases X.w.params.followText "set-order"
      · exact .inr rfl
      · exact .inl rfl⟩
  · rw [hlen, List.take_length] at j
    exact ⟨.ref s.heap.objs.size, _, I.laid (t' := tk) hk (Nat.le_refl _) (sko_ok j), rfl, q _ (I.hok.fresh (Nat.le_refl _))⟩
end
end K25
/-! sets of nested tuples, sets sorted: the rules -/
namespace K25
open PySem PySem.Spec PyProof.Rows L2
section
variable {X : Cx} {pins : List (Addr × Obj)} {σ : L2.St} {H : Hp} {s : Shared}
theorem SetN.move {P : Program} {w : World} {h h' : Heap} {a : Addr} {L : LN} {es : Array (Int × Value)} {ep : Nat} {t : SetTable} (R : SetN P w h a L es ep t) (ha : ∀ o, h.get? a = some o → h'.get? a = some o) (hk : ∀ p ∈ L, IsN P w h' p.1 p.2) : SetN P w h' a L es ep t := by
  obtain ⟨o, ho, r⟩ := R.ob
  exact ⟨⟨o, ha o ho, r⟩, R.rows, R.tab, R.nd, hk, R.led, R.room, R.few⟩
theorem nodup_sub : ∀ {l D : List NestedKey}, l.Nodup → (∀ x ∈ l, x ∈ D) → l.length ≤ D.length
  | [], _, _, _ => Nat.zero_le _
  | x :: l, D, hn, hs => by
    obtain ⟨h1, h2⟩ := List.nodup_cons.mp hn
    have hx := hs x List.mem_cons_self
    have q := nodup_sub (D := D.erase x) h2 fun y hy => (List.mem_erase_of_ne (fun e : y = x => h1 (e ▸ hy))).mpr (hs y (List.mem_cons_of_mem _ hy))
    rw [List.length_erase_of_mem hx] at q
    have : 0 < D.length := List.length_pos_of_mem hx
    rw [List.length_cons]
    omega
theorem vals_refsN : ∀ {L : LN} {us : List Value} {i : Nat} {v : Value}, Vals (L.map fun p => V.ref p.2) us → us[i]? = some v → ∃ p, L[i]? = some p ∧ v = .ref p.2
  | [], _, _, _, r, e => by
    cases r
    simp at e
  | k :: ks, _, 0, v, r, e => by
    cases r with
    | cons r1 r2 =>
      simp only [List.getElem?_cons_zero, Option.some.injEq] at e ⊢
      subst e
      exact ⟨k, rfl, r1⟩
  | k :: ks, _, i + 1, v, r, e => by
    cases r with
    | cons r1 r2 =>
      simp only [List.getElem?_cons_succ] at e ⊢
      exact vals_refsN r2 e
/-- set(l), tuples: U bounds the different ones -/
def rSetOfN (X : Cx) : List V → Hp → VK → Prop := fun xs H Q => ∃ a, ∃ M : LN, ∃ U : List NestedKey, xs = [.ref a] ∧ SqL X.K H a (M.map fun p => .ref p.2) ∧ (∀ p ∈ M, Nk X.K H (.ref p.2) p.1 ∧ p.1.depth ≤ 8) ∧ (∀ p ∈ M, p.1 ∈ U) ∧ U.length < 63 ∧
  ∀ p (L : LN), H p = none → (∀ q ∈ L, q ∈ M) → (∀ q ∈ M, q.1 ∈ L.map (·.1)) → (L.map (·.1)).Nodup → Q (.ref p) (upd H p (SNO X.prog X.w p L))
theorem call_setN {n : Nat} (hc : X.calm = true) (hr : Room n X.A) : CallR X (.type "set") (rSetOfN X) := by
  intro pins s σ H xs us Q I r h
  obtain ⟨a, M, U, rfl, hs, hk, hU, hz, q⟩ := h
  obtain ⟨u, rfl, r1⟩ := r.one
  cases r1
  obtain ⟨its, rv, pl, _⟩ := I.list hs
  have hlen : its.toArray.size = M.length := by rw [List.size_toArray, ← rv.length, List.length_map]
  have hun := hr.un
  have key0 : ∀ p ∈ M, IsN X.prog X.w s.heap p.1 p.2 := fun p hp => Nk.isKey I (hk p hp).1 (hk p hp).2
  have keys : ∀ h : Heap, (∀ b o, s.heap.get? b = some o → h.get? b = some o) → ∀ p ∈ M, IsN X.prog X.w h p.1 p.2 := fun h k p hp => isN_keep (key0 p hp) fun c o _ _ e _ => k c o e
  refine set_list (J := fun i h => ∃ L es ep t, SetN X.prog X.w h s.heap.objs.size L es ep t ∧ (∀ p ∈ L, p ∈ M.take i) ∧ ∀ p ∈ M.take i, p.1 ∈ L.map (·.1)) (I.ok.hd hc) pl.isList (fun A' hu => ⟨fun i h h' j k1 k2 => ?_, fun E i v s1 Q1 hi hv j hk1 fin => ?_⟩) (fun h' ho hk1 => ?_) fun h' tk j hk1 => ?_
  · obtain ⟨L, es, ep, t, R, l1, l2⟩ := j
    exact ⟨L, es, ep, t, R.move k1 fun p hp => keys h' k2 p (List.mem_of_mem_take (l1 p hp)), l1, l2⟩
  · obtain ⟨L, es, ep, t, R, l1, l2⟩ := j
    obtain ⟨p, hp, rfl⟩ := vals_refsN (i := i) rv (by rw [← Array.getElem?_toList] at hv; exact hv)
    have hx : IsN X.prog X.w s1.heap p.1 p.2 := keys _ hk1 p (List.mem_of_getElem? hp)
    have room : (nestedKind X.prog X.w).room A' := by
      show A'.units + 8 < cLine
      omega
    have few : L.length + 1 < 64 := by
      have e := nodup_sub (D := U) R.nd fun x hx => by
        obtain ⟨y, hy, rfl⟩ := List.mem_map.mp hx
        exact hU y (List.mem_of_mem_take (l1 y hy))
      rw [List.length_map] at e
      omega
    unfold setAdd
    refine wpAny_holding (wpAny_bind ((nestedKind X.prog X.w).pyHash room hx ?_))
    refine addN (s := { s1 with toks := s1.toks + (nestedKind X.prog X.w).draws p.1 }) (R := R) hx room few fun b h' L' es' ep' t' sb R' c1 c2 => ?_
    refine fin b h' _ sb ⟨L', es', ep', t', R', ?_, ?_⟩ (Nat.le_add_right _ _)
    · intro y hy
      rw [take_next hp]
      rcases Classical.em (p.1 ∈ L.map (·.1)) with c | c
      · rw [c1 c] at hy
        exact List.mem_append_left _ (l1 y hy)
      · rcases List.mem_cons.mp ((c2 c).mem_iff.mp hy) with e | e
        · rw [e]
          exact List.mem_append_right _ List.mem_cons_self
        · exact List.mem_append_left _ (l1 y e)
    · intro y hy
      rw [take_next hp] at hy
      rcases Classical.em (p.1 ∈ L.map (·.1)) with c | c
      · rw [c1 c]
        rcases List.mem_append.mp hy with e | e
        · exact l2 y e
        · rw [List.mem_singleton.mp e]
          exact c
      · rw [((c2 c).map (·.1)).mem_iff, List.map_cons]
        rcases List.mem_append.mp hy with e | e
        · exact List.mem_cons_of_mem _ (l2 y e)
        · rw [List.mem_singleton.mp e]
          exact List.mem_cons_self
  · refine ⟨[], #[], 0, _, ⟨⟨_, ho, ⟨rfl, rfl, rfl⟩, rfl⟩, rfl, ⟨List.Pairwise.nil, rfl, rfl, .inl rfl, fun x hx => (by cases hx), fun i h j hi => (by simp at hi)⟩, List.nodup_nil, fun p hp => (by cases hp), ?_, (by show 0 * 5 < 7 * 3; decide), (by show 0 < 64; decide)⟩, fun p hp => (by cases hp), fun p hp => (by simp at hp)⟩
    show _ ∨ (!X.w.params.followText "set-order") = true
    cases X.w.params.followText "set-order"
    · exact .inr rfl
    · exact .inl rfl
  · obtain ⟨L, es, ep, t, R, l1, l2⟩ := j
    rw [hlen, List.take_length] at l1 l2
    exact ⟨.ref s.heap.objs.size, _, I.laid (t' := tk) hk1 (Nat.le_refl _) (sno_ok R.n0), rfl, q _ L (I.hok.fresh (Nat.le_refl _)) l1 l2 R.nd⟩
/-- sorted(a set), by its members' keys -/
theorem sorted_set_gen {n : Nat} {a : Addr} {es : Array (Int × Value)} {ep : Nat} {t : SetTable} {ks : List NestedKey} {Q : VK} (I : Inv X pins σ H s) (hc : X.calm = true) (hr : Room n X.A) (ha : SetAt s.heap a es ep t) (hf : t.fits es.size = true) (hz : es.size < scanBound) (ris : Ris t.place.toList)
    (hl : X.w.params.followText "set-order" = true ∨ t.led = true) (e : PySem.W.EachIs (StK X.K H) (es.toList.map (·.2)) ks) (al : Alk ks) (hd : ∀ k ∈ ks, k.depth ≤ 8) (hn : ks.Nodup)
    (q : ∀ us p, NkA X.K H us (srt ks) → H p = none → Q (.ref p) (upd H p (.lst us))) : wpAny (model X.prog X.w) X.A (call (.builtin "sorted") [.ref a]) (EP X pins σ Q) X.xe s := by
  have hu := hr.un
  refine Calls.call_function_entry kind_sorted plain_sorted entry_sorted (args_sorted1 _) ?_
  unfold Builtin.«sorted»
  refine wpAny_bind (m := checkCount "sorted" 1 1 _) (wpAny_pure ?_)
  refine wpAny_bind (collect_set (A := X.A.in1) (I.ok.hd hc) ha hf hz ris hl fun s1 vs k1 hz1 g1 o1 pm => ?_)
  obtain ⟨js, pj, ej⟩ := each_perm pm e
  have hlen : vs.length ≤ sizeLine := by
    rw [pm.length_eq, List.length_map, Array.length_toList]
    exact fits_of_scanBound hz
  have alj : Alk js := ⟨fun d h d' h' => al.1 d (((pj.map NestedKey.data).mem_iff).mp h) d' (((pj.map NestedKey.data).mem_iff).mp h'), al.2.imp (fun f d h => f d (((pj.map NestedKey.data).mem_iff).mp h)) fun f d h => f d (((pj.map NestedKey.data).mem_iff).mp h)⟩
  have I1 : Inv X pins σ H { s with heap := s1.heap } := I.kept (t' := s.toks) k1
  refine wpAny_bind (wpAny_newList ?_ hlen)
  have hoL : (s1.heap.push (seqObj "list" vs.toArray 0)).get? s1.heap.objs.size = some (seqObj "list" vs.toArray 0) := Heap.get?_push_size _ rfl
  have er : PySem.W.EachIs (fun v b => ∃ as, Reads (s1.heap.push (seqObj "list" vs.toArray 0)) v b.data as ∧ s1.heap.objs.size ∉ as) vs js := each_imp (fun v k ⟨x, rx, nx⟩ => ⟨[], PyProof.Rows.Reads.keeps (fun b o e => Heap.get?_push_of_some _ e) (Nk.reads I1 k x v nx rx), by simp⟩) ej
  refine wpAny_bind (wpAny_holding (PySem.W.list_sort_data (s := { s1 with heap := s1.heap.push (seqObj "list" vs.toArray 0) }) (enc := NestedKey.data) (R := StK X.K H) hoL ej er alj.1 alj.2 (by rw [← each_len ej]; exact hlen) (fun k hk => ?_) fun out ho eo => ?_))
  · rw [data_depth]
    have := hd k (pj.mem_iff.mp hk)
    show X.A.units + 1 + 1 + _ < _
    omega
  · rw [show js.mergeSort (PySem.W.dataLe false NestedKey.data) = srt ks from srt_perm_eq al.1 hn pj] at eo
    obtain ⟨ws, rw', nw⟩ := each_stk eo
    obtain ⟨c, hc'⟩ := sortedHeap_at (vs := vs) (out := out.toArray) hoL
    have hkeep : ∀ b o, s.heap.get? b = some o → (sortedHeap (s1.heap.push (seqObj "list" vs.toArray 0)) s1.heap.objs.size vs out.toArray).get? b = some o := fun b o eb => by
      have q := k1 b o eb
      have hlt := Heap.lt_size q
      rw [sortedHeap_old (Nat.ne_of_lt hlt) (by rw [size_push']; exact Nat.lt_succ_of_lt hlt)]
      exact Heap.get?_push_of_some _ q
    have hwz : ws.length ≤ sizeLine := by
      rw [nw.length, srt_len, ← each_len e, List.length_map, Array.length_toList]
      exact fits_of_scanBound hz
    have new : ObjOk X.prog X.w (upd H s1.heap.objs.size (.lst ws)) (sortedHeap (s1.heap.push (seqObj "list" vs.toArray 0)) s1.heap.objs.size vs out.toArray) s1.heap.objs.size (.lst ws) := ⟨hwz, out, c, rw', hc'⟩
    refine wpAny_pure ⟨_, rfl, ?_⟩
    obtain ⟨hp1, gn1, d1, tk1, os1⟩ := s1
    have eg : gn1 = s.gens := g1
    have eo1 : os1 = s.os := o1
    subst eg eo1
    have J := I.laid (t' := tk1) hkeep hz1 new
    exact ⟨.ref hp1.objs.size, _, ⟨J.ok, J.os, J.bare, J.base, J.loc, J.cell, J.free, J.freeC, J.pin, J.hok, J.len⟩, rfl, q ws _ nw (I.hok.fresh hz1)⟩
/-- sorted(a set of scalars) -/
def rSortSetK (K : PySem.W.Frag) (w : World) : List V → Hp → VK → Prop := fun xs H Q => ∃ a ks, xs = [.ref a] ∧ H a = some (SKO w a ks) ∧ Alk (ks.map toN) ∧ ∀ us p, NkA K H us (srt (ks.map toN)) → H p = none → Q (.ref p) (upd H p (.lst us))
theorem each_map_of {α : Type} {R : Value → NestedKey → Prop} {f : α → Value} {g : α → NestedKey} : ∀ (l : List α), (∀ x ∈ l, R (f x) (g x)) → PySem.W.EachIs R (l.map f) (l.map g)
  | [], _ => .nil
  | x :: l, h => .cons (h x List.mem_cons_self) (each_map_of l fun y hy => h y (List.mem_cons_of_mem _ hy))
theorem call_sortedSetK {n : Nat} (hc : X.calm = true) (hr : Room n X.A) : CallR X (.builtin "sorted") (rSortSetK X.K X.w) := by
  intro pins s σ H xs us Q I r h
  obtain ⟨a, ks, rfl, hs, al, q⟩ := h
  obtain ⟨u, rfl, r1⟩ := r.one
  cases r1
  obtain ⟨⟨o, es, ep, t, ho, hex, hd, g, pm, nd, hb, hf, hr1, hl⟩, _, _⟩ := (show ObjOk X.prog X.w H s.heap a (SKO X.w a ks) from I.hok a _ hs)
  have e1 : PySem.W.EachIs (StK X.K H) (es.toList.map (·.2)) (es.toList.map fun e => toN (keyM e)) := each_map_of _ fun e he => ⟨_, keyIs_rel (g e he).is, toN_nk _ _ _⟩
  have pm2 : (es.toList.map fun e => toN (keyM e)).Perm (ks.map toN) := by
    have q := pm.map toN
    rw [List.map_map] at q
    exact q
  have nd2 : (ks.map toN).Nodup := by
    unfold List.Nodup at nd ⊢
    rw [List.pairwise_map]
    exact nd.imp fun h e => h (toN_inj e)
  have al2 : Alk (es.toList.map fun e => toN (keyM e)) := ⟨fun d h d' h' => al.1 d (((pm2.map NestedKey.data).mem_iff).mp h) d' (((pm2.map NestedKey.data).mem_iff).mp h'), al.2.imp (fun f d h => f d (((pm2.map NestedKey.data).mem_iff).mp h)) fun f d h => f d (((pm2.map NestedKey.data).mem_iff).mp h)⟩
  refine sorted_set_gen I hc hr ⟨o, ho, hex.1, hd⟩ hf hb hr1 hl e1 al2 (fun k hk => ?_) (pm2.nodup_iff.mpr nd2) fun ws p nw hp => q ws p ?_ hp
  · obtain ⟨e, _, rfl⟩ := List.mem_map.mp hk
    cases keyM e <;> exact Nat.zero_le _
  · rw [← srt_perm_eq al.1 nd2 pm2]
    exact nw
/-- sorted(a set of tuples) -/
def rSortSetN (X : Cx) : List V → Hp → VK → Prop := fun xs H Q => ∃ a, ∃ L : LN, xs = [.ref a] ∧ H a = some (SNO X.prog X.w a L) ∧ (∀ p ∈ L, Nk X.K H (.ref p.2) p.1 ∧ p.1.depth ≤ 8) ∧ Alk (L.map (·.1)) ∧ ∀ us p, NkA X.K H us (srt (L.map (·.1))) → H p = none → Q (.ref p) (upd H p (.lst us))
theorem call_sortedSetN {n : Nat} (hc : X.calm = true) (hr : Room n X.A) : CallR X (.builtin "sorted") (rSortSetN X) := by
  intro pins s σ H xs us Q I r h
  obtain ⟨a, L, rfl, hs, hk, al, q⟩ := h
  obtain ⟨u, rfl, r1⟩ := r.one
  cases r1
  obtain ⟨⟨es, ep, t, R⟩, _, _⟩ := (show ObjOk X.prog X.w H s.heap a (SNO X.prog X.w a L) from I.hok a _ hs)
  obtain ⟨o, ho, hex, hd⟩ := R.ob
  have h1 := R.tab.sz
  rw [List.length_map] at h1
  have h2 := rowsN_len R.rows
  have h3 := R.room
  have h4 := R.few
  have e1 : PySem.W.EachIs (StK X.K H) (es.toList.map (·.2)) (L.map (·.1)) := by
    rw [R.rows]
    unfold rowsN
    rw [List.map_map]
    exact each_map_of _ fun p hp => ⟨.ref p.2, rfl, (hk p hp).1⟩
  exact sorted_set_gen I hc hr ⟨o, ho, hex.1, hd⟩ (fits_of (by omega) R.tab.dm (by omega)) (by show es.size < 4096; omega) R.tab.ris R.led e1 al (fun k hk' => by
    obtain ⟨p, hp, rfl⟩ := List.mem_map.mp hk'
    exact (hk p hp).2) R.nd q
end
end K25
/-! more rules -/
namespace K25
open PySem PySem.Spec PyProof.Rows L2
/-! ### collect of a dict -/
def ColR (s : Shared) (Pv : Nat → Value → Prop) (n : Nat) : Result → Shared → Prop := fun x s' => ∃ h' tk acc c, x = .ok (.ret (.ref s.heap.objs.size)) ∧ s' = { s with heap := h', toks := tk } ∧ (∀ b o, s.heap.get? b = some o → h'.get? b = some o) ∧ h'.get? s.heap.objs.size = some { cls := .type "list", dict := none, data := .seq acc c, slots := #[] } ∧ ItemsOf Pv acc n
theorem kv_vals {κ : Type} : ∀ {kvs : List (κ × V)} {vs : List (κ × Value)}, KV kvs vs → Vals (kvs.map (·.2)) (vs.map (·.2))
  | _, _, .nil => .nil
  | _, _, .cons r t => .cons r.2 (kv_vals t)
section
variable {P : Program} {w : World} {A : Around} {E : Value → Shared → Prop} {s : Shared}
theorem collect_kdl {T : String} {r d : Addr} {n : Nat} {Pv : Nat → Value → Prop} {OK : Heap → Prop} {Q : List Value → Shared → Prop} (K : PySem.W.KdlSrc P w T r d n Pv OK) (hh : A.handled = none) (hok : OK s.heap) (hn : n ≤ sizeLine)
    (hQ : ∀ h' tk acc, (∀ b o, s.heap.get? b = some o → h'.get? b = some o) → ItemsOf Pv acc n → Q acc.toList { s with heap := h', toks := tk }) : wpAny (model P w) A (collect (.ref r)) Q E s := by
  obtain ⟨t1, t2⟩ := K.there _ hok
  unfold collect
  refine wpAny_bind (wpAny_runValue (codeAny_mono (R := ColR s Pv n) ?_ ?_))
  case refine_2 =>
    rintro x s' ⟨h', tk, acc, c, rfl, rfl, hk, hS', it⟩
    show wpAny _ A (load s.heap.objs.size >>= _) _ _ _
    exact wpAny_bind (wpAny_load hS' (wpAny_pure (hQ h' tk acc hk it)))
  refine codeAny_builtin F.entry_proto_collect ?_
  rw [Around.under_plainId F.plain_proto_collect _]
  show wpAny _ A.in1 (newList [] >>= fun l => again (.builtin "list.__iadd__" ⟨[l, .ref r], []⟩)) _ _ s
  refine wpAny_bind (wpAny_newObj_type ?_)
  refine wpAny_pure ⟨plainId_quiet F.plain_list_iadd _, codeAny_builtin F.entry_list_iadd ?_⟩
  rw [Around.under_plainId F.plain_list_iadd _]
  have hS : (s.heap.push { cls := .type "list", data := .seq ([] : List Value).toArray }).get? s.heap.objs.size = some { cls := .type "list", data := .seq ([] : List Value).toArray } := Heap.get?_push_size _ rfl
  show wpAny _ A.in1 (Builtin.List.listExtendWith (.ref s.heap.objs.size) (.ref r) (.ref s.heap.objs.size)) _ _ _
  exact PySem.W.kdl_extend (R := ColR s Pv n) (s := { s with heap := s.heap.push { cls := .type "list", data := .seq ([] : List Value).toArray } }) K hh (K.keep _ _ hok fun b _ o e => Heap.get?_push_of_some _ e) s.heap.objs.size (Nat.ne_of_gt t1) (Nat.ne_of_gt t2) _ 0 hS
    (fun h' tk acc' c' hk hS' hacc => ⟨h', tk, acc', c', rfl, rfl, fun b o e => hk b o (Nat.ne_of_lt (Heap.lt_size e)) (Heap.get?_push_of_some _ e), hS', hacc⟩) hn
end
/-! ### [*d, *e], two dicts -/
section
variable {X : Cx} {pins : List (Addr × Obj)} {σ : L2.St} {H : Hp} {s : Shared}
/-- the keys of a dict, as a star gives them -/
def tStarD (te : TE) (t : TA) : TA := fun σ H Q => te σ H fun y H1 => ∃ a kvs, y = .ref a ∧ Rd H1 a (.dK kvs) ∧ t σ H1 fun ys H2 => Q (kvs.map (fun kv => kV kv.1) ++ ys) H2
theorem star_dict {a : Addr} {kvs : List (Key × V)} {E : Value → Shared → Prop} {Q : List Value → Shared → Prop} (I : Inv X pins σ H s) (hc : X.calm = true) (h : Rd H a (.dK kvs)) (hQ : ∀ us s', Inv X pins σ H s' → Vals (kvs.map fun kv => kV kv.1) us → Q us s') : PySem.W.StarOf (model X.prog X.w) X.A E (.ref a) Q s := by
  obtain ⟨hz, hs, vs, rel, dd⟩ := (show ObjOk X.prog X.w H s.heap a (.dK kvs) from h.ok I.hok)
  obtain ⟨ep, hat⟩ := dd.dictAt
  have lk : kvs.length = vs.length := Paired.length rel
  have hT := dd.typeIs
  unfold PySem.W.StarOf notIterableAtAll
  refine wpAny_bind (wpAny_specialOf hT PySem.F.slot_dict_iter.lookup (wpAny_pure ⟨rfl, ?_⟩))
  refine collect_kdl (PySem.W.kdl_dict (knd := mixKind X.prog X.w) (kvs := vs) (ep := ep) hs) (I.ok.hd hc) hat (by omega) fun h' tk acc hk hacc => ?_
  refine hQ _ _ (I.kept (t' := tk) hk) ?_
  have key : ∀ (kvs : List (Key × V)) (vs : List (Key × Value)) (us : List Value), KV kvs vs → us.length = vs.length → (∀ (i : Nat) (v : Value), us[i]? = some v → ∃ (k : Key) (x : Value), vs[i]? = some (k, x) ∧ (mixKind X.prog X.w).is k v = true) → Vals (kvs.map fun kv => kV kv.1) us := by
    intro kvs
    induction kvs with
    | nil =>
      intro vs us r hl _
      cases r
      cases us with
      | nil => exact .nil
      | cons _ _ => cases hl
    | cons p kvs ih =>
      intro vs us r hl hu
      cases r with
      | @cons _ q _ qs r1 r2 =>
        cases us with
        | nil => cases hl
        | cons u us =>
          obtain ⟨k, x, e1, e2⟩ := hu 0 u rfl
          have e3 : q = (k, x) := Option.some.inj e1
          subst e3
          refine .cons ?_ (ih qs us r2 (Nat.succ.inj hl) fun i v e => hu (i + 1) v e)
          show L2.RelV (kV p.1) u
          rw [r1.1]
          exact keyIs_rel e2
  refine key kvs vs acc.toList rel (by rw [Array.length_toList, hacc.1]) fun i v e => ?_
  exact hacc.2 i v (by rw [← Array.getElem?_toList]; exact e)
theorem pa_starD {e : Expr} {es : List Expr} {te : TE} {t : TA} {p : Pos} (hc : X.calm = true) (he : PE X e te) (hr : PA X es t) (hs : starEach (.Starred e p :: es) X.env = (true, eval e X.env) :: starEach es X.env := by rfl) : PA X (.Starred e p :: es) (tStarD te t) := by
  refine ⟨fun pos pins s σ H Q I h => ?_⟩
  refine PySem.W.items_star (thn (he.run pins s σ H _ I h) fun v s1 ⟨y, H1, I1, ry, a, kvs, ey, hx, q⟩ => ?_) hs
  subst ey
  obtain rfl : v = Value.ref a := ry
  refine star_dict I1 hc hx fun us s2 I2 rv => ?_
  exact thn (hr.run pos pins s2 σ H1 _ I2 q) fun ws s3 ⟨vs, H3, I3, r3, q3⟩ => ⟨_ ++ vs, H3, I3, rv.append r3, q3⟩
/-! ### list(d.values()) -/
def tListVals (te : TE) : TE := fun σ H Q => te σ H fun x H1 => ∃ d kvs, x = .ref d ∧ Rd H1 d (.dK kvs) ∧ ∀ p, H1 p = none → Q (.ref p) (upd H1 p (.lst (kvs.map (·.2))))
theorem pe_listVals {n : Nat} {e : Expr} {te : TE} {p apos cpos pos : Pos} (hc : X.calm = true) (hr : Room n X.A) (hg : Gl X "list") (hm : X.mg "list" = none) (he : PE X e te) (hbase : attributeBase e "values" X.env (eval e X.env) = eval e X.env := by rfl) (hline : (apos.endLine == cpos.line) = true := by rfl)
    (hs : starEach [.Call (.Attribute e "values" apos) [] [] cpos] X.env = (false, eval (.Call (.Attribute e "values" apos) [] [] cpos) X.env) :: starEach [] X.env := by rfl) :
    PE X (.Call (.Name "list" p) [.Call (.Attribute e "values" apos) [] [] cpos] [] pos) (tListVals te) := by
  refine ⟨fun pins s σ H Q I hq => ?_⟩
  refine wpAny_Call_Name_kw (ld_blt I hg hm boot_list ?_)
  refine PyProof.Rows.callWith_type1 ?_ hs rfl
  rw [hs]
  show wpAny _ _ (spliced ((false, eval (.Call (.Attribute e "values" apos) [] [] cpos) X.env) :: backTo pos (starEach [] X.env))) _ _ s
  refine Calls.spliced_cons ?_
  refine wpAny_Call_method (T := "dict") (id := "dict.values") hbase rfl hline F.plainAttrs_dict F.slot_dict_values F.type_dict_values (thn (he.run pins s σ H _ I hq) fun u s1 ⟨x, H1, I1, rx, d, kvs, ex, hd, q⟩ => ?_)
  subst ex
  obtain rfl : u = Value.ref d := rx
  obtain ⟨hz, hs0, vs, kv, hdo⟩ := (show ObjOk X.prog X.w H1 s1.heap d (.dK kvs) from hd.ok I1.hok)
  obtain ⟨ep, hat⟩ := hdo.dictAt
  have lk : kvs.length = vs.length := Paired.length kv
  refine ⟨hdo.typeIs, hdo.mapOf.noDict, ?_⟩
  show wpAny _ _ (callWith cpos (.builtin "dict.values") [.ref d] [] []) _ X.xe s1
  refine method_meetsIn F.slot_dict_values F.entry_dict_values rfl (PySem.evalArgs_none ⟨rfl, hdo.typeIs, F.args_dict_values_1 _, _, meets_dict_values (mixKind X.prog X.w) d hs0, ⟨vs, hdo⟩, ?_⟩)
  refine Calls.spliced_nil ?_
  have I2 : Inv X pins σ H1 { s1 with heap := s1.heap.push { cls := .type "dict_values", data := .fields #[.ref d] } } := I1.kept (t' := s1.toks) fun b ob q => Heap.get?_push_of_some _ q
  refine PySem.W.kdl_call (PySem.W.kdl_values (knd := mixKind X.prog X.w) (kvs := vs) (ep := ep)) (I1.ok.hd hc) ⟨⟨_, Heap.get?_push_size _ rfl, rfl, rfl⟩, hat.push _⟩ (by omega) fun h' tk acc' c' kp e it => ?_
  have ea : acc'.toList = vs.map (·.2) := PySem.W.kdl_vals_eq acc'.toList (by rw [Array.length_toList, it.1]) fun j v hj => it.2 j v (by rw [← Array.getElem?_toList]; exact hj)
  have rv : Vals (kvs.map (·.2)) acc'.toList := by
    rw [ea]
    exact kv_vals kv
  have hsz : s1.heap.objs.size ≤ (s1.heap.push { cls := .type "dict_values", data := .fields #[.ref d] }).objs.size := by rw [Heap.size_push]; exact Nat.le_succ _
  generalize hg3 : (s1.heap.push { cls := .type "dict_values", data := .fields #[.ref d] }).objs.size = S at e hsz ⊢
  have new : ObjOk X.prog X.w (upd H1 S (.lst (kvs.map (·.2)))) h' S (.lst (kvs.map (·.2))) := ⟨by rw [List.length_map]; exact hz, acc'.toList, c', rv, by rw [e]⟩
  exact ⟨.ref S, _, I2.laid (t' := tk) kp (by rw [← hg3]; exact Nat.le_refl _) new, rfl, q _ (I1.hok.fresh hsz)⟩
/-! ### enumerate(a tuple) -/
theorem enum_newT {v : Value} {o : Obj} {Hh : Heap → Prop} (B : PySem.Begins v o Hh) :
    Meets (Builtin.«enumerate.__new__» ⟨[.type "enumerate", v], []⟩) (fun _ R s => Hh s.heap ∧
      R (.ok (.ret (.ref (s.heap.push o).objs.size))) { s with heap := (s.heap.push o).push { cls := .type "enumerate", data := .fields #[.none, .bool false, .ref s.heap.objs.size, rawInt 0, .none, .none] } }) :=
  .of_wp fun prog w A R s h => by
    obtain ⟨hp, g, d, tk, os⟩ := s; obtain ⟨h1, h⟩ := h
    have hsub := sub_enumerate
    have q1 : ∀ {A' : Around} {E : Value → Shared → Prop} {Q : Value → Shared → Prop}, Q (.ref hp.objs.size) ⟨hp.push o, g, d, tk, os⟩ → wpAny (model prog w) A' (pyIter v) Q E ⟨hp, g, d, tk, os⟩ :=
      fun q => B.iter prog w _ _ ⟨hp, g, d, tk, os⟩ _ h1 q
    wp_walk using q1
    refine wpAny_stack_any fun st => wpAny_pure ?_
    split
    · rename_i c _ _ _ _ _
      cases (c == Value.type "enumerate")
      · wp_walk using q1
        exact ⟨_, rfl, h⟩
      · wp_walk using q1
        exact ⟨_, rfl, h⟩
    · wp_walk using q1
      exact ⟨_, rfl, h⟩
def Iteu (K : PySem.W.Frag) (a : Addr) : It :=
  ⟨fun i H => ∃ (xs : List V) (x : V), SqT K H a xs ∧ xs[i]? = some x, fun i H v H' => ∃ T x, v = .ref T ∧ H T = none ∧ H' = upd H T (.tup [.int (i : Nat), x]) ∧ ∀ xs, SqT K H a xs → xs[i]? = some x, fun i H => ∃ xs : List V, SqT K H a xs ∧ xs.length = i⟩
theorem turn_enumT {P : Program} {w : World} {K : PySem.W.Frag} {elts : List Expr} {kk : Nat} {tpos : Pos} (a e it : Addr) :
    Turn P w K (.Tuple elts kk tpos) (Iteu K a) [e, it] e (fun i h => (∃ old, IsEnum h e it ((i : Nat) : Int) old) ∧ h.IsTupleIter it a i ∧ e ≠ it ∧ a ≠ it ∧ a ≠ e) where
  mem := by simp
  obj := fun i h st b hb => by
    obtain ⟨⟨old, he⟩, ⟨o, ho, hc, hd⟩, _⟩ := st
    have e' : b = e ∨ b = it := by simpa using hb
    rcases e' with z | z
    · rw [z]; exact ⟨_, he, fun v q => nomatch q⟩
    · rw [z]; exact ⟨o, ho, fun v q => by rw [hd] at q; cases q⟩
  keep := fun i h h' st k => let ⟨⟨old, he⟩, hi, hne⟩ := st; ⟨⟨old, k e (by simp) _ he⟩, hi.at fun o q => k it (by simp) o q, hne⟩
  item := by
    intro X hP hw hK hc i pins s σ H E I hf st hg
    subst hP hw hK
    obtain ⟨⟨old, he⟩, hit, hne, hai, hae⟩ := st
    obtain ⟨xs, x, hq, hx⟩ := hg
    obtain ⟨its, rv, p, hz⟩ := I.tuple hq
    obtain ⟨u, hu, ru⟩ := rv.get hx
    have hlt : i < its.toArray.size := by rw [List.size_toArray]; exact (List.getElem?_eq_some_iff.mp hu).1
    have hel : e < s.heap.objs.size := Heap.lt_size he
    have hil : it < s.heap.objs.size := by obtain ⟨_, q, _⟩ := hit; exact Heap.lt_size q
    refine wpAny_pyNext_enum_itemD (PySem.Draws.tuple (A := X.A.in1) (I.ok.hd hc) it a hai its.toArray) he ⟨hit, show s.heap.IsTuple a its.toArray from p⟩ hlt hne (by simp only [List.mem_cons, List.not_mem_nil, or_false, not_or]; exact ⟨hne, fun z => hae z.symm⟩) fun y h' tk hy ho hst hT hsz hk => ?_
    have ey : y = u := by
      have q : its[i]? = some y := by rw [← List.getElem?_toArray]; exact hy
      rw [hu] at q
      exact (Option.some.inj q).symm
    subst ey
    refine ⟨_, rfl, wpAny_letOwnedTupleGo_enum (s := { s with heap := h', toks := tk + 1 }) ho fun h'' he' sb => ?_⟩
    have hT2 : h''.get? s.heap.objs.size = some { cls := .type "tuple", data := .seq #[.int i tk, y] } := (sb.2 _ (Nat.ne_of_gt hel)).trans hT
    have new : ObjOk X.prog X.w (upd H s.heap.objs.size (.tup [.int (i : Nat), x])) h'' s.heap.objs.size (.tup [.int (i : Nat), x]) :=
      ⟨by show 2 ≤ sizeLine; decide, [.int i tk, y], .cons ⟨_, rfl⟩ (.cons ru .nil), ⟨_, hT2, rfl, _, rfl⟩⟩
    have I1 : Inv X pins σ (upd H s.heap.objs.size (.tup [.int (i : Nat), x])) { s with heap := h'', toks := tk + 1 } :=
      I.turnedNew (ch := [e, it]) (fun b ob hb q => (sb.2 b (fun z => hb (by simp [z]))).trans (hk b ob (fun z => hb (by simp [z])) (fun z => hb (by simp [z])) q)) hf (Nat.le_refl _) new
    refine ⟨.ref s.heap.objs.size, _, I1, rfl, ⟨_, x, rfl, I.hok.fresh (Nat.le_refl _), rfl, fun ys hy => by rw [I.tuple_inj hy hq]; exact hx⟩, ⟨⟨y, ?_⟩, hst.1.at fun o q => (sb.2 it (Ne.symm hne)).trans q, hne, hai, hae⟩, fun b hb => ?_⟩
    · have e1 : ((i + 1 : Nat) : Int) = (i : Int) + 1 := by omega
      rw [e1]; exact he'
    · have hb' : b < s.heap.objs.size := by
        have e' : b = e ∨ b = it := by simpa using hb
        rcases e' with z | z
        · rw [z]; exact hel
        · rw [z]; exact hil
      rw [upd_ne (Nat.ne_of_lt hb')]
      exact (hf b hb).1
  done := by
    intro X hP hw hK hc i pins s σ H E I hf st hg
    subst hP hw hK
    obtain ⟨⟨old, he⟩, hit, hne, hai, hae⟩ := st
    obtain ⟨xs, hq, hx⟩ := hg
    obtain ⟨its, rv, p, hz⟩ := I.tuple hq
    obtain ⟨f0, f1, f2, f3, f4, f5⟩ := hf it (by simp)
    have hl := rv.length
    have D := PySem.Draws.tuple (prog := X.prog) (w := X.w) (A := X.A.in1) (I.ok.hd hc) it a hai its.toArray
    have en : i = its.toArray.size := by rw [List.size_toArray]; omega
    subst en
    exact wpAny_pyNext_enum_endD D he ⟨hit, show s.heap.IsTuple a its.toArray from p⟩ fun h' eb => ⟨rfl, I.turned (t' := s.toks) (fun b o hb e => eb b o hb e) f0 f1 f3 f4 f5⟩
  self := fun A i s Q E st h => let ⟨⟨_, he⟩, _⟩ := st; wpAny_pyIter_enum he h
end
def iEnumT (K : PySem.W.Frag) (ta : TA) : TI := fun σ H R => ta σ H fun vs H1 => ∃ a xs, vs = [.ref a] ∧ SqT K H1 a xs ∧ R (Iteu K a) H1
theorem walk_enumT {K : PySem.W.Frag} {a : Addr} {xs : List V} : Walk (Iteu K a) xs.length (fun H => SqT K H a xs) (YPair (fun i => some (.int (i : Nat))) (fun i => xs[i]?)) := by
  refine ⟨fun i _ hi q => ⟨xs, xs[i], q, by simp [hi]⟩, fun _ q => ⟨xs, q, rfl⟩, fun i H v H' _ q y => ?_⟩
  obtain ⟨T, x, h1, h2, h3, h4⟩ := y
  exact ⟨T, .int (i : Nat), x, h1, h2, h3, rfl, h4 xs q⟩
theorem pi_enumT {X : Cx} {e : Expr} {ta : TA} {p pos tpos : Pos} {elts : List Expr} {kk : Nat} (hg : Gl X "enumerate") (hm : X.mg "enumerate" = none) (ha : PA X [e] ta) (hs : starEach [e] X.env = [(false, eval e X.env)] := by rfl) :
    PI X (.Tuple elts kk tpos) (.Call (.Name "enumerate" p) [e] [] pos) (iEnumT X.K ta) := by
  refine ⟨fun pins s σ H R I h => ?_⟩
  refine Call_ (ld_blt I hg hm boot_enumerate (PyProof.Rows.callWith_type1 (thn (ha.run pos pins s σ H _ I h) fun us s1 ⟨vs, H1, I1, r1, q1⟩ => ?_) hs rfl))
  obtain ⟨a, xs, ex, hq, q⟩ := q1
  subst ex
  obtain ⟨u, rfl, r⟩ := r1.one
  cases r
  obtain ⟨its, rv, p', hz⟩ := I1.tuple hq
  have hal : a < s1.heap.objs.size := p'.lt
  refine callType_new F.called_enumerate (by decide) (F.typeCall_enumerate_1 _) (F.newCall_enumerate_1 _) (fun obj => F.args_object_init_2 obj _) F.entry_enumerate_new (enum_newT (PySem.begins_tuple a its.toArray)) ⟨show s1.heap.IsTuple a its.toArray from p', ?_⟩
  have hz1 : (s1.heap.push { cls := .type "tuple_iterator", data := .fields #[.ref a, .int 0 0] }).objs.size = s1.heap.objs.size + 1 := Heap.size_push ..
  show _ ∧ _
  rw [hz1]
  have he : IsEnum ((s1.heap.push { cls := .type "tuple_iterator", data := .fields #[.ref a, .int 0 0] }).push { cls := .type "enumerate", data := .fields #[.none, .bool false, .ref s1.heap.objs.size, rawInt 0, .none, .none] }) (s1.heap.objs.size + 1) s1.heap.objs.size 0 .none := by
    have := Heap.get?_push_size (s1.heap.push { cls := .type "tuple_iterator", data := .fields #[.ref a, .int 0 0] }) (o := { cls := .type "enumerate", data := .fields #[.none, .bool false, .ref s1.heap.objs.size, rawInt 0, .none, .none] }) rfl
    rw [hz1] at this
    exact this
  refine ⟨⟨_, he, rfl⟩, wpAny_pyIter_enum he ?_⟩
  have hk : ∀ b o, s1.heap.get? b = some o → ((s1.heap.push { cls := .type "tuple_iterator", data := .fields #[.ref a, .int 0 0] }).push { cls := .type "enumerate", data := .fields #[.none, .bool false, .ref s1.heap.objs.size, rawInt 0, .none, .none] }).get? b = some o := fun b o x => Heap.get?_push_of_some _ (Heap.get?_push_of_some _ x)
  have I2 := I1.kept (t' := s1.toks) hk
  refine ⟨s1.heap.objs.size + 1, [s1.heap.objs.size + 1, s1.heap.objs.size], _, _, H1, rfl, I2, turn_enumT a (s1.heap.objs.size + 1) s1.heap.objs.size, ⟨⟨.none, he⟩, ⟨_, Heap.get?_push_of_some _ (Heap.get?_push_size _ rfl), rfl, rfl⟩, Nat.succ_ne_self _, Nat.ne_of_lt hal, Nat.ne_of_lt (Nat.lt_succ_of_lt hal)⟩, fun b hb => ?_, q⟩
  have e' : b = s1.heap.objs.size + 1 ∨ b = s1.heap.objs.size := by simpa using hb
  have hle : s1.heap.objs.size ≤ b := by
    rcases e' with z | z
    · rw [z]; exact Nat.le_add_right _ _
    · rw [z]; exact Nat.le_refl _
  exact I1.fpOk hle (I1.hok.fresh hle)
end K25
/-! x op= y by an own method; {k: v} -/
namespace K25
open PySem PySem.Spec PyProof.Rows L2
section
variable {X : Cx} {j k : Nat} {f : Addr} {ps : List Str} {sp : Sp}
def ipOwn (C : Addr) (sp : Sp) : TIp := fun x y H Q => ∃ a dx fs, x = .ref a ∧ H a = some (.ins C dx fs) ∧ sp [.ref a, y] H Q (fun _ _ _ => False)
theorem ip_own {C : Addr} {m : Str} {op : Operator} (c : Cls X.K C) (sf : PySem.W.selfFirst X.K C = true) (hm : Meth X.K C m f) (D : Df X.prog X.w X.K X.mg X.base f j ps sp) (hr : Room k X.A) (hj : j ≤ k) (he : dunderI op.info.2 = m) : PIp X op (ipOwn C sp) := by
  intro pins s σ H x y v u Q I rx ry h
  obtain ⟨a, dx, fs, rfl, ea, h⟩ := h
  cases rx
  obtain ⟨fd, F, kp, b⟩ := D
  obtain ⟨mA, O, _⟩ := ins_get I.hok ea
  obtain ⟨od, J, _⟩ := O.look
  obtain ⟨m0, fr⟩ := I.fr
  have hs := hm.at_
  rw [← he] at hs
  refine PySem.W.ksp_inplace fr I.mod.kin J sf hs hm.fn (wpAny_mono (run_fn (us := [.ref a, u]) (vs := [.ref a, y]) F (hr.mono hj) b .nil pass0 I (.cons rfl (.cons ry .nil)) h) (fun v s' q => ?_) fun _ _ e => e)
  obtain ⟨x', H', I', r', q'⟩ := q
  have hh := handed_of r'
  cases v <;> first | exact ⟨x', H', I', r', q'⟩ | (cases x' <;> simp [L2.RelV] at r')
theorem pe_oneK {n : Nat} {ke ve : Expr} {tk tv : TE} {pos : Pos} (hr : Room n X.A) (hk : PE X ke tk) (hv : PE X ve tv) : PE X (.Dict [some ke] [ve] pos) (tDisp [(tk, tv)]) :=
  pe_disp (pps_cons hk hv pps_nil) rfl rfl (by simp) (by show 1 ≤ 15; decide)
end
end K25
/-! the data: rows, tables, pairs, estimates -/
namespace K25
open PySem PySem.Spec PyProof.Rows L2
abbrev Row := Int × Str × Int
abbrev Pr := Int × List Str
abbrev Tab := List (Str × Str)
abbrev It2 := List Int × List Int
def kRow (r : Row) : NestedKey := .tup [.num r.1, .text r.2.1, .num r.2.2]
def kPr (p : Pr) : NestedKey := .tup [.num p.1, .tup (p.2.map .text)]
def kEs (E : List Pr) : NestedKey := .tup (E.map kPr)
def kIt (x : It2) : NestedKey := .tup [.tup (x.1.map .num), .tup (x.2.map .num)]
def kNd (x : Int × Int) : NestedKey := .tup [.num x.1, .num x.2]
theorem map_inj {α : Type} {f : α → NestedKey} (h : ∀ a b, f a = f b → a = b) : ∀ {xs ys : List α}, xs.map f = ys.map f → xs = ys
  | [], [], _ => rfl
  | [], _ :: _, e => by cases e
  | _ :: _, [], e => by cases e
  | x :: xs, y :: ys, e => by
    rw [List.map_cons, List.map_cons] at e
    injection e with e1 e2
    rw [h _ _ e1, map_inj h e2]
theorem num_inj : ∀ a b : Int, NestedKey.num a = .num b → a = b := fun a b e => by injection e
theorem text_inj : ∀ a b : Str, NestedKey.text a = .text b → a = b := fun a b e => by injection e
theorem kRow_inj : ∀ a b, kRow a = kRow b → a = b := fun a b e => by
  obtain ⟨a1, a2, a3⟩ := a
  obtain ⟨b1, b2, b3⟩ := b
  simp only [kRow, NestedKey.tup.injEq, List.cons.injEq, NestedKey.num.injEq, NestedKey.text.injEq, and_true] at e
  obtain ⟨e1, e2, e3⟩ := e
  subst e1 e2 e3
  rfl
theorem kPr_inj : ∀ a b, kPr a = kPr b → a = b := fun a b e => by
  obtain ⟨a1, a2⟩ := a
  obtain ⟨b1, b2⟩ := b
  simp only [kPr, NestedKey.tup.injEq, List.cons.injEq, NestedKey.num.injEq, and_true] at e
  obtain ⟨e1, e2⟩ := e
  have e3 := map_inj text_inj e2
  subst e1 e3
  rfl
theorem kEs_inj : ∀ a b, kEs a = kEs b → a = b := fun a b e => by
  simp only [kEs, NestedKey.tup.injEq] at e
  exact map_inj kPr_inj e
theorem kIt_inj : ∀ a b, kIt a = kIt b → a = b := fun a b e => by
  obtain ⟨a1, a2⟩ := a
  obtain ⟨b1, b2⟩ := b
  simp only [kIt, NestedKey.tup.injEq, List.cons.injEq, and_true] at e
  obtain ⟨e1, e2⟩ := e
  have e3 := map_inj num_inj e1
  have e4 := map_inj num_inj e2
  subst e3 e4
  rfl
theorem kNd_inj : ∀ a b, kNd a = kNd b → a = b := fun a b e => by
  obtain ⟨a1, a2⟩ := a
  obtain ⟨b1, b2⟩ := b
  simp only [kNd, NestedKey.tup.injEq, List.cons.injEq, NestedKey.num.injEq, and_true] at e
  obtain ⟨e1, e2⟩ := e
  subst e1 e2
  rfl
theorem mem_map_inj {α : Type} {f : α → NestedKey} (h : ∀ a b, f a = f b → a = b) {xs : List α} {x : α} : f x ∈ xs.map f ↔ x ∈ xs := by
  rw [List.mem_map]
  constructor
  · rintro ⟨y, hy, e⟩
    rw [← h _ _ e]
    exact hy
  · exact fun q => ⟨x, q, rfl⟩
theorem nodup_map_inj {α : Type} {f : α → NestedKey} (h : ∀ a b, f a = f b → a = b) {xs : List α} (n : xs.Nodup) : (xs.map f).Nodup := by
  unfold List.Nodup at n ⊢
  rw [List.pairwise_map]
  exact n.imp fun q e => q (h _ _ e)
theorem nodup_of_map_inj {α : Type} {f : α → NestedKey} {xs : List α} (n : (xs.map f).Nodup) : xs.Nodup := List.Pairwise.of_map f (fun _ _ hne e => hne (congrArg f e)) n
/-! ### depths -/
theorem depth_texts (xs : List Str) : NestedKey.depthAll (xs.map .text) = 0 := by
  induction xs with
  | nil => rfl
  | cons x xs ih => simp [NestedKey.depthAll, NestedKey.depth, ih]
theorem depth_nums (xs : List Int) : NestedKey.depthAll (xs.map .num) = 0 := by
  induction xs with
  | nil => rfl
  | cons x xs ih => simp [NestedKey.depthAll, NestedKey.depth, ih]
theorem kRow_depth (r : Row) : (kRow r).depth ≤ 8 := by simp [kRow, NestedKey.depth, NestedKey.depthAll]
theorem kPr_depth2 (p : Pr) : (kPr p).depth ≤ 2 := by simp [kPr, NestedKey.depth, NestedKey.depthAll, depth_texts]
theorem kPr_depth (p : Pr) : (kPr p).depth ≤ 8 := Nat.le_trans (kPr_depth2 p) (by decide)
theorem kEs_depth (E : List Pr) : (kEs E).depth ≤ 8 := by
  have h : NestedKey.depthAll (E.map kPr) ≤ 2 := depthAll_le fun k hk => by
    obtain ⟨p, _, rfl⟩ := List.mem_map.mp hk
    exact kPr_depth2 p
  simp only [kEs, NestedKey.depth]
  omega
theorem kIt_depth (x : It2) : (kIt x).depth ≤ 8 := by simp [kIt, NestedKey.depth, NestedKey.depthAll, depth_nums]
theorem kNd_depth (x : Int × Int) : (kNd x).depth ≤ 8 := by simp [kNd, NestedKey.depth, NestedKey.depthAll]
theorem all_depth {α : Type} {f : α → NestedKey} {n : Nat} (h : ∀ a, (f a).depth ≤ n) {xs : List α} : ∀ k ∈ xs.map f, k.depth ≤ n := fun k hk => by
  obtain ⟨p, _, rfl⟩ := List.mem_map.mp hk
  exact h p
/-! ### kinds -/
theorem alike_texts : ∀ xs ys : List Str, PySem.W.alikeAll (NestedKey.datas (xs.map .text)) (NestedKey.datas (ys.map .text)) = true
  | [], _ => by simp [NestedKey.datas, PySem.W.alikeAll]
  | _ :: _, [] => by simp [NestedKey.datas, PySem.W.alikeAll]
  | x :: xs, y :: ys => by
    simp only [List.map_cons, NestedKey.datas, PySem.W.alikeAll, NestedKey.data, PySem.W.alike]
    rw [alike_texts xs ys]
    rfl
theorem alike_nums : ∀ xs ys : List Int, PySem.W.alikeAll (NestedKey.datas (xs.map .num)) (NestedKey.datas (ys.map .num)) = true
  | [], _ => by simp [NestedKey.datas, PySem.W.alikeAll]
  | _ :: _, [] => by simp [NestedKey.datas, PySem.W.alikeAll]
  | x :: xs, y :: ys => by
    simp only [List.map_cons, NestedKey.datas, PySem.W.alikeAll, NestedKey.data, PySem.W.alike]
    rw [alike_nums xs ys]
    rfl
theorem alk_map {α : Type} {f : α → NestedKey} (al : ∀ a b, PySem.W.alike (f a).data (f b).data = true) (so : ∀ a, ∃ x r, (f a).data = .tuple (x :: r)) (xs : List α) : Alk (xs.map f) :=
  alk_of (p := fun k => ∃ a, k = f a) (fun k hk => by obtain ⟨a, _, rfl⟩ := List.mem_map.mp hk; exact ⟨a, rfl⟩) (fun a b ⟨i, hi⟩ ⟨j, hj⟩ => by rw [hi, hj]; exact al i j) (.inl fun a ⟨i, hi⟩ => by rw [hi]; exact so i)
theorem alk_pr (xs : List Pr) : Alk (xs.map kPr) := alk_map (fun a b => by simp [kPr, NestedKey.data, NestedKey.datas, PySem.W.alike, PySem.W.alikeAll, alike_texts]) (fun a => ⟨_, _, rfl⟩) xs
theorem alk_it (xs : List It2) : Alk (xs.map kIt) := alk_map (fun a b => by simp [kIt, NestedKey.data, NestedKey.datas, PySem.W.alike, PySem.W.alikeAll, alike_nums]) (fun a => ⟨_, _, rfl⟩) xs
theorem alk_nd (xs : List (Int × Int)) : Alk (xs.map kNd) := alk_map (fun a b => by simp [kNd, NestedKey.data, NestedKey.datas, PySem.W.alike, PySem.W.alikeAll]) (fun a => ⟨_, _, rfl⟩) xs
/-! ### sorted by keys -/
def srtBy {α : Type} (f : α → NestedKey) (xs : List α) : List α := xs.mergeSort fun a b => PySem.W.dataLe false NestedKey.data (f a) (f b)
theorem srt_map {α : Type} (f : α → NestedKey) (xs : List α) : srt (xs.map f) = (srtBy f xs).map f := by
  unfold srt srtBy
  exact (List.map_mergeSort (r := fun a b => PySem.W.dataLe false NestedKey.data (f a) (f b)) (s := PySem.W.dataLe false NestedKey.data) (f := f) fun _ _ _ _ => rfl).symm
theorem srtBy_perm {α : Type} (f : α → NestedKey) (xs : List α) : (srtBy f xs).Perm xs := List.mergeSort_perm ..
theorem srtBy_mem {α : Type} {f : α → NestedKey} {xs : List α} {x : α} : x ∈ srtBy f xs ↔ x ∈ xs := (srtBy_perm f xs).mem_iff
/-- strictly rising by keys -/
def SrtBy {α : Type} (f : α → NestedKey) (xs : List α) : Prop := Srt (xs.map f)
theorem SrtBy.ext {α : Type} {f : α → NestedKey} (h : ∀ a b, f a = f b → a = b) {xs ys : List α} (hx : SrtBy f xs) (hy : SrtBy f ys) (hm : ∀ x, x ∈ xs ↔ x ∈ ys) : xs = ys := by
  refine map_inj h (Srt.ext hx hy fun k => ?_)
  rw [List.mem_map, List.mem_map]
  constructor
  · rintro ⟨a, ha, e⟩
    exact ⟨a, (hm a).mp ha, e⟩
  · rintro ⟨a, ha, e⟩
    exact ⟨a, (hm a).mpr ha, e⟩
theorem srtBy_srt {α : Type} {f : α → NestedKey} (h : ∀ a b, f a = f b → a = b) {xs : List α} (ha : Alk (xs.map f)) (n : xs.Nodup) : SrtBy f (srtBy f xs) := by
  unfold SrtBy
  rw [← srt_map]
  exact srt_srt ha.1 (nodup_map_inj h n)
theorem SrtBy.fix {α : Type} {f : α → NestedKey} (h : ∀ a b, f a = f b → a = b) {xs : List α} (ha : Alk (xs.map f)) (s : SrtBy f xs) : srtBy f xs = xs := by
  refine map_inj h ?_
  rw [← srt_map]
  exact Srt.fix ha.1 s
theorem SrtBy.nodup {α : Type} {f : α → NestedKey} {xs : List α} (s : SrtBy f xs) : xs.Nodup := nodup_of_map_inj (Srt.nodup s)
/-! ### tables -/
def lk (t : Tab) (w : Str) : Option Str := (t.find? fun p => decide (p.1 = w)).map (·.2)
def tD (t : Tab) : List (Key × V) := t.map fun p => (Sum.inr p.1, V.str p.2)
theorem dec_inr (a b : Str) : decide ((Sum.inr a : Key) = Sum.inr b) = decide (a = b) := key_rr a b
theorem valV_tD (t : Tab) (w : Str) : valV (tD t) (.inr w) = (lk t w).map V.str := by
  induction t with
  | nil => rfl
  | cons p t ih =>
    unfold tD lk at *
    unfold valV at *
    rw [List.map_cons, List.find?_cons, List.find?_cons, dec_inr]
    cases decide (p.1 = w) with
    | true => rfl
    | false => exact ih
theorem lk_cons (p : Str × Str) (t : Tab) (w : Str) : lk (p :: t) w = if p.1 = w then some p.2 else lk t w := by
  unfold lk
  rw [List.find?_cons]
  by_cases h : p.1 = w
  · rw [decide_eq_true h, if_pos h]; rfl
  · rw [decide_eq_false h, if_neg h]
theorem lk_some_mem {t : Tab} {w n : Str} (h : lk t w = some n) : (w, n) ∈ t := by
  induction t with
  | nil => cases h
  | cons p t ih =>
    rw [lk_cons] at h
    by_cases e : p.1 = w
    · rw [if_pos e] at h
      have e2 := Option.some.inj h
      obtain ⟨p1, p2⟩ := p
      simp only at e e2
      subst e e2
      exact List.mem_cons_self
    · rw [if_neg e] at h
      exact List.mem_cons_of_mem _ (ih h)
theorem lk_none {t : Tab} {w : Str} : lk t w = none ↔ w ∉ t.map (·.1) := by
  induction t with
  | nil => simp [lk]
  | cons p t ih =>
    rw [lk_cons, List.map_cons, List.mem_cons]
    by_cases e : p.1 = w
    · rw [if_pos e]
      simp [e]
    · rw [if_neg e, ih]
      have e' : ¬ w = p.1 := fun z => e z.symm
      simp [e']
theorem lk_mem {t : Tab} (hn : (t.map (·.1)).Nodup) {p : Str × Str} (hp : p ∈ t) : lk t p.1 = some p.2 := by
  induction t with
  | nil => cases hp
  | cons q t ih =>
    rw [List.map_cons, List.nodup_cons] at hn
    rw [lk_cons]
    rcases List.mem_cons.mp hp with e | hp
    · subst e
      rw [if_pos rfl]
    · have ne : ¬ q.1 = p.1 := fun e => hn.1 (by rw [e]; exact List.mem_map.mpr ⟨p, hp, rfl⟩)
      rw [if_neg ne]
      exact ih hn.2 hp
end K25
/-! what is reached; estimates -/
namespace K25
open PySem PySem.Spec PyProof.Rows L2
section
variable {α : Type}
inductive Reach (succ : α → List α) (I : α → Prop) : α → Prop
  | base {p : α} : I p → Reach succ I p
  | step {p q : α} : Reach succ I p → q ∈ succ p → Reach succ I q
theorem Reach.sub {succ : α → List α} {I J : α → Prop} (h : ∀ p, I p → J p) {p : α} (r : Reach succ I p) : Reach succ J p := by
  induction r with
  | base i => exact .base (h _ i)
  | step _ m ih => exact .step ih m
theorem Reach.closed {succ : α → List α} {I C : α → Prop} (h : ∀ p, I p → C p) (hc : ∀ p q, C p → q ∈ succ p → C q) {p : α} (r : Reach succ I p) : C p := by
  induction r with
  | base i => exact h _ i
  | step _ m ih => exact hc _ _ ih m
theorem Reach.congr {succ : α → List α} {I J : α → Prop} (h : ∀ p, I p ↔ J p) {p : α} : Reach succ I p ↔ Reach succ J p := ⟨Reach.sub fun p => (h p).mp, Reach.sub fun p => (h p).mpr⟩
/-! ### a search with a waiting list -/
/-- ahead of a turn -/
structure Dfs (succ : α → List α) (I : α → Prop) (met waiting : List α) : Prop where
  nd : met.Nodup
  init : ∀ p, I p → p ∈ met
  reach : ∀ p ∈ met, Reach succ I p
  sub : ∀ p ∈ waiting, p ∈ met
  done : ∀ p ∈ met, p ∉ waiting → ∀ q ∈ succ p, q ∈ met
/-- within a turn at p: what of its successors is done already -/
structure DfsIn (succ : α → List α) (I : α → Prop) (p : α) (seen : List α) (met waiting : List α) : Prop where
  nd : met.Nodup
  init : ∀ p, I p → p ∈ met
  reach : ∀ p ∈ met, Reach succ I p
  sub : ∀ p ∈ waiting, p ∈ met
  here : p ∈ met
  done : ∀ q ∈ met, q ∉ waiting → q = p ∨ ∀ z ∈ succ q, z ∈ met
  part : ∀ z ∈ seen, z ∈ met
variable {succ : α → List α} {I : α → Prop} {met waiting seen : List α} {p q : α}
theorem Dfs.pop (d : Dfs succ I met (waiting ++ [p])) : DfsIn succ I p [] met waiting where
  nd := d.nd
  init := d.init
  reach := d.reach
  sub := fun q hq => d.sub q (List.mem_append_left _ hq)
  here := d.sub p (by simp)
  done := fun q hq hn => by
    rcases Classical.em (q = p) with e | e
    · exact .inl e
    · refine .inr (d.done q hq fun z => ?_)
      rcases List.mem_append.mp z with z | z
      · exact hn z
      · exact e (List.mem_singleton.mp z)
  part := fun _ h => nomatch h
theorem DfsIn.old (d : DfsIn succ I p seen met waiting) (h : q ∈ met) : DfsIn succ I p (seen ++ [q]) met waiting :=
  ⟨d.nd, d.init, d.reach, d.sub, d.here, d.done, fun z hz => (List.mem_append.mp hz).elim (d.part z) fun e => by rw [List.mem_singleton.mp e]; exact h⟩
theorem DfsIn.new (d : DfsIn succ I p seen met waiting) (h : q ∉ met) (hs : q ∈ succ p) : DfsIn succ I p (seen ++ [q]) (met ++ [q]) (waiting ++ [q]) where
  nd := by
    rw [List.nodup_append]
    exact ⟨d.nd, by simp, fun x hx y hy e => h (by rw [List.mem_singleton.mp hy] at e; rw [← e]; exact hx)⟩
  init := fun z hz => List.mem_append_left _ (d.init z hz)
  reach := fun z hz => (List.mem_append.mp hz).elim (d.reach z) fun e => by rw [List.mem_singleton.mp e]; exact .step (d.reach p d.here) hs
  sub := fun z hz => (List.mem_append.mp hz).elim (fun e => List.mem_append_left _ (d.sub z e)) fun e => List.mem_append_right _ e
  here := List.mem_append_left _ d.here
  done := fun z hz hn => by
    rcases List.mem_append.mp hz with e | e
    · rcases d.done z e (fun y => hn (List.mem_append_left _ y)) with y | y
      · exact .inl y
      · exact .inr fun u hu => List.mem_append_left _ (y u hu)
    · exact absurd (List.mem_append_right _ e) hn
  part := fun z hz => (List.mem_append.mp hz).elim (fun e => List.mem_append_left _ (d.part z e)) fun e => List.mem_append_right _ e
theorem DfsIn.fin (d : DfsIn succ I p seen met waiting) (h : ∀ q ∈ succ p, q ∈ seen) : Dfs succ I met waiting :=
  ⟨d.nd, d.init, d.reach, d.sub, fun q hq hn => (d.done q hq hn).elim (fun e => by subst e; exact fun z hz => d.part z (h z hz)) id⟩
theorem Dfs.ends (d : Dfs succ I met []) : ∀ p, p ∈ met ↔ Reach succ I p := fun p =>
  ⟨d.reach p, fun r => Reach.closed (C := fun p => p ∈ met) d.init (fun p q hp hq => d.done p hp (by simp) q hq) r⟩
theorem Dfs.start {met : List α} (n : met.Nodup) (h : ∀ p, p ∈ met ↔ I p) : Dfs succ I met met :=
  ⟨n, fun p hp => (h p).mpr hp, fun p hp => .base ((h p).mp hp), fun _ hp => hp, fun p hp hn => absurd hp hn⟩
/-! ### a search along the list of what is found -/
structure Bfs (succ : α → List α) (I : α → Prop) (n : Nat) (seen found : List α) : Prop where
  nd : found.Nodup
  init : ∀ p, I p → p ∈ found
  reach : ∀ p ∈ found, Reach succ I p
  done : ∀ i p, i < n → found[i]? = some p → ∀ q ∈ succ p, q ∈ found
  part : ∀ z ∈ seen, z ∈ found
variable {found : List α} {n : Nat}
theorem Bfs.start (h1 : found.Nodup) (h : ∀ p, p ∈ found ↔ I p) : Bfs succ I 0 [] found := ⟨h1, fun p hp => (h p).mpr hp, fun p hp => .base ((h p).mp hp), fun i _ hi => absurd hi (Nat.not_lt_zero i), fun _ h => nomatch h⟩
theorem Bfs.old (d : Bfs succ I n seen found) (h : q ∈ found) : Bfs succ I n (seen ++ [q]) found :=
  ⟨d.nd, d.init, d.reach, d.done, fun z hz => (List.mem_append.mp hz).elim (d.part z) fun e => by rw [List.mem_singleton.mp e]; exact h⟩
theorem Bfs.new (d : Bfs succ I n seen found) (hn : n ≤ found.length) (hp : p ∈ found) (h : q ∉ found) (hs : q ∈ succ p) : Bfs succ I n (seen ++ [q]) (found ++ [q]) where
  nd := by
    rw [List.nodup_append]
    exact ⟨d.nd, by simp, fun x hx y hy e => h (by rw [List.mem_singleton.mp hy] at e; rw [← e]; exact hx)⟩
  init := fun z hz => List.mem_append_left _ (d.init z hz)
  reach := fun z hz => (List.mem_append.mp hz).elim (d.reach z) fun e => by rw [List.mem_singleton.mp e]; exact .step (d.reach p hp) hs
  done := fun i z hi hz y hy => List.mem_append_left _ (d.done i z hi (by rw [List.getElem?_append_left (by omega)] at hz; exact hz) y hy)
  part := fun z hz => (List.mem_append.mp hz).elim (fun e => List.mem_append_left _ (d.part z e)) fun e => List.mem_append_right _ e
theorem Bfs.next (d : Bfs succ I n seen found) (hp : found[n]? = some p) (h : ∀ q ∈ succ p, q ∈ seen) : Bfs succ I (n + 1) [] found :=
  ⟨d.nd, d.init, d.reach, fun i z hi hz y hy => by
    rcases Nat.lt_or_eq_of_le (Nat.le_of_lt_succ hi) with e | e
    · exact d.done i z e hz y hy
    · subst e
      rw [hp] at hz
      cases hz
      exact d.part y (h y hy), fun _ h => nomatch h⟩
theorem Bfs.skip (d : Bfs succ I n [] found) (h : found.length ≤ n) : Bfs succ I (n + 1) [] found :=
  ⟨d.nd, d.init, d.reach, fun i z hi hz y hy => d.done i z (by have := (List.getElem?_eq_some_iff.mp hz).1; omega) hz y hy, fun _ h => nomatch h⟩
theorem Bfs.ends (d : Bfs succ I n [] found) (h : found.length ≤ n) : ∀ p, p ∈ found ↔ Reach succ I p := fun p =>
  ⟨d.reach p, fun r => Reach.closed (C := fun p => p ∈ found) d.init (fun p q hp hq => by
    obtain ⟨i, hi, e⟩ := List.getElem_of_mem hp
    exact d.done i p (by omega) (by rw [List.getElem?_eq_getElem hi, e]) q hq) r⟩
end
/-! ### pairs -/
noncomputable def behind (ft : Tab) (p : Pr) (r : Row) : Pr := (r.2.2, match lk ft r.2.1 with
  | none => p.2
  | some n => if n ∈ p.2 then p.2 else srtBy .text (p.2 ++ [n]))
/-- unseen steps -/
noncomputable def succP (rows : List Row) (ft tab : Tab) (p : Pr) : List Pr := (rows.filter fun r => decide (r.1 = p.1) && (lk tab r.2.1).isNone).map (behind ft p)
theorem mem_succP {rows : List Row} {ft tab : Tab} {p q : Pr} : q ∈ succP rows ft tab p ↔ ∃ r ∈ rows, r.1 = p.1 ∧ lk tab r.2.1 = none ∧ q = behind ft p r := by
  unfold succP
  rw [List.mem_map]
  constructor
  · rintro ⟨r, hr, e⟩
    obtain ⟨h1, h2⟩ := List.mem_filter.mp hr
    rw [Bool.and_eq_true, decide_eq_true_eq, Option.isNone_iff_eq_none] at h2
    exact ⟨r, h1, h2.1, h2.2, e.symm⟩
  · rintro ⟨r, hr, h1, h2, e⟩
    exact ⟨r, List.mem_filter.mpr ⟨hr, by rw [Bool.and_eq_true, decide_eq_true_eq, Option.isNone_iff_eq_none]; exact ⟨h1, h2⟩⟩, e.symm⟩
abbrev Clo (rows : List Row) (ft tab : Tab) : (Pr → Prop) → Pr → Prop := Reach (succP rows ft tab)
/-- all pairs there are -/
structure Uni (rows : List Row) (ft : Tab) (U : List Pr) : Prop where
  nd : U.Nodup
  few : U.length < 60
  cl : ∀ p ∈ U, ∀ r ∈ rows, r.1 = p.1 → behind ft p r ∈ U
  srt : ∀ p ∈ U, SrtBy .text p.2
  short : ∀ p ∈ U, p.2.length ≤ 10
section
variable {rows : List Row} {ft tab : Tab} {U : List Pr} {I J : Pr → Prop}
theorem Uni.clo (u : Uni rows ft U) (h : ∀ p, I p → p ∈ U) {p : Pr} (c : Clo rows ft tab I p) : p ∈ U := Reach.closed (C := fun p => p ∈ U) h (fun p q hp hq => by
  obtain ⟨r, hr, e1, _, e2⟩ := mem_succP.mp hq
  rw [e2]
  exact u.cl p hp r hr e1) c
--the list of what is reached
open Classical in
noncomputable def cloL (rows : List Row) (ft tab : Tab) (U : List Pr) (I : Pr → Prop) : List Pr := srtBy kPr (U.filter fun p => decide (Clo rows ft tab I p))
open Classical in
theorem cloL_mem (u : Uni rows ft U) (h : ∀ p, I p → p ∈ U) {p : Pr} : p ∈ cloL rows ft tab U I ↔ Clo rows ft tab I p := by
  unfold cloL
  rw [srtBy_mem, List.mem_filter]
  exact ⟨fun q => @of_decide_eq_true _ _ q.2, fun c => ⟨u.clo h c, @decide_eq_true _ _ c⟩⟩
theorem cloL_sub {p : Pr} (h : p ∈ cloL rows ft tab U I) : p ∈ U := by
  unfold cloL at h
  rw [srtBy_mem, List.mem_filter] at h
  exact h.1
theorem cloL_srt (u : Uni rows ft U) : SrtBy kPr (cloL rows ft tab U I) := by
  unfold cloL
  exact srtBy_srt kPr_inj (alk_pr _) (u.nd.filter _)
theorem cloL_ext (u : Uni rows ft U) (h : ∀ p, I p → p ∈ U) {L : List Pr} (s : SrtBy kPr L) (hm : ∀ p, p ∈ L ↔ Clo rows ft tab I p) : L = cloL rows ft tab U I :=
  SrtBy.ext kPr_inj s (cloL_srt u) fun p => by rw [cloL_mem u h, hm]
theorem cloL_congr (u : Uni rows ft U) (h : ∀ p, I p ↔ J p) : cloL rows ft tab U I = cloL rows ft tab U J := by
  have e : I = J := funext fun p => propext (h p)
  rw [e]
/-- one sight more -/
def Ends (rows : List Row) (ft tab : Tab) (s : Str) (E : List Pr) (p : Pr) : Prop := ∃ q ∈ E, ∃ r ∈ rows, r.1 = q.1 ∧ lk tab r.2.1 = some s ∧ p = behind ft q r
theorem Ends.in_U (u : Uni rows ft U) {s : Str} {E : List Pr} (h : ∀ p ∈ E, p ∈ U) {p : Pr} (e : Ends rows ft tab s E p) : p ∈ U := by
  obtain ⟨q, hq, r, hr, e1, _, rfl⟩ := e
  exact u.cl q (h q hq) r hr e1
noncomputable def firstE (rows : List Row) (ft tab : Tab) (U : List Pr) (st : Int) : List Pr := cloL rows ft tab U fun p => p = (st, [])
noncomputable def laterE (rows : List Row) (ft tab : Tab) (U : List Pr) (s : Str) (E : List Pr) : List Pr := cloL rows ft tab U (Ends rows ft tab s E)
end
end K25
/-! values -/
namespace K25
open PySem PySem.Spec PyProof.Rows L2
/-- a name's text -/
def azS : Str := "abcdefghijklmnopqrstuvwxyz"
def NmOk (x : Str) : Prop := 1 ≤ x.length ∧ x.length ≤ 12 ∧ ∀ c ∈ x.cps.toList, c ∈ azS.cps.toList
theorem tyx_L {K : PySem.W.Frag} {H : Hp} {a : Addr} {xs : List V} (h : SqL K H a xs) : TyX K H (.ref a) (.type "list") := by
  rcases h with (h | ⟨o, h⟩) | ⟨o, its, n, h, c, _⟩
  · exact .base (.lst h)
  · exact .base (.frz h)
  · exact .kList h c
theorem tyx_T {K : PySem.W.Frag} {H : Hp} {a : Addr} {xs : List V} (h : SqT K H a xs) : TyX K H (.ref a) (.type "tuple") := by
  rcases h with (h | ⟨o, h⟩) | ⟨o, its, n, h, c, _⟩
  · exact .base (.tup h)
  · exact .fTuple h
  · exact .kTuple h c
theorem tyx_D {K : PySem.W.Frag} {H : Hp} {a : Addr} {xs : List (Key × V)} (h : Rd H a (.dK xs)) : TyX K H (.ref a) (.type "dict") := by
  rcases h with h | ⟨o, h⟩
  · exact .base (.dK h)
  · exact .fDict h
section
variable {P : Program} {w : World} {K : PySem.W.Frag} {mg : Str → Option Value} {base : Heap}
def sp_is_integer : Sp := fun vs H Q _ => ∃ i : Int, vs = [.int i] ∧ Ret H Q fun v H' => v = .bl true
theorem sc_is_integer : FnScope ["value"] ["value"] d_is_integer.scope := ⟨rfl, rfl, rfl, by decide +kernel, rfl, by decide +kernel, by decide +kernel⟩
theorem ok_is_integer (T : Tp K mg) : Cal P w K mg base "is_integer" 1 ["value"] sp_is_integer := by
  refine ⟨_, T.glo 0, ?_⟩
  show Df P w K mg base (d_is_integer.path K) 1 ["value"] sp_is_integer
  refine T.df 0 (d := d_is_integer) rfl rfl sc_is_integer (fun vs H Q E h => by obtain ⟨_, e, _⟩ := h; rw [e]; rfl) (fun _ _ _ _ _ _ us hl => match us, hl with | [_], _ => rfl) (fun cdv A outer s H vs Q E hr h => ?_)

  obtain ⟨i, rfl, q⟩ := h
  refine ⟨_, PSs.nox (pss_one (ps_ret (pe_and (pe_callB call_isi rfl (T.free 75) boot_isinstance (pa_cons (pv 0) (pa_cons (pe_bltn (v := .ty "int") rfl (T.free 83) boot_int rfl) pa_nil))) (pe_one (pe_not (pe_callB call_isi rfl (T.free 75) boot_isinstance (pa_cons (pv 0) (pa_cons (pe_bltn (v := .ty "bool") rfl (T.free 85) boot_bool rfl) pa_nil)))))))), ?_⟩
  refine ⟨_, rfl, .int i, .ty "int", _, _, true, rfl, .ty _, .base (.int i), kit_ty (by decide +kernel), true, rfl, ?_⟩
  refine iteT ?_
  refine ⟨_, rfl, .int i, .ty "bool", _, _, false, rfl, .ty _, .base (.int i), kit_ty (by decide +kernel), false, rfl, ?_⟩
  exact q.of (Ex.refl _) rfl
def sp_is_count : Sp := fun vs H Q _ => ∃ i m : Int, vs = [.int i, .int m] ∧ 0 ≤ i ∧ i ≤ m ∧ Ret H Q fun v H' => v = .bl true
theorem sc_is_count : FnScope ["value", "most"] ["value", "most"] d_is_count.scope := ⟨rfl, rfl, rfl, by decide +kernel, rfl, by decide +kernel, by decide +kernel⟩
theorem ok_is_count (T : Tp K mg) : Cal P w K mg base "is_count" 2 ["value", "most"] sp_is_count := by
  refine ⟨_, T.glo 1, ?_⟩
  show Df P w K mg base (d_is_count.path K) 2 ["value", "most"] sp_is_count
  refine T.df 1 (d := d_is_count) rfl rfl sc_is_count (fun vs H Q E h => by obtain ⟨_, _, e, _⟩ := h; rw [e]; rfl) (fun _ _ _ _ _ _ us hl => match us, hl with | [_, _], _ => rfl) (fun cdv A outer s H vs Q E hr h => ?_)

  obtain ⟨i, m, rfl, h0, h1, q⟩ := h
  refine ⟨_, PSs.nox (pss_one (ps_ret (pe_and (pe_cal (ok_is_integer T) hr (by decide) rfl (pa_cons (pv 0) pa_nil)) (pe_one (pe_chain op_le op_le pe_int (pv 0) (pv 1)))))), ?_⟩
  refine ⟨_, rfl, i, rfl, fun v H1 e1 ev => ?_⟩
  subst ev
  refine ⟨true, rfl, iteT ?_⟩
  repeat (first | refine ⟨_, rfl, ?_⟩ | refine ⟨_, _, rfl, rfl, ?_⟩)
  rw [decide_eq_true h0]
  refine iteT ?_
  repeat (first | refine ⟨_, rfl, ?_⟩ | refine ⟨_, _, rfl, rfl, ?_⟩)
  exact q.of e1 (congrArg V.bl (decide_eq_true h1))
def sp_is_state : Sp := fun vs H Q _ => ∃ i : Int, vs = [.int i] ∧ 0 ≤ i ∧ i ≤ 99 ∧ Ret H Q fun v H' => v = .bl true
theorem sc_is_state : FnScope ["value"] ["value"] d_is_state.scope := ⟨rfl, rfl, rfl, by decide +kernel, rfl, by decide +kernel, by decide +kernel⟩
theorem ok_is_state (T : Tp K mg) : Cal P w K mg base "is_state" 3 ["value"] sp_is_state := by
  refine ⟨_, T.glo 2, ?_⟩
  show Df P w K mg base (d_is_state.path K) 3 ["value"] sp_is_state
  refine T.df 2 (d := d_is_state) rfl rfl sc_is_state (fun vs H Q E h => by obtain ⟨_, e, _⟩ := h; rw [e]; rfl) (fun _ _ _ _ _ _ us hl => match us, hl with | [_], _ => rfl) (fun cdv A outer s H vs Q E hr h => ?_)

  obtain ⟨i, rfl, h0, h1, q⟩ := h
  refine ⟨_, PSs.nox (pss_one (ps_ret (pe_cal (ok_is_count T) hr (by decide) rfl (pa_cons (pv 0) (pa_cons (pe_mint rfl (T.int 86)) pa_nil))))), ?_⟩
  refine ⟨_, rfl, ?_⟩
  refine ⟨_, _, rfl, h0, h1, fun v H1 e1 ev => ?_⟩
  subst ev
  exact q.of e1 rfl
def sp_is_name : Sp := fun vs H Q _ => ∃ x : Str, vs = [.str x] ∧ NmOk x ∧ Ret H Q fun v H' => v = .bl true
theorem sc_is_name : FnScope ["value", "letter"] ["value"] d_is_name.scope := ⟨rfl, rfl, rfl, by decide +kernel, rfl, by decide +kernel, by decide +kernel⟩
theorem ok_is_name (T : Tp K mg) : Cal P w K mg base "is_name" 1 ["value"] sp_is_name := by
  refine ⟨_, T.glo 3, ?_⟩
  show Df P w K mg base (d_is_name.path K) 1 ["value"] sp_is_name
  refine T.df 3 (d := d_is_name) rfl rfl sc_is_name (fun vs H Q E h => by obtain ⟨_, e, _⟩ := h; rw [e]; rfl) (fun _ _ _ _ _ _ us hl => match us, hl with | [_], _ => rfl) (fun cdv A outer s H vs Q E hr h => ?_)

  obtain ⟨x, rfl, ⟨l0, l1, lc⟩, q⟩ := h
  refine ⟨_, PSs.nox (pss_cons (ps_if (PW.pt (pw_or (pt_not (pt_val (pe_callB call_isi rfl (T.free 75) boot_isinstance (pa_cons (pv 0) (pa_cons (pe_bltn (v := .ty "str") rfl (T.free 84) boot_str rfl) pa_nil))))) (pw_or1 (pt_not (pt_chain op_le op_le pe_int (pe_callB call_len_str rfl (T.free 74) boot_len (pa_cons (pv 0) pa_nil)) (pe_mint rfl (T.int 87)))))))
      (pss_one (ps_ret pe_bl)) pss_nil)
      (pss_cons (ps_for PassesOwn.never rfl (pi_str (pv 0)) (pg_name (i := 1) sc_is_name.nd rfl (Or.inl rfl))
      (pss_one (ps_if (pt_cmpR op_notIn_sign (pv 1) (pe_mstr rfl (T.str 93)) (by with_unfolding_all rfl))
      (pss_one (ps_ret pe_bl)) pss_nil)))
      (pss_one (ps_ret pe_bl)))), ?_⟩
  refine ⟨_, rfl, .str x, .ty "str", _, _, true, rfl, .ty _, .base (.str x), kit_ty (by decide +kernel), true, rfl, ?_⟩
  refine iteF ?_
  refine ⟨_, rfl, x, rfl, Nat.le_trans l1 (by decide), ?_⟩
  refine ⟨_, _, rfl, rfl, _, rfl, ?_⟩
  rw [decide_eq_true (show (1 : Int) ≤ (x.length : Int) by omega)]
  refine iteT ?_
  refine ⟨_, _, rfl, rfl, _, rfl, ?_⟩
  rw [decide_eq_true (show (x.length : Int) ≤ (12 : Int) by omega)]
  refine iteF ?_
  refine ⟨_, rfl, x, rfl, ?_⟩
  refine for_it walk_str (fun i σ H1 => H1 = H ∧ ∃ v, σ = [some (.str x), v]) ⟨rfl, _, rfl⟩ (fun _ _ _ _ _ => True.intro) (fun i v σ H1 H2 hi p y => ?_) (fun σ H1 p => ?_)
  · obtain ⟨rfl, v0, rfl⟩ := p
    obtain ⟨rfl, c, hc, rfl⟩ := y
    refine ⟨_, rfl, ?_⟩
    refine ⟨c, _, rfl, rfl, _, rfl, ?_⟩
    refine itF (nF (lc c (by rw [Array.mem_toList_iff]; exact Array.mem_of_getElem? hc))) ?_
    exact ⟨rfl, _, rfl⟩
  · obtain ⟨rfl, v0, rfl⟩ := p
    exact q.of (Ex.refl _) rfl
def sp_is_row : Sp := fun vs H Q _ => ∃ a xs, vs = [.ref a] ∧ (SqL K H a xs ∨ SqT K H a xs) ∧ Ret H Q fun v H' => v = .bl true
theorem sc_is_row : FnScope ["value"] ["value"] d_is_row.scope := ⟨rfl, rfl, rfl, by decide +kernel, rfl, by decide +kernel, by decide +kernel⟩
theorem ok_is_row (T : Tp K mg) : Cal P w K mg base "is_row" 1 ["value"] (sp_is_row (K := K)) := by
  refine ⟨_, T.glo 4, ?_⟩
  show Df P w K mg base (d_is_row.path K) 1 ["value"] (sp_is_row (K := K))
  refine T.df 4 (d := d_is_row) rfl rfl sc_is_row (fun vs H Q E h => by obtain ⟨_, _, e, _⟩ := h; rw [e]; rfl) (fun _ _ _ _ _ _ us hl => match us, hl with | [_], _ => rfl) (fun cdv A outer s H vs Q E hr h => ?_)

  obtain ⟨a, xs, rfl, hs, q⟩ := h
  refine ⟨_, PSs.nox (pss_one (ps_ret (pe_callB call_isiT rfl (T.free 75) boot_isinstance (pa_cons (pv 0) (pa_cons (pe_tup (pa_cons (pe_bltn (v := .ty "list") rfl (T.free 77) boot_list rfl) (pa_cons (pe_bltn (v := .ty "tuple") rfl (T.free 80) boot_tuple rfl) pa_nil))) pa_nil))))), ?_⟩
  refine ⟨_, rfl, by show 2 ≤ sizeLine; decide, fun p hp => ?_⟩
  rcases hs with hs | hs
  · have hs' := (Ex.new (o := .tup [.ty "list", .ty "tuple"]) hp).sqL hs
    refine ⟨_, p, _, _, _, true, rfl, upd_same, .cons (.ty _) (.cons (.ty _) .nil), tyx_L hs', kitAny_cons (b := true) (kit_ty (b := "list") (by decide +kernel)) (fun z => nomatch z) (fun _ => rfl), ?_⟩
    exact q.of (Ex.new hp) rfl
  · have hs' := (Ex.new (o := .tup [.ty "list", .ty "tuple"]) hp).sqT hs
    refine ⟨_, p, _, _, _, true, rfl, upd_same, .cons (.ty _) (.cons (.ty _) .nil), tyx_T hs', kitAny_cons (r := true) (b := false) (kit_ty (b := "list") (by decide +kernel)) (fun _ => kitAny_cons (b := true) (kit_ty (b := "tuple") (by decide +kernel)) (fun z => nomatch z) (fun _ => rfl)) (fun z => nomatch z), ?_⟩
    exact q.of (Ex.new hp) rfl
def sp_is_ascending : Sp := fun vs H Q _ => ∃ a, ∃ ns : List Int, vs = [.ref a] ∧ SqT K H a (ns.map V.int) ∧ ns.Pairwise (· < ·) ∧ ns.length < 100000 ∧ Ret H Q fun v H' => v = .bl true
theorem sc_is_ascending : FnScope ["row", "at"] ["row"] d_is_ascending.scope := ⟨rfl, rfl, rfl, by decide +kernel, rfl, by decide +kernel, by decide +kernel⟩
theorem ok_is_ascending (T : Tp K mg) : Cal P w K mg base "is_ascending" 1 ["row"] (sp_is_ascending (K := K)) := by
  refine ⟨_, T.glo 5, ?_⟩
  show Df P w K mg base (d_is_ascending.path K) 1 ["row"] (sp_is_ascending (K := K))
  refine T.df 5 (d := d_is_ascending) rfl rfl sc_is_ascending (fun vs H Q E h => by obtain ⟨_, _, e, _⟩ := h; rw [e]; rfl) (fun _ _ _ _ _ _ us hl => match us, hl with | [_], _ => rfl) (fun cdv A outer s H vs Q E hr h => ?_)

  obtain ⟨a, ns, rfl, hs, hp, hl, q⟩ := h
  refine ⟨_, PSs.nox (pss_cons (ps_for PassesOwn.never rfl (pi_range2 rfl (T.free 81) (pa_cons pe_int (pa_cons (pe_callB call_len_seq rfl (T.free 74) boot_len (pa_cons (pv 0) pa_nil)) pa_nil))) (pg_name (i := 1) sc_is_ascending.nd rfl (Or.inl rfl))
      (pss_one (ps_if (pt_not (pt_cmpR op_lt (pe_ix ix_tup (pv 0) (pe_op op_sub (pv 1) pe_int) (fun _ _ => rfl)) (pe_ix ix_tup (pv 0) (pv 1) (fun _ _ => rfl)) (nomark _)))
      (pss_one (ps_ret pe_bl)) pss_nil)))
      (pss_one (ps_ret pe_bl))), ?_⟩
  refine ⟨_, rfl, a, _, rfl, .inr hs, 1, _, rfl, ⟨by omega, by omega, by omega, by rw [List.length_map]; omega⟩, ?_⟩
  refine for_it walk_range (fun i σ H1 => H1 = H ∧ ∃ v, σ = [some (.ref a), v]) ⟨rfl, _, rfl⟩ (fun _ _ _ _ _ => True.intro) (fun i v σ H1 H2 hi p y => ?_) (fun σ H1 p => ?_)
  · obtain ⟨rfl, v0, rfl⟩ := p
    obtain ⟨rfl, rfl⟩ := y
    rw [List.length_map] at hi
    have h1 : i < ns.length := by omega
    have h2 : i + 1 < ns.length := by omega
    have e1 : ((1 : Int) + (i : Int)) - 1 = ((i : Nat) : Int) := by omega
    have e2 : ((1 : Int) + (i : Int)) = ((i + 1 : Nat) : Int) := by omega
    refine ⟨_, rfl, ⟨_, rfl, ?_⟩⟩
    refine ⟨_, _, rfl, rfl, ?_⟩
    refine ⟨a, _, _, _, rfl, rfl, hs, by rw [e1]; exact atI_nat (List.getElem?_eq_getElem (by rw [List.length_map]; exact h1)), ?_⟩
    refine ⟨_, rfl, _, rfl, a, _, _, _, rfl, rfl, hs, by rw [e2]; exact atI_nat (List.getElem?_eq_getElem (by rw [List.length_map]; exact h2)), ?_⟩
    refine ⟨_, _, List.getElem_map _, List.getElem_map _, _, rfl, ?_⟩
    refine itF (nF (List.pairwise_iff_getElem.mp hp i (i + 1) h1 h2 (Nat.lt_succ_self i))) ?_
    exact ⟨rfl, _, rfl⟩
  · obtain ⟨rfl, v0, rfl⟩ := p
    exact q.of (Ex.refl _) rfl
end
end K25
/-! machines and watches as they stand; a step's pair -/
namespace K25
open PySem PySem.Spec PyProof.Rows L2
/-- a machine's data -/
structure Sy where
  st : Int
  rows : List Row
  words : List Str
  ft : Tab
  met : List Int
/-- the numbers of the rows that leave st -/
def idx (rows : List Row) (st : Int) : List Nat := (List.range rows.length).filter fun i => decide ((rows[i]?.map (·.1)) = some st)
theorem idx_mem {rows : List Row} {st : Int} {i : Nat} : i ∈ idx rows st ↔ ∃ r, rows[i]? = some r ∧ r.1 = st := by
  unfold idx
  rw [List.mem_filter, List.mem_range, decide_eq_true_eq]
  constructor
  · rintro ⟨h, e⟩
    rw [List.getElem?_eq_getElem h] at e ⊢
    exact ⟨_, rfl, Option.some.inj e⟩
  · rintro ⟨r, h, e⟩
    refine ⟨(List.getElem?_eq_some_iff.mp h).1, ?_⟩
    rw [h, ← e]
    rfl
structure TbOk (t : Tab) : Prop where
  nd : (t.map (·.1)).Nodup
  few : t.length ≤ 50
  nm : ∀ p ∈ t, NmOk p.1 ∧ NmOk p.2
structure SyOk (S : Sy) : Prop where
  ft : TbOk S.ft
  few : S.rows.length ≤ 16
  wrd : ∀ r ∈ S.rows, NmOk r.2.1
structure MAd where
  dx : Addr
  r : Addr
  wl : Addr
  f : Addr
  lv : Addr
  ms : Addr
  kvs : List (Key × V)
def optV : Option Str → V
  | none => .non
  | some x => .str x
structure MacA (K : PySem.W.Frag) (H : Hp) (m : Addr) (S : Sy) (A : MAd) : Prop where
  at_ : H m = some (.ins (cM K) A.dx [("first_state", .int S.st), ("step_rows", .ref A.r), ("word_list", .ref A.wl), ("fault_table", .ref A.f), ("leaving", .ref A.lv), ("met_states", .ref A.ms)])
  rows : ∃ vs, SqL K H A.r vs ∧ NkA K H vs (S.rows.map kRow)
  wds : SqL K H A.wl (S.words.map V.str)
  fts : H A.f = some (.dK (tD S.ft))
  leav : H A.lv = some (.dK A.kvs)
  ix : ∀ st : Int, (valV A.kvs (.inl st) = none ∧ idx S.rows st = []) ∨ ∃ l, valV A.kvs (.inl st) = some (.ref l) ∧ SqL K H l ((idx S.rows st).map fun i => V.int (i : Nat))
  met : SqL K H A.ms (S.met.map V.int)
  ok : SyOk S
def MacO (K : PySem.W.Frag) (H : Hp) (m : Addr) (S : Sy) : Prop := ∃ A, MacA K H m S A
def WatO (K : PySem.W.Frag) (H : Hp) (w : Addr) (tab : Tab) : Prop := ∃ dx t, H w = some (.ins (cW K) dx [("table", .ref t)]) ∧ H t = some (.dK (tD tab)) ∧ TbOk tab
theorem MacA.mono {K : PySem.W.Frag} {H H' : Hp} {m : Addr} {S : Sy} {A : MAd} (h : MacA K H m S A) (e : Ex H H') : MacA K H' m S A := by
  obtain ⟨vs, h1, h2⟩ := h.rows
  exact ⟨e _ _ h.at_, ⟨vs, e.sqL h1, NkA.mono e _ _ h2⟩, e.sqL h.wds, e _ _ h.fts, e _ _ h.leav, fun st => (h.ix st).imp id fun ⟨l, a, b⟩ => ⟨l, a, e.sqL b⟩, e.sqL h.met, h.ok⟩
theorem MacO.mono {K : PySem.W.Frag} {H H' : Hp} {m : Addr} {S : Sy} (h : MacO K H m S) (e : Ex H H') : MacO K H' m S := let ⟨A, h⟩ := h; ⟨A, h.mono e⟩
theorem WatO.mono {K : PySem.W.Frag} {H H' : Hp} {m : Addr} {t : Tab} (h : WatO K H m t) (e : Ex H H') : WatO K H' m t := let ⟨dx, t, h1, h2, h3⟩ := h; ⟨dx, t, e _ _ h1, e _ _ h2, h3⟩
section
variable {K : PySem.W.Frag} {H : Hp}
theorem Nk.pr {v : V} {p : Pr} (h : Nk K H v (kPr p)) : ∃ a b, v = .ref a ∧ SqT K H a [.int p.1, .ref b] ∧ SqT K H b (p.2.map V.str) := by
  cases h with
  | tup h1 h2 =>
    cases h2 with
    | cons a1 h3 =>
      cases h3 with
      | cons a2 h4 =>
        cases h4
        cases a1
        cases a2 with
        | tup b1 b2 =>
          rw [NkA.toStrs b2] at b1
          exact ⟨_, _, rfl, h1, b1⟩
theorem Nk.ofPr {a b : Addr} {p : Pr} (h1 : SqT K H a [.int p.1, .ref b]) (h2 : SqT K H b (p.2.map V.str)) : Nk K H (.ref a) (kPr p) := .tup h1 (.cons (.num _) (.cons (.tup h2 (NkA.strs _)) .nil))
theorem Nk.row {v : V} {r : Row} (h : Nk K H v (kRow r)) : ∃ a, v = .ref a ∧ SqT K H a [.int r.1, .str r.2.1, .int r.2.2] := by
  cases h with
  | tup h1 h2 =>
    cases h2 with
    | cons a1 h3 =>
      cases h3 with
      | cons a2 h4 =>
        cases h4 with
        | cons a3 h5 =>
          cases h5
          cases a1
          cases a2
          cases a3
          exact ⟨_, rfl, h1⟩
theorem Nk.ofRow {a : Addr} {r : Row} (h1 : SqT K H a [.int r.1, .str r.2.1, .int r.2.2]) : Nk K H (.ref a) (kRow r) := .tup h1 (.cons (.num _) (.cons (.text _) (.cons (.num _) .nil)))
theorem Nk.item {v : V} {x : It2} (h : Nk K H v (kIt x)) : ∃ a b c, v = .ref a ∧ SqT K H a [.ref b, .ref c] ∧ SqT K H b (x.1.map V.int) ∧ SqT K H c (x.2.map V.int) := by
  cases h with
  | tup h1 h2 =>
    cases h2 with
    | cons a1 h3 =>
      cases h3 with
      | cons a2 h4 =>
        cases h4
        cases a1 with
        | tup b1 b2 =>
          cases a2 with
          | tup c1 c2 =>
            rw [NkA.toInts b2] at b1
            rw [NkA.toInts c2] at c1
            exact ⟨_, _, _, rfl, h1, b1, c1⟩
theorem Nk.ofItem {a b c : Addr} {x : It2} (h1 : SqT K H a [.ref b, .ref c]) (h2 : SqT K H b (x.1.map V.int)) (h3 : SqT K H c (x.2.map V.int)) : Nk K H (.ref a) (kIt x) :=
  .tup h1 (.cons (.tup h2 (NkA.ints _)) (.cons (.tup h3 (NkA.ints _)) .nil))
theorem Nk.node {v : V} {x : Int × Int} (h : Nk K H v (kNd x)) : ∃ a, v = .ref a ∧ SqT K H a [.int x.1, .int x.2] := by
  cases h with
  | tup h1 h2 =>
    cases h2 with
    | cons a1 h3 =>
      cases h3 with
      | cons a2 h4 =>
        cases h4
        cases a1
        cases a2
        exact ⟨_, rfl, h1⟩
theorem Nk.ofNode {a : Addr} {x : Int × Int} (h1 : SqT K H a [.int x.1, .int x.2]) : Nk K H (.ref a) (kNd x) := .tup h1 (.cons (.num _) (.cons (.num _) .nil))
theorem Nk.est {v : V} {E : List Pr} (h : Nk K H v (kEs E)) : ∃ a vs, v = .ref a ∧ SqT K H a vs ∧ NkA K H vs (E.map kPr) := by
  cases h with
  | tup h1 h2 => exact ⟨_, _, rfl, h1, h2⟩
end
section
variable {P : Program} {w : World} {K : PySem.W.Frag} {mg : Str → Option Value} {base : Heap}
def sp_steps_from (K : PySem.W.Frag) : Sp := fun vs H Q _ => ∃ m S, ∃ st : Int, vs = [.ref m, .int st] ∧ MacO K H m S ∧ Ret H Q fun v H' => ∃ l, v = .ref l ∧ H' l = some (.lst ((idx S.rows st).map fun i => V.int (i : Nat))) ∧ H l = none
theorem sc_steps_from : FnScope ["machine", "state"] ["machine", "state"] d_steps_from.scope := ⟨rfl, rfl, rfl, by decide +kernel, rfl, by decide +kernel, by decide +kernel⟩
theorem ok_steps_from (T : Tp K mg) : Cal P w K mg base "steps_from" 1 ["machine", "state"] (sp_steps_from K) := by
  refine ⟨_, T.glo 20, ?_⟩
  show Df P w K mg base (d_steps_from.path K) 1 ["machine", "state"] (sp_steps_from K)
  refine T.df 17 (d := d_steps_from) rfl rfl sc_steps_from (fun vs H Q E h => by obtain ⟨_, _, _, e, _⟩ := h; rw [e]; rfl) (fun _ _ _ _ _ _ us hl => match us, hl with | [_, _], _ => rfl) (fun cdv A outer s H vs Q E hr h => ?_)

  obtain ⟨m, S, st, rfl, ⟨A, M⟩, q⟩ := h
  refine ⟨_, PSs.nox (pss_one (ps_ret (pe_callTy (call_list_of) rfl (T.free 77) boot_list (pa_cons (pe_dget2 (by exact hu_of hr) (pe_fld (pv 0) rfl) (pv 1) (pe_lst pa_nil) ⟨rfl, rfl, rfl, rfl⟩) pa_nil)))), ?_⟩
  refine ⟨_, rfl, m, _, _, _, _, rfl, M.at_, T.clsM, T.noM.2.2.2.2.1, rfl, ?_⟩
  refine ⟨_, rfl, .inl ⟨_, .inl M.leav⟩, _, rfl, Nat.zero_le _, fun p hp => ?_⟩
  have e1 : Ex H (upd H p (.lst [])) := Ex.new hp
  refine ⟨_, DGet.k (k := .inl st) (e1 _ _ M.leav), ?_⟩
  rcases M.ix st with ⟨e, e2⟩ | ⟨l, e, hl⟩
  · rw [e]
    refine ⟨p, [], rfl, .inl (SqL.of upd_same), fun l hl => ?_⟩
    refine q.of (e1.to hl) ⟨l, rfl, ?_, e1.free hl⟩
    rw [e2]
    exact upd_same
  · rw [e]
    refine ⟨l, _, rfl, .inl (e1.sqL hl), fun l' hl' => ?_⟩
    exact q.of (e1.to hl') ⟨l', rfl, upd_same, e1.free hl'⟩
def sp_sight_of (K : PySem.W.Frag) : Sp := fun vs H Q _ => ∃ a tab, ∃ x : Str, vs = [.ref a, .str x] ∧ WatO K H a tab ∧ Ret H Q fun v H' => v = optV (lk tab x)
theorem sc_sight_of : FnScope ["watch", "word"] ["watch", "word"] d_sight_of.scope := ⟨rfl, rfl, rfl, by decide +kernel, rfl, by decide +kernel, by decide +kernel⟩
theorem ok_sight_of (T : Tp K mg) : Cal P w K mg base "sight_of" 1 ["watch", "word"] (sp_sight_of K) := by
  refine ⟨_, T.glo 33, ?_⟩
  show Df P w K mg base (d_sight_of.path K) 1 ["watch", "word"] (sp_sight_of K)
  refine T.df 30 (d := d_sight_of) rfl rfl sc_sight_of (fun vs H Q E h => by obtain ⟨_, _, _, e, _⟩ := h; rw [e]; rfl) (fun _ _ _ _ _ _ us hl => match us, hl with | [_, _], _ => rfl) (fun cdv A outer s H vs Q E hr h => ?_)

  obtain ⟨a, tab, x, rfl, ⟨dx, t, h1, h2, h3⟩, q⟩ := h
  refine ⟨_, PSs.nox (pss_one (ps_ret (pe_dget1 (by exact hu_of hr) (pe_fld (pv 0) rfl) (pv 1) ⟨rfl, rfl, rfl, rfl⟩))), ?_⟩
  refine ⟨_, rfl, a, _, _, _, _, rfl, h1, T.clsW, T.noW, rfl, ?_⟩
  refine ⟨t, rfl, .inl ⟨_, .inl h2⟩, _, rfl, _, DGet.k (k := .inr x) h2, ?_⟩
  rw [valV_tD]
  refine q.of (Ex.refl _) ?_
  cases lk tab x <;> rfl
def sp_pair_behind (K : PySem.W.Frag) : Sp := fun vs H Q _ => ∃ m S v p i r, vs = [.ref m, v, .int (i : Nat)] ∧ MacO K H m S ∧ Nk K H v (kPr p) ∧ S.rows[i]? = some r ∧ p.2.length < 1000 ∧ Ret H Q fun v' H' => ∃ b, v' = .ref b ∧ Nk K H' v' (kPr (behind S.ft p r))
theorem sc_pair_behind : FnScope ["machine", "pair", "number", "row", "name"] ["machine", "pair", "number"] d_pair_behind.scope := ⟨rfl, rfl, rfl, by decide +kernel, rfl, by decide +kernel, by decide +kernel⟩
theorem ok_pair_behind (T : Tp K mg) : Cal P w K mg base "pair_behind" 1 ["machine", "pair", "number"] (sp_pair_behind K) := by
  refine ⟨_, T.glo 37, ?_⟩
  show Df P w K mg base (d_pair_behind.path K) 1 ["machine", "pair", "number"] (sp_pair_behind K)
  refine T.df 34 (d := d_pair_behind) rfl rfl sc_pair_behind (fun vs H Q E h => by obtain ⟨_, _, _, _, _, _, e, _⟩ := h; rw [e]; rfl) (fun _ _ _ _ _ _ us hl => match us, hl with | [_, _, _], _ => rfl) (fun cdv A outer s H vs Q E hr h => ?_)

  obtain ⟨m, S, v, p, i, r, rfl, ⟨A, M⟩, hv, hr0, hlen, q⟩ := h
  refine ⟨_, PSs.nox (pss_cons (ps_set (i := 3) sc_pair_behind.nd rfl (Or.inl rfl) (pe_ix ix_list (pe_fld (pv 0) rfl) (pv 2) (fun _ _ => rfl)))
      (pss_cons (ps_set (i := 4) sc_pair_behind.nd rfl (Or.inl rfl) (pe_dget1 (by exact hu_of hr) (pe_fld (pv 0) rfl) (pe_ix ix_tup (pv 3) pe_int (fun _ _ => rfl)) ⟨rfl, rfl, rfl, rfl⟩))
      (pss_cons (ps_if (PW.pt (pw_or (pt_cmpR op_isN (pv 4) pe_non (nomark _)) (pw_or1 (pt_cmpR (op_inK hr) (pv 4) (pe_ix ix_tup (pv 1) pe_int (fun _ _ => rfl)) (by with_unfolding_all rfl)))))
      (pss_one (ps_ret (pe_tup (pa_cons (pe_ix ix_tup (pv 3) pe_int (fun _ _ => rfl)) (pa_cons (pe_ix ix_tup (pv 1) pe_int (fun _ _ => rfl)) pa_nil))))) pss_nil)
      (pss_one (ps_ret (pe_tup (pa_cons (pe_ix ix_tup (pv 3) pe_int (fun _ _ => rfl)) (pa_cons (pe_callTy call_tuple_of rfl (T.free 80) boot_tuple (pa_cons (pe_callB (call_sortedK rfl hr) rfl (T.free 76) boot_sorted (pa_cons (pe_op op_cat (pe_callTy (call_list_of) rfl (T.free 77) boot_list (pa_cons (pe_ix ix_tup (pv 1) pe_int (fun _ _ => rfl)) pa_nil)) (pe_lst (pa_cons (pv 4) pa_nil))) pa_nil)) pa_nil)) pa_nil)))))))), ?_⟩
  obtain ⟨rvs, hR, nR⟩ := M.rows
  obtain ⟨rv, hrv, nrv⟩ := NkA.get' nR (show (S.rows.map kRow)[i]? = some (kRow r) by rw [List.getElem?_map, hr0]; rfl)
  obtain ⟨ra, rfl, hra⟩ := Nk.row nrv
  obtain ⟨pa, pb, rfl, hpa, hpb⟩ := Nk.pr hv
  refine ⟨_, rfl, _, _, _, _, _, rfl, M.at_, T.clsM, T.noM.2.1, rfl, _, rfl, _, _, _, _, rfl, rfl, hR, atI_nat hrv, ?_⟩
  refine ⟨_, rfl, _, _, _, _, _, rfl, M.at_, T.clsM, T.noM.2.2.2.1, rfl, A.f, rfl, .inl ⟨_, .inl M.fts⟩, _, rfl, _, _, _, _, rfl, rfl, hra, rfl, _, DGet.k (k := .inr r.2.1) M.fts, ?_⟩
  rw [valV_tD]
  cases hl : lk S.ft r.2.1 with
  | none =>
    refine ⟨_, rfl, rfl, _, rfl, itT rfl ?_⟩
    refine itT rfl ?_
    refine ⟨_, rfl, _, _, _, _, rfl, rfl, hra, rfl, _, rfl, _, _, _, _, rfl, rfl, hpa, rfl, by show 2 ≤ sizeLine; decide, fun t ht => ?_⟩
    have e : Ex H (upd H t (.tup [.int r.2.2, .ref pb])) := Ex.new ht
    refine q.of e ⟨t, rfl, ?_⟩
    have eb : behind S.ft p r = (r.2.2, p.2) := by
      unfold behind
      rw [hl]
    rw [eb]
    exact Nk.ofPr (SqT.of upd_same) (e.sqT hpb)
  | some n =>
    refine ⟨_, rfl, rfl, _, rfl, itF rfl ?_⟩
    refine ⟨_, rfl, _, rfl, _, _, _, _, rfl, rfl, hpa, rfl, pb, .text n, p.2.map .text, rfl, .text n, SqK.t hpb (NkA.strs _), Nat.zero_le _, _, rfl, ?_⟩
    refine itE (fun c => ?_) fun c => ?_
    · have hn : n ∈ p.2 := (mem_map_inj text_inj).mp (ofT c)
      refine ⟨_, rfl, _, _, _, _, rfl, rfl, hra, rfl, _, rfl, _, _, _, _, rfl, rfl, hpa, rfl, by show 2 ≤ sizeLine; decide, fun t ht => ?_⟩
      have e : Ex H (upd H t (.tup [.int r.2.2, .ref pb])) := Ex.new ht
      refine q.of e ⟨t, rfl, ?_⟩
      have eb : behind S.ft p r = (r.2.2, p.2) := by
        unfold behind
        rw [hl]
        simp [hn]
      rw [eb]
      exact Nk.ofPr (SqT.of upd_same) (e.sqT hpb)
    · have hn : n ∉ p.2 := fun z => ofF c ((mem_map_inj text_inj).mpr z)
      refine ⟨_, rfl, _, _, _, _, rfl, rfl, hra, rfl, _, rfl, _, _, _, _, rfl, rfl, hpa, rfl, pb, _, rfl, .inr hpb, fun l1 hl1 => ?_⟩
      refine ⟨_, rfl, by show 1 ≤ sizeLine; decide, fun l2 hl2 => ?_⟩
      refine ⟨l1, l2, _, _, rfl, rfl, (Ex.new hl2) _ _ upd_same, upd_same, by rw [List.length_map]; exact Nat.le_trans (by show p.2.length + 1 ≤ 1000; omega) (by decide), fun l3 hl3 => ?_⟩
      have ks : (p.2.map V.str) ++ [V.str n] = (p.2 ++ [n]).map V.str := by rw [List.map_append]; rfl
      refine ⟨l3, _, (p.2 ++ [n]).map NestedKey.text, rfl, (by rw [← ks]; exact SqL.of upd_same), NkA.strs _, alk_texts _, fun k hk => ?_, fun us l4 hus hl4 => ?_⟩
      · obtain ⟨y, _, rfl⟩ := List.mem_map.mp hk
        exact Nat.zero_le _
      rw [srt_map] at hus
      obtain rfl := NkA.toStrs hus
      refine ⟨l4, _, rfl, .inl ⟨SqL.of upd_same, fun t1 ht1 => ?_⟩⟩
      refine ⟨by show 2 ≤ sizeLine; decide, fun t2 ht2 => ?_⟩
      have e1 := Ex.new (o := .lst (p.2.map V.str)) hl1
      have e4 := ((e1.to (o := .lst [.str n]) hl2).to (o := .lst (p.2.map V.str ++ [V.str n])) hl3).to (o := .lst ((srtBy .text (p.2 ++ [n])).map V.str)) hl4
      have e5 := e4.to (o := .tup ((srtBy .text (p.2 ++ [n])).map V.str)) ht1
      have e6 := e5.to (o := .tup [.int r.2.2, .ref t1]) ht2
      refine q.of e6 ⟨t2, rfl, ?_⟩
      have eb : behind S.ft p r = (r.2.2, srtBy .text (p.2 ++ [n])) := by
        unfold behind
        rw [hl]
        simp [hn]
      rw [eb]
      exact Nk.ofPr (SqT.of upd_same) ((Ex.new ht2).sqT (SqT.of upd_same))
end
end K25
/-! a dict of keys that only tells membership -/
namespace K25
open PySem PySem.Spec PyProof.Rows L2
structure MetD (P : Program) (w : World) (K : PySem.W.Frag) (H : Hp) (d : Addr) (ks : List NestedKey) (xs : List NE) : Prop where
  at_ : H d = some (DNO P w d xs)
  key : ∀ x ∈ xs, Nk K H (.ref x.2.1) x.1 ∧ x.1.depth ≤ 8
  keys : xs.map (·.1) = ks
  val : ∀ x ∈ xs, x.2.2 = .bl true
section
variable {P : Program} {w : World} {K : PySem.W.Frag} {H H' : Hp} {d : Addr} {ks : List NestedKey} {xs : List NE} {X : Cx}
theorem MetD.mono (h : MetD P w K H d ks xs) (e : Ex H H') : MetD P w K H' d ks xs := ⟨e _ _ h.at_, fun x hx => ⟨Nk.mono e _ _ (h.key x hx).1, (h.key x hx).2⟩, h.keys, h.val⟩
theorem MetD.len (h : MetD P w K H d ks xs) : xs.length = ks.length := by rw [← h.keys, List.length_map]
theorem MetD.new : MetD P w K (upd H d (DNO P w d [])) d [] [] := ⟨upd_same, fun _ h => (nomatch h), rfl, fun _ h => (nomatch h)⟩
theorem MetD.dw (h : MetD X.prog X.w X.K H d ks xs) : DW X H d xs := ⟨h.at_, h.key⟩
/-- another object is written -/
theorem MetD.other {l : Addr} {ys zs : List V} (h : MetD P w K H d ks xs) (hl : H l = some (.lst ys)) : MetD P w K (upd H l (.lst zs)) d ks xs :=
  ⟨by rw [upd_ne (ne_of h.at_ hl (fun z => nomatch z))]; exact h.at_, fun x hx => ⟨Nk.upd hl lst_ne _ _ (h.key x hx).1, (h.key x hx).2⟩, h.keys, h.val⟩
theorem NkA.other {l : Addr} {ys zs : List V} {vs : List V} {js : List NestedKey} (h : NkA K H vs js) (hl : H l = some (.lst ys)) : NkA K (L2.upd H l (.lst zs)) vs js := NkA.upd hl lst_ne _ _ h
theorem MetD.put {b : Addr} {k : NestedKey} (h : MetD P w K H d ks xs) (hk : Nk K H (.ref b) k) (hd : k.depth ≤ 8) (hn : k ∉ ks) : MetD P w K (upd H d (DNO P w d (putN xs k b (.bl true)))) d (ks ++ [k]) (putN xs k b (.bl true)) := by
  have hn' : k ∉ xs.map (·.1) := by rw [h.keys]; exact hn
  rw [putN_new hn']
  refine ⟨upd_same, fun x hx => ?_, by rw [List.map_append, h.keys]; rfl, fun x hx => ?_⟩
  · rcases List.mem_append.mp hx with hx | hx
    · exact ⟨Nk.upd h.at_ ext_ne _ _ (h.key x hx).1, (h.key x hx).2⟩
    · rw [List.mem_singleton.mp hx]
      exact ⟨Nk.upd h.at_ ext_ne _ _ hk, hd⟩
  · rcases List.mem_append.mp hx with hx | hx
    · exact h.val x hx
    · rw [List.mem_singleton.mp hx]
theorem MetD.putI {b : Addr} {k : NestedKey} (h : MetD P w K H d ks xs) (hk : Nk K H (.ref b) k) (hd : k.depth ≤ 8) : MetD P w K (upd H d (DNO P w d (putN xs k b (.bl true)))) d (insK ks k) (putN xs k b (.bl true)) := by
  rcases Classical.em (k ∈ ks) with c | c
  · rw [insK_in c, putN_old (by rw [h.keys]; exact c) h.val, upd_self h.at_]
    exact h
  · rw [insK_out c]
    exact h.put hk hd c
theorem MetD.vals (h : MetD P w K H d ks xs) : NkA K H (xs.map fun x => V.ref x.2.1) ks := by
  rw [← h.keys]
  have q := h.key
  clear h
  induction xs with
  | nil => exact .nil
  | cons x xs ih => exact .cons (q x List.mem_cons_self).1 (ih fun y hy => q y (List.mem_cons_of_mem _ hy))
theorem NkA.put {vs : List V} {js : List NestedKey} (h : NkA K H vs js) (hd : H d = some (DNO P w d xs)) {o : HO} : NkA K (L2.upd H d o) vs js := NkA.upd hd ext_ne _ _ h
end
theorem insAll_nodup {κ : Type} : ∀ {xs ks : List κ}, ks.Nodup → (insAll ks xs).Nodup
  | [], _, h => h
  | x :: xs, ks, h => by
    refine insAll_nodup (ks := insK ks x) ?_
    rcases Classical.em (x ∈ ks) with c | c
    · rw [insK_in c]; exact h
    · rw [insK_out c, List.nodup_append]
      exact ⟨h, by simp, fun a ha b hb e => c (by rw [List.mem_singleton.mp hb] at e; rw [← e]; exact ha)⟩
theorem insAll_map {α : Type} {f : α → NestedKey} (hf : ∀ a b, f a = f b → a = b) : ∀ (xs ks : List α), insAll (ks.map f) (xs.map f) = (insAll ks xs).map f
  | [], _ => rfl
  | x :: xs, ks => by
    have e : insK (ks.map f) (f x) = (insK ks x).map f := by
      rcases Classical.em (x ∈ ks) with c | c
      · rw [insK_in c, insK_in ((mem_map_inj hf).mpr c)]
      · rw [insK_out c, insK_out (fun z => c ((mem_map_inj hf).mp z)), List.map_append]
        rfl
    show insAll (insK (ks.map f) (f x)) (xs.map f) = (insAll (insK ks x) xs).map f
    rw [e]
    exact insAll_map hf xs (insK ks x)
theorem nodup_subP {α : Type} {f : α → NestedKey} (hf : ∀ a b, f a = f b → a = b) {l D : List α} (hn : l.Nodup) (hs : ∀ x ∈ l, x ∈ D) : l.length ≤ D.length := by
  have q := nodup_sub (D := D.map f) (nodup_map_inj hf hn) fun x hx => by
    obtain ⟨y, hy, rfl⟩ := List.mem_map.mp hx
    exact List.mem_map.mpr ⟨y, hs y hy, rfl⟩
  rw [List.length_map, List.length_map] at q
  exact q
theorem take_succ_map {α β : Type} {f : α → β} {xs : List α} {i : Nat} {x : α} (h : xs[i]? = some x) : (xs.take (i + 1)) = xs.take i ++ [x] := take_next h
/-- a list of one value more, its last -/
theorem NkA.last {K : PySem.W.Frag} {H : Hp} : ∀ {js : List NestedKey} {vs : List V} {k : NestedKey}, NkA K H vs (js ++ [k]) → ∃ us v, vs = us ++ [v] ∧ NkA K H us js ∧ Nk K H v k
  | [], _, k, h => by
    cases h with
    | cons h1 h2 =>
      cases h2
      exact ⟨[], _, rfl, .nil, h1⟩
  | j :: js, _, k, h => by
    cases h with
    | cons h1 h2 =>
      obtain ⟨us, v, e, q1, q2⟩ := NkA.last h2
      exact ⟨_ :: us, v, by rw [e]; rfl, .cons h1 q1, q2⟩
end K25
/-! rules within a comprehension's block: the text by its name -/
namespace K25
open PySem PySem.Spec PyProof.Rows L2
section
variable {X : Cx} {K' : PySem.W.Frag} {e : Expr} {f : Str} {pos : Pos} {ta : TE}
theorem pe_fldB (K' : PySem.W.Frag) (hK : X.K = K') (he : PE X e ta) (hb : attributeBase e f X.env (eval e X.env) = eval e X.env) : PE X (.Attribute e f pos) (tFld K' ta f) := by
  subst hK
  exact pe_fld he hb
theorem ix_tupB (K' : PySem.W.Frag) (hK : X.K = K') : IxR X (rIxT K') := by
  subst hK
  exact ix_tup
theorem ix_listB (K' : PySem.W.Frag) (hK : X.K = K') : IxR X (rIxL K') := by
  subst hK
  exact ix_list
theorem op_inKB (K' : PySem.W.Frag) (hK : X.K = K') {n : Nat} (hr : Room n X.A) : OpR X (compareOp .In) (rInK K' false) := by
  subst hK
  exact op_inK hr
theorem op_notInKB (K' : PySem.W.Frag) (hK : X.K = K') {n : Nat} (hr : Room n X.A) : OpR X (compareOp .NotIn) (rInK K' true) := by
  subst hK
  exact op_notInK hr
theorem op_eqKB (K' : PySem.W.Frag) (hK : X.K = K') {n : Nat} (hr : Room n X.A) : OpR X (compareOp .Eq) (rEqK K' false) := by
  subst hK
  exact op_eqK hr
theorem op_neKB (K' : PySem.W.Frag) (hK : X.K = K') {n : Nat} (hr : Room n X.A) : OpR X (compareOp .NotEq) (rEqK K' true) := by
  subst hK
  exact op_neK hr
end
end K25
/-! tables, made entry by entry -/
namespace K25
open PySem PySem.Spec PyProof.Rows L2
theorem map_snoc {α β : Type} (f : α → β) (xs : List α) (x : α) : (xs ++ [x]).map f = xs.map f ++ [f x] := by rw [List.map_append]; rfl
theorem tD_len (t : Tab) : (tD t).length = t.length := by unfold tD; rw [List.length_map]
theorem tD_snoc (t : Tab) (x y : Str) : tD (t ++ [(x, y)]) = tD t ++ [(.inr x, .str y)] := by unfold tD; rw [List.map_append]; rfl
theorem tD_put {t : Tab} {x : Str} (y : Str) (h : lk t x = none) : putK (tD t) (.inr x) (.str y) = tD (t ++ [(x, y)]) := by
  rw [putK_new _ (by rw [valV_tD, h]; rfl), tD_snoc]
theorem tD_get {t : Tab} {i : Nat} {k : Key} {v : V} (h : (tD t)[i]? = some (k, v)) : ∃ p, t[i]? = some p ∧ k = .inr p.1 ∧ v = .str p.2 := by
  unfold tD at h
  rw [List.getElem?_map] at h
  obtain ⟨p, hp, e⟩ := Option.map_eq_some_iff.mp h
  cases e
  exact ⟨p, hp, rfl, rfl⟩
theorem lk_none_take {t : Tab} (hn : (t.map (·.1)).Nodup) {i : Nat} {p : Str × Str} (hp : t[i]? = some p) : lk (t.take i) p.1 = none := by
  rw [lk_none, List.map_take]
  have h : (t.map (·.1))[i]? = some p.1 := by rw [List.getElem?_map, hp]; rfl
  intro hm
  obtain ⟨j, hj, e⟩ := List.getElem_of_mem hm
  rw [List.length_take] at hj
  rw [List.getElem_take] at e
  obtain ⟨hi, e2⟩ := List.getElem?_eq_some_iff.mp h
  have := (List.getElem_inj hn).mp (e.trans e2.symm)
  omega
/-- the entries of a table at some words -/
def tabAt (t : Tab) (ws : List Str) : Tab := ws.filterMap fun w => (lk t w).map fun x => (w, x)
theorem tabAt_snoc_s {t : Tab} {ws : List Str} {w x : Str} (h : lk t w = some x) : tabAt t (ws ++ [w]) = tabAt t ws ++ [(w, x)] := by
  unfold tabAt
  rw [List.filterMap_append]
  simp [h]
theorem tabAt_snoc_n {t : Tab} {ws : List Str} {w : Str} (h : lk t w = none) : tabAt t (ws ++ [w]) = tabAt t ws := by
  unfold tabAt
  rw [List.filterMap_append]
  simp [h]
theorem tabAt_len (t : Tab) (ws : List Str) : (tabAt t ws).length ≤ ws.length := List.length_filterMap_le _ _
theorem tabAt_key {t : Tab} {ws : List Str} {w : Str} (h : w ∉ ws) : lk (tabAt t ws) w = none := by
  rw [lk_none]
  intro hm
  obtain ⟨p, hp, rfl⟩ := List.mem_map.mp hm
  unfold tabAt at hp
  obtain ⟨u, hu, e⟩ := List.mem_filterMap.mp hp
  obtain ⟨x, hx, e⟩ := Option.map_eq_some_iff.mp e
  subst e
  exact h hu
theorem tabAt_lk {t : Tab} : ∀ {ws : List Str} {w : Str}, lk (tabAt t ws) w = if w ∈ ws then lk t w else none
  | [], w => rfl
  | u :: ws, w => by
    unfold tabAt
    rw [List.filterMap_cons]
    cases hl : lk t u with
    | none =>
      show lk (tabAt t ws) w = _
      rw [tabAt_lk]
      by_cases e : w = u
      · subst e
        simp [hl]
      · simp [e]
    | some x =>
      show lk ((u, x) :: tabAt t ws) w = _
      rw [lk_cons]
      by_cases e : u = w
      · subst e
        simp [hl]
      · have e' : ¬ w = u := fun z => e z.symm
        rw [if_neg e, tabAt_lk]
        simp [e']
theorem tabAt_nd {t : Tab} : ∀ {ws : List Str}, ws.Nodup → ((tabAt t ws).map (·.1)).Nodup
  | [], _ => List.nodup_nil
  | u :: ws, h => by
    obtain ⟨h1, h2⟩ := List.nodup_cons.mp h
    unfold tabAt
    rw [List.filterMap_cons]
    cases hl : lk t u with
    | none => exact tabAt_nd h2
    | some x =>
      show (((u, x) :: tabAt t ws).map (·.1)).Nodup
      rw [List.map_cons, List.nodup_cons]
      exact ⟨lk_none.mp (tabAt_key h1), tabAt_nd h2⟩
theorem tabAt_mem {t : Tab} {ws : List Str} {p : Str × Str} : p ∈ tabAt t ws ↔ p.1 ∈ ws ∧ lk t p.1 = some p.2 := by
  unfold tabAt
  rw [List.mem_filterMap]
  constructor
  · rintro ⟨u, hu, e⟩
    obtain ⟨x, hx, e⟩ := Option.map_eq_some_iff.mp e
    subst e
    exact ⟨hu, hx⟩
  · rintro ⟨h1, h2⟩
    exact ⟨p.1, h1, by rw [h2]; rfl⟩
theorem lk_append {t s : Tab} {w : Str} : lk (t ++ s) w = (lk t w).or (lk s w) := by
  induction t with
  | nil => rfl
  | cons p t ih =>
    rw [List.cons_append, lk_cons, lk_cons]
    by_cases e : p.1 = w
    · rw [if_pos e, if_pos e]; rfl
    · rw [if_neg e, if_neg e, ih]
end K25
/-! closed_pairs -/
namespace K25
open PySem PySem.Spec PyProof.Rows L2
noncomputable def seenOf (rows : List Row) (ft tab : Tab) (p : Pr) (js : List Nat) : List Pr := js.filterMap fun j => match rows[j]? with
  | some r => if lk tab r.2.1 = none then some (behind ft p r) else none
  | none => none
theorem seenOf_snoc_u {rows : List Row} {ft tab : Tab} {p : Pr} {js : List Nat} {j : Nat} {r : Row} (hr : rows[j]? = some r) (hu : lk tab r.2.1 = none) : seenOf rows ft tab p (js ++ [j]) = seenOf rows ft tab p js ++ [behind ft p r] := by
  unfold seenOf
  rw [List.filterMap_append]
  simp [hr, hu]
theorem seenOf_snoc_s {rows : List Row} {ft tab : Tab} {p : Pr} {js : List Nat} {j : Nat} {r : Row} (hr : rows[j]? = some r) (hu : lk tab r.2.1 ≠ none) : seenOf rows ft tab p (js ++ [j]) = seenOf rows ft tab p js := by
  unfold seenOf
  rw [List.filterMap_append]
  simp [hr, hu]
theorem seenOf_all {rows : List Row} {ft tab : Tab} {p q : Pr} (h : q ∈ succP rows ft tab p) : q ∈ seenOf rows ft tab p (idx rows p.1) := by
  obtain ⟨r, hr, e1, e2, rfl⟩ := mem_succP.mp h
  obtain ⟨i, hi, e⟩ := List.getElem_of_mem hr
  have hg : rows[i]? = some r := by rw [List.getElem?_eq_getElem hi, e]
  unfold seenOf
  rw [List.mem_filterMap]
  exact ⟨i, idx_mem.mpr ⟨r, hg, e1⟩, by simp [hg, e2]⟩
section
variable {P : Program} {w : World} {K : PySem.W.Frag} {mg : Str → Option Value} {base : Heap}
def sp_closed_pairs (K : PySem.W.Frag) : Sp := fun vs H Q _ => ∃ m wt S tab l pvs, ∃ L U : List Pr, vs = [.ref m, .ref wt, .ref l] ∧ MacO K H m S ∧ WatO K H wt tab ∧ SqL K H l pvs ∧ NkA K H pvs (L.map kPr) ∧ Uni S.rows S.ft U ∧ (∀ p ∈ L, p ∈ U) ∧ L.length < 1000 ∧
  Ret H Q fun v H' => ∃ r us, v = .ref r ∧ H' r = some (.lst us) ∧ NkA K H' us ((cloL S.rows S.ft tab U fun p => p ∈ L).map kPr)
theorem sc_closed_pairs : FnScope ["machine", "watch", "pairs", "met", "waiting", "pair", "number", "end"] ["machine", "watch", "pairs"] d_closed_pairs.scope := ⟨rfl, rfl, rfl, by decide +kernel, rfl, by decide +kernel, by decide +kernel⟩
theorem ok_closed_pairs (T : Tp K mg) : Cal P w K mg base "closed_pairs" 2 ["machine", "watch", "pairs"] (sp_closed_pairs K) := by
  refine ⟨_, T.glo 38, ?_⟩
  show Df P w K mg base (d_closed_pairs.path K) 2 ["machine", "watch", "pairs"] (sp_closed_pairs K)
  refine T.df 35 (d := d_closed_pairs) rfl rfl sc_closed_pairs (fun vs H Q E h => by obtain ⟨_, _, _, _, _, _, _, _, e, _⟩ := h; rw [e]; rfl) (fun _ _ _ _ _ _ us hl => match us, hl with | [_, _, _], _ => rfl) (fun cdv A outer s H vs Q E hr h => ?_)

  obtain ⟨m, wt, S, tab, l, pvs, L, U, rfl, hM, hW, hl, nl, u, hU, hz, q⟩ := h
  refine ⟨_, PSs.nox (pss_cons (ps_setDcN hr (i := 3) (own := [("pair", 5)]) rfl sc_closed_pairs.nd rfl rfl (sw_trueD rfl rfl rfl (by decide +kernel)) (pi_list (pv 2)) (blkOk_by (N := ["machine", "watch", "pairs", "met", "waiting", "pair", "number", "end"]) (sc := d_closed_pairs.scope) (by decide +kernel)) (fun _ _ _ _ _ => (pg_name (i := 5) sc_closed_pairs.nd rfl (Or.inl rfl))) (fun _ _ _ _ _ => pts_nil) (fun _ _ _ _ _ => (pv 5)) (fun _ _ _ _ _ => pe_bl))
      (pss_cons (ps_set (i := 4) sc_closed_pairs.nd rfl (Or.inl rfl) (pe_callTy (call_listN rfl) rfl (T.free 77) boot_list (pa_cons (pv 3) pa_nil)))
      (pss_cons (ps_while PassesOwn.never (pt_truth (pv 4) (fun _ => rfl)) (pss_cons (ps_set (i := 5) sc_closed_pairs.nd rfl (Or.inl rfl) (pe_bm0 PySem.F.plainAttrs_list PySem.F.slot_list_pop PySem.F.type_list_pop mt_pop (pv 4)))
      (pss_one (ps_for PassesOwn.never rfl (pi_list (pe_cal (ok_steps_from T) hr (by decide) rfl (pa_cons (pv 0) (pa_cons (pe_ix ix_tup (pv 5) pe_int (fun _ _ => rfl)) pa_nil)))) (pg_name (i := 6) sc_closed_pairs.nd rfl (Or.inl rfl))
      (pss_one (ps_if (pt_cmpR op_isN (pe_cal (ok_sight_of T) hr (by decide) rfl (pa_cons (pv 1) (pa_cons (pe_ix ix_tup (pe_ix ix_list (pe_fld (pv 0) rfl) (pv 6) (fun _ _ => rfl)) pe_int (fun _ _ => rfl)) pa_nil))) pe_non (nomark _))
      (pss_cons (ps_set (i := 7) sc_closed_pairs.nd rfl (Or.inl rfl) (pe_cal (ok_pair_behind T) hr (by decide) rfl (pa_cons (pv 0) (pa_cons (pv 5) (pa_cons (pv 6) pa_nil)))))
      (pss_one (ps_if (pt_cmpR (op_notInN hr) (pv 7) (pv 3) (by with_unfolding_all rfl))
      (pss_cons (ps_asg pe_bl (pg_sub (pv 3) (pv 7) (set_N hr)))
      (pss_one (ps_expr (pe_bm PySem.F.plainAttrs_list PySem.F.slot_list_append PySem.F.type_list_append mt_append (pv 4) (pa_cons (pv 7) pa_nil))))) pss_nil))) pss_nil))))))
      (pss_one (ps_ret (pe_callB (call_sortedK rfl hr) rfl (T.free 76) boot_sorted (pa_cons (pe_callTy (call_listN rfl) rfl (T.free 77) boot_list (pa_cons (pv 3) pa_nil)) pa_nil))))))), ?_⟩
  refine ⟨_, rfl, l, rfl, ⟨_, hl⟩, fun D hD => ?_⟩
  refine cc_it walk_list (fun i H1 => Ex H H1 ∧ ∃ xs, MetD P w K H1 D ((insAll [] (L.take i)).map kPr) xs) ⟨Ex.new hD, [], MetD.new⟩ (fun i H1 _ p => p.1.sqL hl) (fun i x H1 H2 hi p y => ?_) (fun H1 p => ?_)
  · obtain ⟨rfl, hx⟩ := y
    obtain ⟨e, xs, M⟩ := p
    obtain ⟨k, hk, nk⟩ := NkA.get nl hx
    rw [List.getElem?_map] at hk
    obtain ⟨p, hp, rfl⟩ := Option.map_eq_some_iff.mp hk
    obtain ⟨a, b, rfl, _, _⟩ := Nk.pr nk
    refine ⟨rfl, ?_⟩
    refine ⟨_, rfl, a, kPr p, xs, rfl, ⟨M.at_, M.key⟩, Nk.mono e _ _ nk, kPr_depth p, ?_, ?_⟩
    · have h1 := M.len
      have h2 := insAll_len (L.take i) []
      rw [List.length_take] at h2
      rw [List.length_map] at h1
      refine Nat.lt_of_le_of_lt (show xs.length ≤ 1000 from ?_) (by decide)
      simp only [List.length_nil] at h2
      omega
    · refine ⟨e.mut hD, ?_⟩
      rw [take_next hp, insAll_snoc]
      have q := M.putI (Nk.mono e _ _ nk) (kPr_depth p)
      have e2 : insK ((insAll [] (L.take i)).map kPr) (kPr p) = (insK (insAll [] (L.take i)) p).map kPr := by
        have q2 := insAll_map kPr_inj [p] (insAll [] (L.take i))
        exact q2
      rw [e2] at q
      exact ⟨_, q⟩
  obtain ⟨e1, xs, M⟩ := p
  rw [nl.length, List.length_map, List.take_length] at M
  refine ⟨_, rfl, D, xs, rfl, ⟨.inl M.at_, M.key⟩, fun Wl hWl => ?_⟩
  have e2 := e1.to (o := .lst (xs.map fun x => .ref x.2.1)) hWl
  have hWl0 : H Wl = none := e1.free hWl
  have hM0 : ∀ p, p ∈ insAll [] L ↔ p ∈ L := fun p => by rw [insAll_mem]; simp
  have d0 : Dfs (succP S.rows S.ft tab) (fun p => p ∈ L) (insAll [] L) (insAll [] L) := Dfs.start (insAll_nodup List.nodup_nil) hM0
  refine ⟨fun m' σ H1 => ∃ vp vn ve xs Ms ws Ws, σ = [some (.ref m), some (.ref wt), some (.ref l), some (.ref D), some (.ref Wl), vp, vn, ve] ∧ Ex H H1 ∧ MetD P w K H1 D (Ms.map kPr) xs ∧ H1 Wl = some (.lst ws) ∧ NkA K H1 ws (Ws.map kPr) ∧
    Dfs (succP S.rows S.ft tab) (fun p => p ∈ L) Ms Ws ∧ 2 * (U.length - Ms.length) + Ws.length = m' ∧ m' ≤ 2000, ⟨_, none, none, none, xs, insAll [] L, _, insAll [] L, rfl, e2, M.mono (Ex.new hWl), upd_same, NkA.mono (Ex.new hWl) _ _ M.vals, d0, rfl, by have h1 := insAll_len L []; have h2 := u.few; simp only [List.length_nil] at h1; omega⟩, fun m' σ H1 p => ?_⟩
  obtain ⟨vp, vn, ve, xs, Ms, ws, Ws, rfl, e3, M, hws, nws, d, em, em2⟩ := p
  have inU : ∀ p ∈ Ms, p ∈ U := fun p hp => u.clo hU (d.reach p hp)
  refine ⟨_, rfl, _, .inl ⟨ws, SqL.of hws, rfl⟩, ?_⟩
  rcases List.eq_nil_or_concat Ws with rfl | ⟨Ws', p, rfl⟩
  · obtain rfl : ws = [] := by cases nws; rfl
    refine itF rfl ?_
    refine ⟨_, rfl, D, xs, rfl, ⟨.inl M.at_, M.key⟩, fun l1 hl1 => ?_⟩
    refine ⟨l1, _, Ms.map kPr, rfl, SqL.of upd_same, NkA.mono (Ex.new hl1) _ _ M.vals, alk_pr _, all_depth kPr_depth, fun us p hus hp => ?_⟩
    refine q.of ((e3.to hl1).to hp) ⟨p, us, rfl, upd_same, ?_⟩
    have eL : srtBy kPr Ms = cloL S.rows S.ft tab U fun p => p ∈ L := cloL_ext u hU (srtBy_srt kPr_inj (alk_pr _) d.nd) fun p => by rw [srtBy_mem]; exact d.ends p
    rw [srt_map, eL] at hus
    exact NkA.mono (Ex.new hp) _ _ hus
  rw [List.concat_eq_append] at *
  rw [List.map_append, List.map_cons, List.map_nil] at nws
  obtain ⟨us, v, rfl, nus, nv⟩ := NkA.last nws
  refine itT (by simp) ⟨_, fun _ _ h => h, ?_⟩
  obtain ⟨pa, pb, rfl, hpa, hpb⟩ := Nk.pr nv
  have dl : (us ++ [V.ref pa]).dropLast = us := by simp
  have gl : (us ++ [V.ref pa])[(us ++ [V.ref pa]).length - 1]? = some (V.ref pa) := by simp
  refine ⟨_, rfl, .inl ⟨rfl, _, SqL.of hws⟩, Wl, _, _, rfl, rfl, hws, gl, ?_⟩
  rw [dl]
  have e4 : Ex H (upd H1 Wl (.lst us)) := e3.mut hWl0
  have M4 : MetD P w K (upd H1 Wl (.lst us)) D (Ms.map kPr) xs := M.other hws
  have hpa4 := sqT_upd (o := .lst us) hpa hws lst_ne
  have nv4 : Nk K (upd H1 Wl (.lst us)) (.ref pa) (kPr p) := Nk.upd hws lst_ne _ _ nv
  have nus4 := NkA.other (zs := us) nus hws
  refine ⟨_, rfl, _, rfl, _, _, _, _, rfl, rfl, hpa4, rfl, m, S, p.1, rfl, hM.mono e4, fun v5 H5 e5 ⟨l5, ev5, hl5, _⟩ => ?_⟩
  subst ev5
  refine ⟨l5, rfl, ⟨_, SqL.of hl5⟩, ?_⟩
  have IV : ∀ {Hx : Hp} {ws : List V} {Ws : List Pr} {i : Nat} {j : Nat}, Hx Wl = some (.lst ws) → NkA K Hx ws (Ws.map kPr) → Hx l5 = some (.lst ((idx S.rows p.1).map fun i => V.int (i : Nat))) → (idx S.rows p.1)[i]? = some j → l5 ≠ Wl := by
    intro Hx ws Ws i j h1 h2 h3 h4 h5
    rw [h5, h1] at h3
    injection h3 with h3
    injection h3 with h3
    have h6 : ws[i]? = some (V.int (j : Nat)) := by rw [h3, List.getElem?_map, h4]; rfl
    obtain ⟨k, hk, nk⟩ := NkA.get h2 h6
    rw [List.getElem?_map] at hk
    obtain ⟨z, hz, rfl⟩ := Option.map_eq_some_iff.mp hk
    obtain ⟨a, b, ez, _, _⟩ := Nk.pr nk
    cases ez
  refine for_it (walk_list (xs := (idx S.rows p.1).map fun i => V.int (i : Nat))) (fun i σ H1' => ∃ vn ve xs Ms ws Ws, σ = [some (.ref m), some (.ref wt), some (.ref l), some (.ref D), some (.ref Wl), some (.ref pa), vn, ve] ∧ Ex H H1' ∧ MetD P w K H1' D (Ms.map kPr) xs ∧ H1' Wl = some (.lst ws) ∧ NkA K H1' ws (Ws.map kPr) ∧ Nk K H1' (.ref pa) (kPr p) ∧ H1' l5 = some (.lst ((idx S.rows p.1).map fun i => V.int (i : Nat))) ∧
     DfsIn (succP S.rows S.ft tab) (fun p => p ∈ L) p (seenOf S.rows S.ft tab p ((idx S.rows p.1).take i)) Ms Ws ∧ 2 * (U.length - Ms.length) + Ws.length < m')
     ⟨vn, ve, xs, Ms, us, Ws', rfl, e4.trans e5, M4.mono e5, e5 _ _ upd_same, NkA.mono e5 _ _ nus4, Nk.mono e5 _ _ nv4, hl5, d.pop, by rw [← em, List.length_append]; exact Nat.lt_succ_of_le (Nat.le_refl _)⟩ (fun i σ H1' _ p => ?_) (fun i x σ Ha Hb hi p y => ?_) (fun σ H1' p => ?_)
  · obtain ⟨vn, ve, xs, Ms, ws, Ws, rfl, a1, a2, a3, a4, a5, a6, a7⟩ := p
    exact SqL.of a6
  · obtain ⟨vn, ve, xs, Ms, ws, Ws, rfl, a1, a2, a3, a4, a5, a6, a7, a8⟩ := p
    obtain ⟨rfl, hx⟩ := y
    rw [List.getElem?_map] at hx
    obtain ⟨j, hj, rfl⟩ := Option.map_eq_some_iff.mp hx
    have hlw := IV a3 a4 a6 hj
    obtain ⟨r, hr0, hr1⟩ := idx_mem.mp (List.mem_of_getElem? hj)
    obtain ⟨MA, M⟩ := hM.mono a1
    obtain ⟨rvs, hR, nR⟩ := M.rows
    obtain ⟨rv, hrv, nrv⟩ := NkA.get' nR (show (S.rows.map kRow)[j]? = some (kRow r) by rw [List.getElem?_map, hr0]; rfl)
    obtain ⟨ra, rfl, hra⟩ := Nk.row nrv
    refine ⟨_, rfl, _, rfl, _, _, _, _, _, rfl, M.at_, T.clsM, T.noM.2.1, rfl, _, rfl, _, _, _, _, rfl, rfl, hR, atI_nat hrv, _, _, _, _, rfl, rfl, hra, rfl, wt, tab, r.2.1, rfl, hW.mono a1, fun v6 H6 e6 ev6 => ?_⟩
    subst ev6
    refine ⟨rfl, _, rfl, itE (fun c => ?_) fun c => ?_⟩
    · have hu : lk tab r.2.1 = none := by
        cases hl : lk tab r.2.1 with
        | none => rfl
        | some z => rw [hl] at c; exact absurd (ofT c) (fun z => nomatch z)
      have hpU := inU p (d.sub p (by simp))
      refine ⟨_, rfl, _, rfl, _, rfl, m, S, _, p, j, r, rfl, hM.mono (a1.trans e6), Nk.mono e6 _ _ a5, hr0, Nat.lt_of_le_of_lt (u.short p hpU) (by decide), fun v7 H7 e7 ⟨b7, ev7, n7⟩ => ?_⟩
      subst ev7
      have hs : behind S.ft p r ∈ succP S.rows S.ft tab p := mem_succP.mpr ⟨r, List.mem_of_getElem? hr0, hr1, hu, rfl⟩
      have b1 := (a1.trans e6).trans e7
      have b2 := a2.mono (e6.trans e7)
      have b3 := (e6.trans e7) _ _ a3
      have b4 := NkA.mono (e6.trans e7) _ _ a4
      have b5 := Nk.mono (e6.trans e7) _ _ a5
      have b6 := (e6.trans e7) _ _ a6
      refine ⟨_, rfl, _, rfl, D, b7, _, xs, rfl, rfl, ⟨.inl b2.at_, b2.key⟩, n7, kPr_depth _, ?_⟩
      rw [b2.keys]
      have es := seenOf_snoc_u (js := (idx S.rows p.1).take i) hr0 hu (ft := S.ft) (p := p)
      have et := take_next hj
      rw [← et] at es
      refine ⟨_, rfl, itE (fun c => ?_) fun c => ?_⟩
      · have hn : behind S.ft p r ∉ Ms := fun z => ofnT c ((mem_map_inj kPr_inj).mpr z)
        have a9 := a7.new hn hs
        have nl := nodup_subP kPr_inj a9.nd (fun q hq => u.clo hU (a9.reach q hq))
        rw [List.length_append, List.length_singleton] at nl
        have fw := u.few
        have b2l := b2.len
        rw [List.length_map] at b2l
        refine ⟨_, rfl, _, rfl, D, b7, _, xs, rfl, rfl, b2.dw (X := _), n7, kPr_depth _, ?_, ?_⟩
        · refine Nat.lt_of_le_of_lt (show xs.length ≤ 1000 from ?_) (by decide)
          omega
        have c2 : MetD P w K _ D (Ms.map kPr ++ [kPr (behind S.ft p r)]) _ := b2.put n7 (kPr_depth _) (fun z => hn ((mem_map_inj kPr_inj).mp z))
        have c3 := b2.at_
        have wD : Wl ≠ D := ne_of b3 b2.at_ (fun z => nomatch z)
        have lD : l5 ≠ D := ne_of b6 b2.at_ (fun z => nomatch z)
        have c4 := (upd_ne (H := H7) (o := DNO P w D (putN xs (kPr (behind S.ft p r)) b7 (.bl true))) wD).trans b3
        have c6 := (upd_ne (H := H7) (o := DNO P w D (putN xs (kPr (behind S.ft p r)) b7 (.bl true))) lD).trans b6
        have lw := b4.length
        rw [List.length_map] at lw
        refine ⟨_, rfl, .inl ⟨rfl, _, SqL.of c4⟩, _, rfl, Wl, ws, _, rfl, rfl, c4, Nat.lt_of_le_of_lt (show ws.length ≤ 5000 by omega) (by decide), ?_⟩
        have d1 := NkA.append (NkA.other (zs := ws ++ [V.ref b7]) (NkA.put (o := DNO P w D (putN xs (kPr (behind S.ft p r)) b7 (.bl true))) b4 b2.at_) c4) (NkA.cons (Nk.upd (o := .lst (ws ++ [V.ref b7])) c4 lst_ne _ _ (Nk.upd (o := DNO P w D (putN xs (kPr (behind S.ft p r)) b7 (.bl true))) b2.at_ ext_ne _ _ n7)) NkA.nil)
        rw [show Ws.map kPr ++ [kPr (behind S.ft p r)] = (Ws ++ [behind S.ft p r]).map kPr by rw [List.map_append]; rfl] at d1
        refine ⟨_, _, putN xs (kPr (behind S.ft p r)) b7 (.bl true), Ms ++ [behind S.ft p r], _, Ws ++ [behind S.ft p r], rfl, (b1.mut hD).mut hWl0, ?_, upd_same, d1, Nk.upd c4 lst_ne _ _ (Nk.upd b2.at_ ext_ne _ _ b5), (upd_ne hlw).trans c6, ?_, ?_⟩
        · rw [List.map_append]
          exact c2.other c4
        · rw [es]
          exact a9
        · rw [List.length_append, List.length_append, List.length_singleton]
          omega
      · have hn : behind S.ft p r ∈ Ms := (mem_map_inj kPr_inj).mp (ofnF c)
        refine ⟨_, _, xs, Ms, ws, Ws, rfl, b1, b2, b3, b4, b5, b6, ?_, a8⟩
        rw [es]
        exact a7.old hn
    · have hu : lk tab r.2.1 ≠ none := fun z => ofF c (by rw [z]; rfl)
      refine ⟨_, _, xs, Ms, ws, Ws, rfl, a1.trans e6, a2.mono e6, e6 _ _ a3, NkA.mono e6 _ _ a4, Nk.mono e6 _ _ a5, e6 _ _ a6, ?_, a8⟩
      have es := seenOf_snoc_s (js := (idx S.rows p.1).take i) hr0 hu (ft := S.ft) (p := p)
      rw [← take_next hj] at es
      rw [es]
      exact a7
  · obtain ⟨vn, ve, xs, Ms, ws, Ws, rfl, a1, a2, a3, a4, a5, a6, a7, a8⟩ := p
    rw [List.length_map, List.take_length] at a7
    exact ⟨_, a8, _, _, _, xs, Ms, ws, Ws, rfl, a1, a2, a3, a4, a7.fin fun q hq => seenOf_all hq, rfl, Nat.le_trans (Nat.le_of_lt a8) em2⟩
end
end K25
/-! what a machine and a watch tell of themselves -/
namespace K25
open PySem PySem.Spec PyProof.Rows L2
/-- the names in a table -/
noncomputable def nmsOf (t : Tab) : List Str := srtBy .text (insAll [] (t.map (·.2)))
theorem nmsOf_mem {t : Tab} {x : Str} : x ∈ nmsOf t ↔ x ∈ t.map (·.2) := by
  unfold nmsOf
  rw [srtBy_mem, insAll_mem]
  simp
theorem nmsOf_nd {t : Tab} : (nmsOf t).Nodup := ((srtBy_perm _ _).nodup_iff).mpr (insAll_nodup List.nodup_nil)
theorem insAll_inr : ∀ (xs ks : List Str), insAll (ks.map (Sum.inr : Str → Key)) (xs.map Sum.inr) = (insAll ks xs).map Sum.inr
  | [], _ => rfl
  | x :: xs, ks => by
    have e : insK (ks.map (Sum.inr : Str → Key)) (Sum.inr x) = (insK ks x).map Sum.inr := by
      rcases Classical.em (x ∈ ks) with c | c
      · rw [insK_in c, insK_in (List.mem_map.mpr ⟨x, c, rfl⟩)]
      · rw [insK_out c, insK_out (fun z => by obtain ⟨y, hy, e⟩ := List.mem_map.mp z; cases e; exact c hy), List.map_append]
        rfl
    show insAll (insK (ks.map Sum.inr) (Sum.inr x)) (xs.map Sum.inr) = (insAll (insK ks x) xs).map Sum.inr
    rw [e]
    exact insAll_inr xs (insK ks x)
theorem toN_inr (xs : List Str) : (xs.map (Sum.inr : Str → Key)).map toN = xs.map .text := by
  rw [List.map_map]
  rfl
theorem optV_getD (o : Option Str) : (Option.map V.str o).getD V.non = optV o := by cases o <;> rfl
theorem optV_scal (o : Option Str) (f : Str) : scal (optV o) (.str f) = true := by cases o <;> rfl
theorem optV_dec (o : Option Str) (f : Str) : decide (optV o = .str f) = decide (o = some f) := by
  rw [Bool.eq_iff_iff, decide_eq_true_eq, decide_eq_true_eq]
  cases o with
  | none => exact ⟨fun e => (nomatch e), fun e => (nomatch e)⟩
  | some x => exact ⟨fun e => by cases e; rfl, fun e => by cases e; rfl⟩
section
variable {P : Program} {w : World} {K : PySem.W.Frag} {mg : Str → Option Value} {base : Heap}
def sp_Machine_start (K : PySem.W.Frag) : Sp := fun vs H Q _ => ∃ m S, vs = [.ref m] ∧ MacO K H m S ∧ Ret H Q fun v H' => v = .int S.st
theorem sc_Machine_start : FnScope ["self"] ["self"] d_Machine_start.scope := ⟨rfl, rfl, rfl, by decide +kernel, rfl, by decide +kernel, by decide +kernel⟩
theorem ok_Machine_start (T : Tp K mg) : Df P w K mg base (d_Machine_start.path K) 1 ["self"] (sp_Machine_start K) := by
  refine T.df 7 (d := d_Machine_start) rfl rfl sc_Machine_start (fun vs H Q E h => by obtain ⟨_, _, e, _⟩ := h; rw [e]; rfl) (fun _ _ _ _ _ _ us hl => match us, hl with | [_], _ => rfl) (fun cdv A outer s H vs Q E hr h => ?_)

  obtain ⟨m, S, rfl, ⟨A, M⟩, q⟩ := h
  refine ⟨_, PSs.nox (pss_one (ps_ret (pe_fld (pv 0) rfl))), ?_⟩
  refine ⟨_, rfl, m, _, _, _, _, rfl, M.at_, T.clsM, T.noM.1, rfl, ?_⟩
  exact q.of (Ex.refl _) rfl
def sp_Machine_steps (K : PySem.W.Frag) : Sp := fun vs H Q _ => ∃ m S, vs = [.ref m] ∧ MacO K H m S ∧ Ret H Q fun v H' => ∃ l us, v = .ref l ∧ H' l = some (.lst us) ∧ NkA K H' us (S.rows.map kRow)
theorem sc_Machine_steps : FnScope ["self"] ["self"] d_Machine_steps.scope := ⟨rfl, rfl, rfl, by decide +kernel, rfl, by decide +kernel, by decide +kernel⟩
theorem ok_Machine_steps (T : Tp K mg) : Df P w K mg base (d_Machine_steps.path K) 1 ["self"] (sp_Machine_steps K) := by
  refine T.df 8 (d := d_Machine_steps) rfl rfl sc_Machine_steps (fun vs H Q E h => by obtain ⟨_, _, e, _⟩ := h; rw [e]; rfl) (fun _ _ _ _ _ _ us hl => match us, hl with | [_], _ => rfl) (fun cdv A outer s H vs Q E hr h => ?_)

  obtain ⟨m, S, rfl, ⟨A, M⟩, q⟩ := h
  refine ⟨_, PSs.nox (pss_one (ps_ret (pe_callTy (call_list_of) rfl (T.free 77) boot_list (pa_cons (pe_fld (pv 0) rfl) pa_nil)))), ?_⟩
  obtain ⟨rvs, hR, nR⟩ := M.rows
  refine ⟨_, rfl, m, _, _, _, _, rfl, M.at_, T.clsM, T.noM.2.1, rfl, ?_⟩
  refine ⟨A.r, _, rfl, .inl hR, fun l hl => ?_⟩
  exact q.of (Ex.new hl) ⟨l, rvs, rfl, upd_same, NkA.mono (Ex.new hl) _ _ nR⟩
def sp_Machine_states (K : PySem.W.Frag) : Sp := fun vs H Q _ => ∃ m S, vs = [.ref m] ∧ MacO K H m S ∧ Ret H Q fun v H' => ∃ l, v = .ref l ∧ H' l = some (.lst (S.met.map V.int))
theorem sc_Machine_states : FnScope ["self"] ["self"] d_Machine_states.scope := ⟨rfl, rfl, rfl, by decide +kernel, rfl, by decide +kernel, by decide +kernel⟩
theorem ok_Machine_states (T : Tp K mg) : Df P w K mg base (d_Machine_states.path K) 1 ["self"] (sp_Machine_states K) := by
  refine T.df 11 (d := d_Machine_states) rfl rfl sc_Machine_states (fun vs H Q E h => by obtain ⟨_, _, e, _⟩ := h; rw [e]; rfl) (fun _ _ _ _ _ _ us hl => match us, hl with | [_], _ => rfl) (fun cdv A outer s H vs Q E hr h => ?_)

  obtain ⟨m, S, rfl, ⟨A, M⟩, q⟩ := h
  refine ⟨_, PSs.nox (pss_one (ps_ret (pe_callTy (call_list_of) rfl (T.free 77) boot_list (pa_cons (pe_fld (pv 0) rfl) pa_nil)))), ?_⟩
  refine ⟨_, rfl, m, _, _, _, _, rfl, M.at_, T.clsM, T.noM.2.2.2.2.2, rfl, ?_⟩
  refine ⟨A.ms, _, rfl, .inl M.met, fun l hl => ?_⟩
  exact q.of (Ex.new hl) ⟨l, rfl, upd_same⟩
def sp_Machine_fault_names (K : PySem.W.Frag) : Sp := fun vs H Q _ => ∃ m S, vs = [.ref m] ∧ MacO K H m S ∧ Ret H Q fun v H' => ∃ l, v = .ref l ∧ H' l = some (.lst ((nmsOf S.ft).map V.str))
theorem sc_Machine_fault_names : FnScope ["self", "name"] ["self"] d_Machine_fault_names.scope := ⟨rfl, rfl, rfl, by decide +kernel, rfl, by decide +kernel, by decide +kernel⟩
theorem ok_Machine_fault_names (T : Tp K mg) : Df P w K mg base (d_Machine_fault_names.path K) 1 ["self"] (sp_Machine_fault_names K) := by
  refine T.df 9 (d := d_Machine_fault_names) rfl rfl sc_Machine_fault_names (fun vs H Q E h => by obtain ⟨_, _, e, _⟩ := h; rw [e]; rfl) (fun _ _ _ _ _ _ us hl => match us, hl with | [_], _ => rfl) (fun cdv A outer s H vs Q E hr h => ?_)

  obtain ⟨m, S, rfl, ⟨A, M⟩, q⟩ := h
  refine ⟨_, PSs.nox (pss_one (ps_ret (pe_callB (call_sortedSetK rfl hr) rfl (T.free 76) boot_sorted (pa_cons (pe_lock (pe_scK hr (own := [("name", 1)]) rfl sc_Machine_fault_names.nd (pi_values (pe_fld (pv 0) rfl)) (blkOk_by (N := ["self", "name"]) (sc := d_Machine_fault_names.scope) (by decide +kernel)) (fun _ _ _ _ _ => (pg_name (i := 1) sc_Machine_fault_names.nd rfl (Or.inl rfl))) (fun _ _ _ _ _ => pts_nil) (fun _ _ _ _ _ => (pv 1)))) pa_nil)))), ?_⟩
  have hm : m ≠ A.f := ne_of M.at_ M.fts (fun z => nomatch z)
  have tok : TbOk S.ft := M.ok.ft
  have hlen := tok.few
  refine ⟨A.f, _, M.fts, True.intro, fun od => ?_⟩
  refine ⟨_, rfl, m, _, _, _, _, rfl, (upd_ne hm).trans M.at_, T.clsM, T.noM.2.2.2.1, rfl, ?_⟩
  refine ⟨A.f, od, _, rfl, upd_same, fun D hD => ?_⟩
  refine cc_it walk_values (fun i H1 => Ex (upd H A.f (.frz od (.dK (tD S.ft)))) H1 ∧ H1 D = some (SKO w D ((insAll [] ((S.ft.map (·.2)).take i)).map Sum.inr))) ⟨Ex.new hD, upd_same⟩ (fun i H1 _ p => p.1 _ _ upd_same) (fun i x H1 H2 hi p y => ?_) (fun H1 p => ?_)
  · obtain ⟨rfl, k, hk⟩ := y
    obtain ⟨e, hd⟩ := p
    have hk2 : (tD S.ft)[i]? = some (k, x) := hk
    unfold tD at hk2
    rw [List.getElem?_map] at hk2
    obtain ⟨z, hz, ez⟩ := Option.map_eq_some_iff.mp hk2
    cases ez
    have hz2 : (S.ft.map (·.2))[i]? = some z.2 := by rw [List.getElem?_map, hz]; rfl
    refine ⟨rfl, ?_⟩
    refine ⟨_, rfl, _, .inr z.2, rfl, hd, ?_, e.mut hD, ?_⟩
    · have h2 := insAll_len ((S.ft.map (·.2)).take i) []
      rw [List.length_take, List.length_map] at h2
      rw [List.length_map]
      simp only [List.length_nil] at h2
      show _ < 4096
      omega
    · rw [take_next hz2, insAll_snoc]
      have e2 := insAll_inr [z.2] (insAll [] ((S.ft.map (·.2)).take i))
      have e3 : insK ((insAll [] ((S.ft.map (·.2)).take i)).map (Sum.inr : Str → Key)) (.inr z.2) = (insK (insAll [] ((S.ft.map (·.2)).take i)) z.2).map Sum.inr := e2
      rw [← e3]
      exact upd_same
  obtain ⟨e, hd⟩ := p
  have hl : (tD S.ft).length = S.ft.length := by unfold tD; rw [List.length_map]
  rw [hl, ← List.length_map (f := (·.2)) (as := S.ft), List.take_length] at hd
  have hD0 : D ≠ A.f := fun z => by rw [z, upd_same] at hD; cases hD
  refine ⟨e _ _ upd_same, ?_⟩
  have e2 : Ex H (upd H1 A.f (.dK (tD S.ft))) := Ex.back M.fts e
  refine ⟨D, _, rfl, (upd_ne hD0).trans hd, ?_, fun us p hus hp => ?_⟩
  · rw [toN_inr]
    exact alk_texts _
  · rw [toN_inr, srt_map] at hus
    obtain rfl := NkA.toStrs hus
    exact q.of (e2.to hp) ⟨p, rfl, upd_same⟩
def sp_Watch_sights (K : PySem.W.Frag) : Sp := fun vs H Q _ => ∃ a tab, vs = [.ref a] ∧ WatO K H a tab ∧ Ret H Q fun v H' => ∃ l, v = .ref l ∧ H' l = some (.lst ((nmsOf tab).map V.str))
theorem sc_Watch_sights : FnScope ["self", "sight"] ["self"] d_Watch_sights.scope := ⟨rfl, rfl, rfl, by decide +kernel, rfl, by decide +kernel, by decide +kernel⟩
theorem ok_Watch_sights (T : Tp K mg) : Df P w K mg base (d_Watch_sights.path K) 1 ["self"] (sp_Watch_sights K) := by
  refine T.df 21 (d := d_Watch_sights) rfl rfl sc_Watch_sights (fun vs H Q E h => by obtain ⟨_, _, e, _⟩ := h; rw [e]; rfl) (fun _ _ _ _ _ _ us hl => match us, hl with | [_], _ => rfl) (fun cdv A outer s H vs Q E hr h => ?_)

  obtain ⟨a, tab, rfl, ⟨dx, t, h1, h2, h3⟩, q⟩ := h
  refine ⟨_, PSs.nox (pss_one (ps_ret (pe_callB (call_sortedSetK rfl hr) rfl (T.free 76) boot_sorted (pa_cons (pe_lock (pe_scK hr (own := [("sight", 1)]) rfl sc_Watch_sights.nd (pi_values (pe_fld (pv 0) rfl)) (blkOk_by (N := ["self", "sight"]) (sc := d_Watch_sights.scope) (by decide +kernel)) (fun _ _ _ _ _ => (pg_name (i := 1) sc_Watch_sights.nd rfl (Or.inl rfl))) (fun _ _ _ _ _ => pts_nil) (fun _ _ _ _ _ => (pv 1)))) pa_nil)))), ?_⟩
  have hm : a ≠ t := ne_of h1 h2 (fun z => nomatch z)
  have tok : TbOk tab := h3
  have hlen := tok.few
  refine ⟨t, _, h2, True.intro, fun od => ?_⟩
  refine ⟨_, rfl, a, _, _, _, _, rfl, (upd_ne hm).trans h1, T.clsW, T.noW, rfl, ?_⟩
  refine ⟨t, od, _, rfl, upd_same, fun D hD => ?_⟩
  refine cc_it walk_values (fun i H1 => Ex (upd H t (.frz od (.dK (tD tab)))) H1 ∧ H1 D = some (SKO w D ((insAll [] ((tab.map (·.2)).take i)).map Sum.inr))) ⟨Ex.new hD, upd_same⟩ (fun i H1 _ p => p.1 _ _ upd_same) (fun i x H1 H2 hi p y => ?_) (fun H1 p => ?_)
  · obtain ⟨rfl, k, hk⟩ := y
    obtain ⟨e, hd⟩ := p
    have hk2 : (tD tab)[i]? = some (k, x) := hk
    unfold tD at hk2
    rw [List.getElem?_map] at hk2
    obtain ⟨z, hz, ez⟩ := Option.map_eq_some_iff.mp hk2
    cases ez
    have hz2 : (tab.map (·.2))[i]? = some z.2 := by rw [List.getElem?_map, hz]; rfl
    refine ⟨rfl, ?_⟩
    refine ⟨_, rfl, _, .inr z.2, rfl, hd, ?_, e.mut hD, ?_⟩
    · have h2 := insAll_len ((tab.map (·.2)).take i) []
      rw [List.length_take, List.length_map] at h2
      rw [List.length_map]
      simp only [List.length_nil] at h2
      show _ < 4096
      omega
    · rw [take_next hz2, insAll_snoc]
      have e2 := insAll_inr [z.2] (insAll [] ((tab.map (·.2)).take i))
      have e3 : insK ((insAll [] ((tab.map (·.2)).take i)).map (Sum.inr : Str → Key)) (.inr z.2) = (insK (insAll [] ((tab.map (·.2)).take i)) z.2).map Sum.inr := e2
      rw [← e3]
      exact upd_same
  obtain ⟨e, hd⟩ := p
  have hl : (tD tab).length = tab.length := by unfold tD; rw [List.length_map]
  rw [hl, ← List.length_map (f := (·.2)) (as := tab), List.take_length] at hd
  have hD0 : D ≠ t := fun z => by rw [z, upd_same] at hD; cases hD
  refine ⟨e _ _ upd_same, ?_⟩
  have e2 : Ex H (upd H1 t (.dK (tD tab))) := Ex.back h2 e
  refine ⟨D, _, rfl, (upd_ne hD0).trans hd, ?_, fun us p hus hp => ?_⟩
  · rw [toN_inr]
    exact alk_texts _
  · rw [toN_inr, srt_map] at hus
    obtain rfl := NkA.toStrs hus
    exact q.of (e2.to hp) ⟨p, rfl, upd_same⟩
def sp_Machine_faults (K : PySem.W.Frag) : Sp := fun vs H Q _ => ∃ m S, vs = [.ref m] ∧ MacO K H m S ∧ Ret H Q fun v H' => ∃ l, v = .ref l ∧ H' l = some (.dK (tD S.ft))
theorem sc_Machine_faults : FnScope ["self", "word"] ["self"] d_Machine_faults.scope := ⟨rfl, rfl, rfl, by decide +kernel, rfl, by decide +kernel, by decide +kernel⟩
theorem ok_Machine_faults (T : Tp K mg) : Df P w K mg base (d_Machine_faults.path K) 1 ["self"] (sp_Machine_faults K) := by
  refine T.df 10 (d := d_Machine_faults) rfl rfl sc_Machine_faults (fun vs H Q E h => by obtain ⟨_, _, e, _⟩ := h; rw [e]; rfl) (fun _ _ _ _ _ _ us hl => match us, hl with | [_], _ => rfl) (fun cdv A outer s H vs Q E hr h => ?_)

  obtain ⟨m, S, rfl, ⟨A, M⟩, q⟩ := h
  refine ⟨_, PSs.nox (pss_one (ps_ret (pe_lock (pe_dc (own := [("word", 1)]) rfl sc_Machine_faults.nd (pi_keys (pe_fld (pv 0) rfl)) (blkOk_by (N := ["self", "word"]) (sc := d_Machine_faults.scope) (by decide +kernel)) (fun _ _ _ _ _ => (pg_name (i := 1) sc_Machine_faults.nd rfl (Or.inl rfl))) (fun _ _ _ _ _ => pts_nil) (fun _ _ _ _ _ => (pv 1)) (fun _ _ _ _ _ => (pe_dget (by exact hu_of hr) (pe_fldB K rfl (pv 0) rfl) (pv 1) (fun _ _ => rfl))))))), ?_⟩
  have hm : m ≠ A.f := ne_of M.at_ M.fts (fun z => nomatch z)
  refine ⟨A.f, _, M.fts, True.intro, fun od => ?_⟩
  refine ⟨_, rfl, m, _, _, _, _, rfl, (upd_ne hm).trans M.at_, T.clsM, T.noM.2.2.2.1, rfl, ?_⟩
  have hlen := M.ok.ft.few
  refine ⟨A.f, od, rfl, .inl ⟨_, upd_same, fun D hD => ?_⟩⟩
  refine cc_it walk_keys (fun i H1 => Ex (upd H A.f (.frz od (.dK (tD S.ft)))) H1 ∧ H1 D = some (.dK (tD (S.ft.take i)))) ⟨Ex.new hD, upd_same⟩ (fun i H1 _ p => p.1 _ _ upd_same) (fun i x H1 H2 hi p y => ?_) (fun H1 p => ?_)
  · obtain ⟨rfl, k, v, hk, rfl⟩ := y
    obtain ⟨e, hd⟩ := p
    obtain ⟨z, hz, rfl, rfl⟩ := tD_get hk
    refine ⟨rfl, ?_⟩
    refine ⟨_, rfl, _, rfl, m, _, _, _, _, rfl, e _ _ ((upd_ne hm).trans M.at_), T.clsM, T.noM.2.2.2.1, rfl, _, rfl, A.f, .str z.2, rfl, .inl ⟨_, .inr z.1, .inr ⟨od, e _ _ upd_same⟩, rfl, ?_⟩, ?_⟩
    · rw [valV_tD, lk_mem M.ok.ft.nd (List.mem_of_getElem? hz)]
      rfl
    · refine ⟨_, .inr z.1, rfl, hd, ?_, e.mut hD, ?_⟩
      · rw [tD_len, List.length_take]
        exact Nat.lt_of_le_of_lt (show min i S.ft.length ≤ 50 by omega) (by decide)
      · rw [tD_put _ (lk_none_take M.ok.ft.nd hz), take_next hz]
        exact upd_same
  obtain ⟨e, hd⟩ := p
  rw [tD_len, List.take_length] at hd
  have hD0 : D ≠ A.f := fun z => by rw [z, upd_same] at hD; cases hD
  refine ⟨e _ _ upd_same, ?_⟩
  exact q.of (Ex.back M.fts e) ⟨D, rfl, (upd_ne hD0).trans hd⟩
def sp_is_fault_step (K : PySem.W.Frag) : Sp := fun vs H Q _ => ∃ m S i r, ∃ f : Str, vs = [.ref m, .int (i : Nat), .str f] ∧ MacO K H m S ∧ S.rows[i]? = some r ∧ Ret H Q fun v H' => v = .bl (decide (lk S.ft r.2.1 = some f))
theorem sc_is_fault_step : FnScope ["machine", "number", "fault"] ["machine", "number", "fault"] d_is_fault_step.scope := ⟨rfl, rfl, rfl, by decide +kernel, rfl, by decide +kernel, by decide +kernel⟩
theorem ok_is_fault_step (T : Tp K mg) : Cal P w K mg base "is_fault_step" 1 ["machine", "number", "fault"] (sp_is_fault_step K) := by
  refine ⟨_, T.glo 21, ?_⟩
  show Df P w K mg base (d_is_fault_step.path K) 1 ["machine", "number", "fault"] (sp_is_fault_step K)
  refine T.df 18 (d := d_is_fault_step) rfl rfl sc_is_fault_step (fun vs H Q E h => by obtain ⟨_, _, _, _, _, e, _⟩ := h; rw [e]; rfl) (fun _ _ _ _ _ _ us hl => match us, hl with | [_, _, _], _ => rfl) (fun cdv A outer s H vs Q E hr h => ?_)

  obtain ⟨m, S, i, r, f, rfl, ⟨A, M⟩, hr0, q⟩ := h
  refine ⟨_, PSs.nox (pss_one (ps_ret (pe_cmpR op_eq (pe_dget1 (by exact hu_of hr) (pe_fld (pv 0) rfl) (pe_ix ix_tup (pe_ix ix_list (pe_fld (pv 0) rfl) (pv 1) (fun _ _ => rfl)) pe_int (fun _ _ => rfl)) ⟨rfl, rfl, rfl, rfl⟩) (pv 2) (nomark _)))), ?_⟩
  obtain ⟨rvs, hR, nR⟩ := M.rows
  obtain ⟨rv, hrv, nrv⟩ := NkA.get' nR (show (S.rows.map kRow)[i]? = some (kRow r) by rw [List.getElem?_map, hr0]; rfl)
  obtain ⟨ra, rfl, hra⟩ := Nk.row nrv
  refine ⟨_, rfl, _, _, _, _, _, rfl, M.at_, T.clsM, T.noM.2.2.2.1, rfl, A.f, rfl, .inl ⟨_, .inl M.fts⟩, _, rfl, _, _, _, _, _, rfl, M.at_, T.clsM, T.noM.2.1, rfl, _, rfl, _, _, _, _, rfl, rfl, hR, atI_nat hrv, _, _, _, _, rfl, rfl, hra, rfl, _, DGet.k (k := .inr r.2.1) M.fts, ?_⟩
  rw [valV_tD, optV_getD]
  refine ⟨_, rfl, optV_scal _ _, ?_⟩
  rw [optV_dec]
  exact q.of (Ex.refl _) rfl
def sp_check_watch (K : PySem.W.Frag) : Sp := fun vs H Q _ => ∃ a tab, vs = [.ref a] ∧ WatO K H a tab ∧ Ret H Q fun v H' => v = .non
theorem sc_check_watch : FnScope ["watch"] ["watch"] d_check_watch.scope := ⟨rfl, rfl, rfl, by decide +kernel, rfl, by decide +kernel, by decide +kernel⟩
theorem ok_check_watch (T : Tp K mg) : Cal P w K mg base "check_watch" 1 ["watch"] (sp_check_watch K) := by
  refine ⟨_, T.glo 32, ?_⟩
  show Df P w K mg base (d_check_watch.path K) 1 ["watch"] (sp_check_watch K)
  refine T.df 29 (d := d_check_watch) rfl rfl sc_check_watch (fun vs H Q E h => by obtain ⟨_, _, e, _⟩ := h; rw [e]; rfl) (fun _ _ _ _ _ _ us hl => match us, hl with | [_], _ => rfl) (fun cdv A outer s H vs Q E hr h => ?_)

  obtain ⟨a, tab, rfl, ⟨dx, t, h1, h2, h3⟩, q⟩ := h
  refine ⟨_, PSs.nox (pss_one (ps_if (pt_not (pt_val (pe_callB call_isi rfl (T.free 75) boot_isinstance (pa_cons (pv 0) (pa_cons (pe_glob (v := .ref (cW K)) rfl (T.glo 23) rfl) pa_nil)))))
      pss_never pss_nil)), ?_⟩
  refine ⟨_, rfl, .ref a, .ref (cW K), _, _, true, rfl, .own _, .base (T.watch.2.2.2.2 h1), kit_self (by show (Value.ref _ == Value.ref _) = true; simp), true, rfl, ?_⟩
  refine itF rfl ?_
  exact q.of (Ex.refl _) rfl
def sp_check_fault (K : PySem.W.Frag) : Sp := fun vs H Q _ => ∃ m S, ∃ f : Str, vs = [.ref m, .str f] ∧ MacO K H m S ∧ f ∈ nmsOf S.ft ∧ Ret H Q fun v H' => v = .non
theorem sc_check_fault : FnScope ["machine", "fault"] ["machine", "fault"] d_check_fault.scope := ⟨rfl, rfl, rfl, by decide +kernel, rfl, by decide +kernel, by decide +kernel⟩
theorem ok_check_fault (T : Tp K mg) : Cal P w K mg base "check_fault" 3 ["machine", "fault"] (sp_check_fault K) := by
  refine ⟨_, T.glo 22, ?_⟩
  show Df P w K mg base (d_check_fault.path K) 3 ["machine", "fault"] (sp_check_fault K)
  refine T.df 19 (d := d_check_fault) rfl rfl sc_check_fault (fun vs H Q E h => by obtain ⟨_, _, _, e, _⟩ := h; rw [e]; rfl) (fun _ _ _ _ _ _ us hl => match us, hl with | [_, _], _ => rfl) (fun cdv A outer s H vs Q E hr h => ?_)

  obtain ⟨m, S, f, rfl, hM, hf, q⟩ := h
  refine ⟨_, PSs.nox (pss_one (ps_if (PW.pt (pw_or (pt_not (pt_val (pe_cal (ok_is_name T) hr (by decide) rfl (pa_cons (pv 1) pa_nil)))) (pw_or1 (pt_cmpR (op_notInK hr) (pv 1) (pe_prp (pv 0) T.clsM T.p_Machine_fault_names (ok_Machine_fault_names T) hr (by decide)) (by with_unfolding_all rfl)))))
      pss_never pss_nil)), ?_⟩
  obtain ⟨p, hp, rfl⟩ := List.mem_map.mp (nmsOf_mem.mp hf)
  obtain ⟨A, M⟩ := hM
  refine ⟨_, rfl, p.2, rfl, (M.ok.ft.nm p hp).2, fun v H1 e1 ev => ?_⟩
  subst ev
  refine ⟨_, rfl, iteF ?_⟩
  refine ⟨_, rfl, _, rfl, m, _, _, rfl, e1 _ _ M.at_, m, S, rfl, ⟨A, M.mono e1⟩, fun v2 H2 e2 ⟨l, ev, hl⟩ => ?_⟩
  subst ev
  refine ⟨l, .text p.2, (nmsOf S.ft).map .text, rfl, .text _, SqK.l (SqL.of hl) (NkA.strs _), Nat.zero_le _, _, rfl, ?_⟩
  refine itF (nF ((mem_map_inj text_inj).mpr hf)) ?_
  exact q.of (e1.trans e2) rfl
end
end K25
/-! estimates, one sight after the other -/
namespace K25
open PySem PySem.Spec PyProof.Rows L2
/-- the ends behind the steps js from p that have the sight s -/
noncomputable def hitsOf (rows : List Row) (ft tab : Tab) (s : Str) (p : Pr) (js : List Nat) : List Pr := js.filterMap fun j => match rows[j]? with
  | some r => if lk tab r.2.1 = some s then some (behind ft p r) else none
  | none => none
theorem hitsOf_snoc_y {rows : List Row} {ft tab : Tab} {s : Str} {p : Pr} {js : List Nat} {j : Nat} {r : Row} (hr : rows[j]? = some r) (hu : lk tab r.2.1 = some s) : hitsOf rows ft tab s p (js ++ [j]) = hitsOf rows ft tab s p js ++ [behind ft p r] := by
  unfold hitsOf
  rw [List.filterMap_append]
  simp [hr, hu]
theorem hitsOf_snoc_n {rows : List Row} {ft tab : Tab} {s : Str} {p : Pr} {js : List Nat} {j : Nat} {r : Row} (hr : rows[j]? = some r) (hu : lk tab r.2.1 ≠ some s) : hitsOf rows ft tab s p (js ++ [j]) = hitsOf rows ft tab s p js := by
  unfold hitsOf
  rw [List.filterMap_append]
  simp [hr, hu]
theorem hitsOf_len (rows : List Row) (ft tab : Tab) (s : Str) (p : Pr) (js : List Nat) : (hitsOf rows ft tab s p js).length ≤ js.length := List.length_filterMap_le _ _
theorem idx_len (rows : List Row) (st : Int) : (idx rows st).length ≤ rows.length := by
  unfold idx
  have h := List.length_filter_le (fun i => decide ((rows[i]?.map (·.1)) = some st)) (List.range rows.length)
  rw [List.length_range] at h
  exact h
noncomputable def endsOf (rows : List Row) (ft tab : Tab) (s : Str) (E : List Pr) : List Pr := E.flatMap fun p => hitsOf rows ft tab s p (idx rows p.1)
theorem endsOf_snoc {rows : List Row} {ft tab : Tab} {s : Str} {E : List Pr} {p : Pr} : endsOf rows ft tab s (E ++ [p]) = endsOf rows ft tab s E ++ hitsOf rows ft tab s p (idx rows p.1) := by
  unfold endsOf
  rw [List.flatMap_append]
  simp
theorem endsOf_len (rows : List Row) (ft tab : Tab) (s : Str) : ∀ E : List Pr, (endsOf rows ft tab s E).length ≤ rows.length * E.length
  | [] => Nat.zero_le _
  | p :: E => by
    have h1 := endsOf_len rows ft tab s E
    have h2 := hitsOf_len rows ft tab s p (idx rows p.1)
    have h3 := idx_len rows p.1
    have e : endsOf rows ft tab s (p :: E) = hitsOf rows ft tab s p (idx rows p.1) ++ endsOf rows ft tab s E := rfl
    rw [e, List.length_append, List.length_cons, Nat.mul_succ]
    omega
theorem endsOf_mem {rows : List Row} {ft tab : Tab} {s : Str} {E : List Pr} {p : Pr} : p ∈ endsOf rows ft tab s E ↔ Ends rows ft tab s E p := by
  unfold endsOf hitsOf Ends
  rw [List.mem_flatMap]
  constructor
  · rintro ⟨q, hq, h⟩
    obtain ⟨j, hj, e⟩ := List.mem_filterMap.mp h
    obtain ⟨r, hr, e1⟩ := idx_mem.mp hj
    rw [hr] at e
    by_cases c : lk tab r.2.1 = some s
    · simp only [c, if_true] at e
      exact ⟨q, hq, r, List.mem_of_getElem? hr, e1, c, (Option.some.inj e).symm⟩
    · simp only [c, if_false] at e
      cases e
  · rintro ⟨q, hq, r, hr, e1, e2, rfl⟩
    obtain ⟨i, hi, e⟩ := List.getElem_of_mem hr
    have hg : rows[i]? = some r := by rw [List.getElem?_eq_getElem hi, e]
    exact ⟨q, hq, List.mem_filterMap.mpr ⟨i, idx_mem.mpr ⟨r, hg, e1⟩, by simp [hg, e2]⟩⟩
section
variable {P : Program} {w : World} {K : PySem.W.Frag} {mg : Str → Option Value} {base : Heap}
/-- a list of pairs is given back -/
def Gives (K : PySem.W.Frag) (E : List Pr) : V → Hp → Prop := fun v H' => ∃ r us, v = .ref r ∧ H' r = some (.lst us) ∧ NkA K H' us (E.map kPr)
def sp_first_estimate (K : PySem.W.Frag) : Sp := fun vs H Q _ => ∃ m wt S tab, ∃ U : List Pr, vs = [.ref m, .ref wt] ∧ MacO K H m S ∧ WatO K H wt tab ∧ Uni S.rows S.ft U ∧ (S.st, []) ∈ U ∧ Ret H Q (Gives K (firstE S.rows S.ft tab U S.st))
theorem sc_first_estimate : FnScope ["machine", "watch"] ["machine", "watch"] d_first_estimate.scope := ⟨rfl, rfl, rfl, by decide +kernel, rfl, by decide +kernel, by decide +kernel⟩
theorem ok_first_estimate (T : Tp K mg) : Cal P w K mg base "first_estimate" 3 ["machine", "watch"] (sp_first_estimate K) := by
  refine ⟨_, T.glo 35, ?_⟩
  show Df P w K mg base (d_first_estimate.path K) 3 ["machine", "watch"] (sp_first_estimate K)
  refine T.df 32 (d := d_first_estimate) rfl rfl sc_first_estimate (fun vs H Q E h => by obtain ⟨_, _, _, _, _, e, _⟩ := h; rw [e]; rfl) (fun _ _ _ _ _ _ us hl => match us, hl with | [_, _], _ => rfl) (fun cdv A outer s H vs Q E hr h => ?_)

  obtain ⟨m, wt, S, tab, U, rfl, hM, hW, u, hU, q⟩ := h
  refine ⟨_, PSs.nox (pss_one (ps_ret (pe_cal (ok_closed_pairs T) hr (by decide) rfl (pa_cons (pv 0) (pa_cons (pv 1) (pa_cons (pe_lst (pa_cons (pe_tup (pa_cons (pe_prp (pv 0) T.clsM T.p_Machine_start (ok_Machine_start T) hr (by decide)) (pa_cons (pe_tup pa_nil) pa_nil))) pa_nil)) pa_nil)))))), ?_⟩
  obtain ⟨A, M⟩ := hM
  refine ⟨_, rfl, _, rfl, _, rfl, m, _, _, rfl, M.at_, m, S, rfl, ⟨A, M⟩, fun v1 H1 e1 ev => ?_⟩
  subst ev
  refine ⟨by show 0 ≤ sizeLine; decide, fun t1 ht1 => ?_⟩
  refine ⟨by show 2 ≤ sizeLine; decide, fun t2 ht2 => ?_⟩
  refine ⟨by show 1 ≤ sizeLine; decide, fun l ht3 => ?_⟩
  have e2 := ((e1.to (o := .tup []) ht1).to (o := .tup [.int S.st, .ref t1]) ht2).to (o := .lst [.ref t2]) ht3
  have n2 : Nk K (upd (upd (upd H1 t1 (.tup [])) t2 (.tup [.int S.st, .ref t1])) l (.lst [.ref t2])) (.ref t2) (kPr (S.st, [])) := Nk.mono (Ex.new ht3) _ _ (Nk.ofPr (p := (S.st, [])) (SqT.of upd_same) ((Ex.new ht2).sqT (SqT.of upd_same)))
  refine ⟨m, wt, S, tab, l, _, [(S.st, [])], U, rfl, ⟨A, M.mono e2⟩, hW.mono e2, SqL.of upd_same, .cons n2 .nil, u, fun p hp => by rw [List.mem_singleton.mp hp]; exact hU, by show 1 < 1000; decide, fun v3 H3 e3 hv => ?_⟩
  refine q v3 H3 (e2.trans e3) ?_
  have e : (cloL S.rows S.ft tab U fun p => p ∈ [(S.st, [])]) = firstE S.rows S.ft tab U S.st := cloL_congr u fun p => List.mem_singleton
  rw [e] at hv
  exact hv
def sp_later_estimate (K : PySem.W.Frag) : Sp := fun vs H Q _ => ∃ m wt S tab a pvs, ∃ E U : List Pr, ∃ s : Str, vs = [.ref m, .ref wt, .ref a, .str s] ∧ MacO K H m S ∧ WatO K H wt tab ∧ SqT K H a pvs ∧ NkA K H pvs (E.map kPr) ∧ Uni S.rows S.ft U ∧ (∀ p ∈ E, p ∈ U) ∧ E.length < 60 ∧ Ret H Q (Gives K (laterE S.rows S.ft tab U s E))
theorem sc_later_estimate : FnScope ["machine", "watch", "pairs", "sight", "ends", "pair", "number"] ["machine", "watch", "pairs", "sight"] d_later_estimate.scope := ⟨rfl, rfl, rfl, by decide +kernel, rfl, by decide +kernel, by decide +kernel⟩
theorem ok_later_estimate (T : Tp K mg) : Cal P w K mg base "later_estimate" 3 ["machine", "watch", "pairs", "sight"] (sp_later_estimate K) := by
  refine ⟨_, T.glo 36, ?_⟩
  show Df P w K mg base (d_later_estimate.path K) 3 ["machine", "watch", "pairs", "sight"] (sp_later_estimate K)
  refine T.df 33 (d := d_later_estimate) rfl rfl sc_later_estimate (fun vs H Q E h => by obtain ⟨_, _, _, _, _, _, _, _, _, e, _⟩ := h; rw [e]; rfl) (fun _ _ _ _ _ _ us hl => match us, hl with | [_, _, _, _], _ => rfl) (fun cdv A outer s H vs Q E hr h => ?_)

  obtain ⟨m, wt, S, tab, a, pvs, E, U, s, rfl, hM, hW, ha, na, u, hU, hz, q⟩ := h
  refine ⟨_, PSs.nox (pss_cons (ps_set (i := 4) sc_later_estimate.nd rfl (Or.inl rfl) (pe_lst pa_nil))
      (pss_cons (ps_for PassesOwn.never rfl (pi_tup (pv 2)) (pg_name (i := 5) sc_later_estimate.nd rfl (Or.inl rfl))
      (pss_one (ps_for PassesOwn.never rfl (pi_list (pe_cal (ok_steps_from T) hr (by decide) rfl (pa_cons (pv 0) (pa_cons (pe_ix ix_tup (pv 5) pe_int (fun _ _ => rfl)) pa_nil)))) (pg_name (i := 6) sc_later_estimate.nd rfl (Or.inl rfl))
      (pss_one (ps_if (pt_cmpR op_eq (pe_cal (ok_sight_of T) hr (by decide) rfl (pa_cons (pv 1) (pa_cons (pe_ix ix_tup (pe_ix ix_list (pe_fld (pv 0) rfl) (pv 6) (fun _ _ => rfl)) pe_int (fun _ _ => rfl)) pa_nil))) (pv 3) (nomark _))
      (pss_one (ps_expr (pe_bm PySem.F.plainAttrs_list PySem.F.slot_list_append PySem.F.type_list_append mt_append (pv 4) (pa_cons (pe_cal (ok_pair_behind T) hr (by decide) rfl (pa_cons (pv 0) (pa_cons (pv 5) (pa_cons (pv 6) pa_nil)))) pa_nil)))) pss_nil)))))
      (pss_one (ps_ret (pe_cal (ok_closed_pairs T) hr (by decide) rfl (pa_cons (pv 0) (pa_cons (pv 1) (pa_cons (pv 4) pa_nil)))))))), ?_⟩
  have few : S.rows.length ≤ 16 := by obtain ⟨A, M⟩ := hM; exact M.ok.few
  refine ⟨by show 0 ≤ sizeLine; decide, fun en hen => ?_⟩
  have hen0 : H en = none := hen
  refine ⟨_, rfl, a, rfl, ⟨pvs, (Ex.new hen).sqT ha⟩, ?_⟩
  refine for_it (walk_tup (xs := pvs)) (fun i σ H1 => ∃ v5 v6 ws, σ = [some (.ref m), some (.ref wt), some (.ref a), some (.str s), some (.ref en), v5, v6] ∧ Ex H H1 ∧ H1 en = some (.lst ws) ∧ NkA K H1 ws ((endsOf S.rows S.ft tab s (E.take i)).map kPr))
    ⟨none, none, [], rfl, Ex.new hen, upd_same, .nil⟩ (fun i σ H1 _ p => by obtain ⟨v5, v6, ws, rfl, e, _⟩ := p; exact e.sqT ha) (fun i x σ H1 H2 hi p y => ?_) (fun σ H1 p => ?_)
  · obtain ⟨rfl, hx⟩ := y
    obtain ⟨v5, v6, ws, rfl, e1, hws, nws⟩ := p
    obtain ⟨k, hk, nk⟩ := NkA.get na hx
    rw [List.getElem?_map] at hk
    obtain ⟨p, hp, rfl⟩ := Option.map_eq_some_iff.mp hk
    obtain ⟨pa, pb, rfl, hpa, hpb⟩ := Nk.pr nk
    have hpU := hU p (List.mem_of_getElem? hp)
    have hiE : i < E.length := (List.getElem?_eq_some_iff.mp hp).1
    refine ⟨_, rfl, _, rfl, _, _, _, _, rfl, rfl, e1.sqT hpa, rfl, m, S, p.1, rfl, hM.mono e1, fun v5 H5 e5 ⟨l5, ev5, hl5, _⟩ => ?_⟩
    subst ev5
    refine ⟨l5, rfl, ⟨_, SqL.of hl5⟩, ?_⟩
    have IV : ∀ {Hx : Hp} {ws : List V} {Ws : List Pr} {i : Nat} {j : Nat}, Hx en = some (.lst ws) → NkA K Hx ws (Ws.map kPr) → Hx l5 = some (.lst ((idx S.rows p.1).map fun i => V.int (i : Nat))) → (idx S.rows p.1)[i]? = some j → l5 ≠ en := by
      intro Hx ws Ws i j h1 h2 h3 h4 h5
      rw [h5, h1] at h3
      injection h3 with h3
      injection h3 with h3
      have h6 : ws[i]? = some (V.int (j : Nat)) := by rw [h3, List.getElem?_map, h4]; rfl
      obtain ⟨k, hk, nk⟩ := NkA.get h2 h6
      rw [List.getElem?_map] at hk
      obtain ⟨z, hz, rfl⟩ := Option.map_eq_some_iff.mp hk
      obtain ⟨a, b, ez, _, _⟩ := Nk.pr nk
      cases ez
    refine for_it (walk_list (xs := (idx S.rows p.1).map fun i => V.int (i : Nat))) (fun j σ H6 => ∃ v6 ws, σ = [some (.ref m), some (.ref wt), some (.ref a), some (.str s), some (.ref en), some (.ref pa), v6] ∧ Ex H H6 ∧ H6 en = some (.lst ws) ∧ NkA K H6 ws ((endsOf S.rows S.ft tab s (E.take i) ++ hitsOf S.rows S.ft tab s p ((idx S.rows p.1).take j)).map kPr) ∧ H6 l5 = some (.lst ((idx S.rows p.1).map fun i => V.int (i : Nat))))
      ⟨v6, ws, rfl, e1.trans e5, e5 _ _ hws, by rw [List.take_zero]; show NkA K _ _ ((_ ++ []).map kPr); rw [List.append_nil]; exact NkA.mono e5 _ _ nws, hl5⟩ (fun j σ H6 _ p => by obtain ⟨v6, ws, rfl, e, h1, h2, h3⟩ := p; exact SqL.of h3) (fun j x σ H6 H7 hj p y => ?_) (fun σ H6 p => ?_)
    · obtain ⟨v6, ws, rfl, e6, hw6, nw6, hl6⟩ := p
      obtain ⟨rfl, hx⟩ := y
      rw [List.getElem?_map] at hx
      obtain ⟨n, hn, rfl⟩ := Option.map_eq_some_iff.mp hx
      have hlw := IV hw6 nw6 hl6 hn
      obtain ⟨r, hr0, hr1⟩ := idx_mem.mp (List.mem_of_getElem? hn)
      obtain ⟨MA, M⟩ := hM.mono e6
      obtain ⟨rvs, hR, nR⟩ := M.rows
      obtain ⟨rv, hrv, nrv⟩ := NkA.get' nR (show (S.rows.map kRow)[n]? = some (kRow r) by rw [List.getElem?_map, hr0]; rfl)
      obtain ⟨ra, rfl, hra⟩ := Nk.row nrv
      refine ⟨_, rfl, _, rfl, _, _, _, _, _, rfl, M.at_, T.clsM, T.noM.2.1, rfl, _, rfl, _, _, _, _, rfl, rfl, hR, atI_nat hrv, _, _, _, _, rfl, rfl, hra, rfl, wt, tab, r.2.1, rfl, hW.mono e6, fun v8 H8 e8 ev8 => ?_⟩
      subst ev8
      refine ⟨_, rfl, optV_scal _ _, ?_⟩
      rw [optV_dec]
      refine ⟨_, rfl, itE (fun c => ?_) fun c => ?_⟩
      · have hu := ofT c
        have b1 := endsOf_len S.rows S.ft tab s (E.take i)
        have b2 := hitsOf_len S.rows S.ft tab s p ((idx S.rows p.1).take j)
        have b3 := nw6.length
        rw [List.length_map, List.length_append] at b3
        rw [List.length_take] at b1 b2
        have b4 : S.rows.length * min i E.length ≤ 16 * 60 := Nat.mul_le_mul few (by omega)
        have b5 := idx_len S.rows p.1
        refine ⟨_, rfl, .inl ⟨rfl, _, SqL.of (e8 _ _ hw6)⟩, _, rfl, _, rfl, _, rfl, m, S, _, p, n, r, rfl, hM.mono (e6.trans e8), Nk.mono (e6.trans e8) _ _ nk, hr0, Nat.lt_of_le_of_lt (u.short p hpU) (by decide), fun v9 H9 e9 ⟨b9, ev9, n9⟩ => ?_⟩
        subst ev9
        refine ⟨en, ws, _, rfl, rfl, e9 _ _ (e8 _ _ hw6), Nat.lt_of_le_of_lt (show ws.length ≤ 2000 by omega) (by decide), ?_⟩
        have e10 := e8.trans e9
        have d1 := NkA.append (NkA.other (zs := ws ++ [V.ref b9]) (NkA.mono e10 _ _ nw6) (e10 _ _ hw6)) (NkA.cons (Nk.upd (o := .lst (ws ++ [V.ref b9])) (e10 _ _ hw6) lst_ne _ _ n9) NkA.nil)
        rw [show (endsOf S.rows S.ft tab s (E.take i) ++ hitsOf S.rows S.ft tab s p ((idx S.rows p.1).take j)).map kPr ++ [kPr (behind S.ft p r)] = (endsOf S.rows S.ft tab s (E.take i) ++ hitsOf S.rows S.ft tab s p ((idx S.rows p.1).take (j + 1))).map kPr by rw [take_next hn, hitsOf_snoc_y hr0 hu, ← List.append_assoc, map_snoc]] at d1
        exact ⟨_, _, rfl, (e6.trans e10).mut hen0, upd_same, d1, (upd_ne hlw).trans (e10 _ _ hl6)⟩
      · refine ⟨_, _, rfl, e6.trans e8, e8 _ _ hw6, ?_, e8 _ _ hl6⟩
        rw [take_next hn, hitsOf_snoc_n hr0 (ofF c)]
        exact NkA.mono e8 _ _ nw6
    · obtain ⟨v6, ws, rfl, e6, hw6, nw6, hl6⟩ := p
      rw [List.length_map, List.take_length, ← endsOf_snoc, ← take_next hp] at nw6
      exact ⟨_, _, _, rfl, e6, hw6, nw6⟩
  · obtain ⟨v5, v6, ws, rfl, e1, hws, nws⟩ := p
    rw [na.length, List.length_map, List.take_length] at nws
    have b1 := endsOf_len S.rows S.ft tab s E
    have b4 : S.rows.length * E.length ≤ 16 * 59 := Nat.mul_le_mul few (by omega)
    refine ⟨_, rfl, _, rfl, _, rfl, m, wt, S, tab, en, ws, _, U, rfl, hM.mono e1, hW.mono e1, SqL.of hws, nws, u, fun p hp => ?_, by omega, fun v3 H3 e3 hv => ?_⟩
    · exact Ends.in_U u hU (endsOf_mem.mp hp)
    · refine q v3 H3 (e1.trans e3) ?_
      have e : (cloL S.rows S.ft tab U fun p => p ∈ endsOf S.rows S.ft tab s E) = laterE S.rows S.ft tab U s E := cloL_congr u fun p => endsOf_mem
      rw [e] at hv
      exact hv
def sp_later_estimateL (K : PySem.W.Frag) : Sp := fun vs H Q _ => ∃ m wt S tab a pvs, ∃ E U : List Pr, ∃ s : Str, vs = [.ref m, .ref wt, .ref a, .str s] ∧ MacO K H m S ∧ WatO K H wt tab ∧ SqL K H a pvs ∧ NkA K H pvs (E.map kPr) ∧ Uni S.rows S.ft U ∧ (∀ p ∈ E, p ∈ U) ∧ E.length < 60 ∧ Ret H Q (Gives K (laterE S.rows S.ft tab U s E))
theorem ok_later_estimateL (T : Tp K mg) : Cal P w K mg base "later_estimate" 3 ["machine", "watch", "pairs", "sight"] (sp_later_estimateL K) := by
  refine ⟨_, T.glo 36, ?_⟩
  show Df P w K mg base (d_later_estimate.path K) 3 ["machine", "watch", "pairs", "sight"] (sp_later_estimateL K)
  refine T.df 33 (d := d_later_estimate) rfl rfl sc_later_estimate (fun vs H Q E h => by obtain ⟨_, _, _, _, _, _, _, _, _, e, _⟩ := h; rw [e]; rfl) (fun _ _ _ _ _ _ us hl => match us, hl with | [_, _, _, _], _ => rfl) (fun cdv A outer s H vs Q E hr h => ?_)

  obtain ⟨m, wt, S, tab, a, pvs, E, U, s, rfl, hM, hW, ha, na, u, hU, hz, q⟩ := h
  refine ⟨_, PSs.nox (pss_cons (ps_set (i := 4) sc_later_estimate.nd rfl (Or.inl rfl) (pe_lst pa_nil))
      (pss_cons (ps_for PassesOwn.never rfl (pi_list (pv 2)) (pg_name (i := 5) sc_later_estimate.nd rfl (Or.inl rfl))
      (pss_one (ps_for PassesOwn.never rfl (pi_list (pe_cal (ok_steps_from T) hr (by decide) rfl (pa_cons (pv 0) (pa_cons (pe_ix ix_tup (pv 5) pe_int (fun _ _ => rfl)) pa_nil)))) (pg_name (i := 6) sc_later_estimate.nd rfl (Or.inl rfl))
      (pss_one (ps_if (pt_cmpR op_eq (pe_cal (ok_sight_of T) hr (by decide) rfl (pa_cons (pv 1) (pa_cons (pe_ix ix_tup (pe_ix ix_list (pe_fld (pv 0) rfl) (pv 6) (fun _ _ => rfl)) pe_int (fun _ _ => rfl)) pa_nil))) (pv 3) (nomark _))
      (pss_one (ps_expr (pe_bm PySem.F.plainAttrs_list PySem.F.slot_list_append PySem.F.type_list_append mt_append (pv 4) (pa_cons (pe_cal (ok_pair_behind T) hr (by decide) rfl (pa_cons (pv 0) (pa_cons (pv 5) (pa_cons (pv 6) pa_nil)))) pa_nil)))) pss_nil)))))
      (pss_one (ps_ret (pe_cal (ok_closed_pairs T) hr (by decide) rfl (pa_cons (pv 0) (pa_cons (pv 1) (pa_cons (pv 4) pa_nil)))))))), ?_⟩
  have few : S.rows.length ≤ 16 := by obtain ⟨A, M⟩ := hM; exact M.ok.few
  refine ⟨by show 0 ≤ sizeLine; decide, fun en hen => ?_⟩
  have hen0 : H en = none := hen
  refine ⟨_, rfl, a, rfl, ⟨pvs, (Ex.new hen).sqL ha⟩, ?_⟩
  refine for_it (walk_list (xs := pvs)) (fun i σ H1 => ∃ v5 v6 ws, σ = [some (.ref m), some (.ref wt), some (.ref a), some (.str s), some (.ref en), v5, v6] ∧ Ex H H1 ∧ H1 en = some (.lst ws) ∧ NkA K H1 ws ((endsOf S.rows S.ft tab s (E.take i)).map kPr))
    ⟨none, none, [], rfl, Ex.new hen, upd_same, .nil⟩ (fun i σ H1 _ p => by obtain ⟨v5, v6, ws, rfl, e, _⟩ := p; exact e.sqL ha) (fun i x σ H1 H2 hi p y => ?_) (fun σ H1 p => ?_)
  · obtain ⟨rfl, hx⟩ := y
    obtain ⟨v5, v6, ws, rfl, e1, hws, nws⟩ := p
    obtain ⟨k, hk, nk⟩ := NkA.get na hx
    rw [List.getElem?_map] at hk
    obtain ⟨p, hp, rfl⟩ := Option.map_eq_some_iff.mp hk
    obtain ⟨pa, pb, rfl, hpa, hpb⟩ := Nk.pr nk
    have hpU := hU p (List.mem_of_getElem? hp)
    have hiE : i < E.length := (List.getElem?_eq_some_iff.mp hp).1
    refine ⟨_, rfl, _, rfl, _, _, _, _, rfl, rfl, e1.sqT hpa, rfl, m, S, p.1, rfl, hM.mono e1, fun v5 H5 e5 ⟨l5, ev5, hl5, _⟩ => ?_⟩
    subst ev5
    refine ⟨l5, rfl, ⟨_, SqL.of hl5⟩, ?_⟩
    have IV : ∀ {Hx : Hp} {ws : List V} {Ws : List Pr} {i : Nat} {j : Nat}, Hx en = some (.lst ws) → NkA K Hx ws (Ws.map kPr) → Hx l5 = some (.lst ((idx S.rows p.1).map fun i => V.int (i : Nat))) → (idx S.rows p.1)[i]? = some j → l5 ≠ en := by
      intro Hx ws Ws i j h1 h2 h3 h4 h5
      rw [h5, h1] at h3
      injection h3 with h3
      injection h3 with h3
      have h6 : ws[i]? = some (V.int (j : Nat)) := by rw [h3, List.getElem?_map, h4]; rfl
      obtain ⟨k, hk, nk⟩ := NkA.get h2 h6
      rw [List.getElem?_map] at hk
      obtain ⟨z, hz, rfl⟩ := Option.map_eq_some_iff.mp hk
      obtain ⟨a, b, ez, _, _⟩ := Nk.pr nk
      cases ez
    refine for_it (walk_list (xs := (idx S.rows p.1).map fun i => V.int (i : Nat))) (fun j σ H6 => ∃ v6 ws, σ = [some (.ref m), some (.ref wt), some (.ref a), some (.str s), some (.ref en), some (.ref pa), v6] ∧ Ex H H6 ∧ H6 en = some (.lst ws) ∧ NkA K H6 ws ((endsOf S.rows S.ft tab s (E.take i) ++ hitsOf S.rows S.ft tab s p ((idx S.rows p.1).take j)).map kPr) ∧ H6 l5 = some (.lst ((idx S.rows p.1).map fun i => V.int (i : Nat))))
      ⟨v6, ws, rfl, e1.trans e5, e5 _ _ hws, by rw [List.take_zero]; show NkA K _ _ ((_ ++ []).map kPr); rw [List.append_nil]; exact NkA.mono e5 _ _ nws, hl5⟩ (fun j σ H6 _ p => by obtain ⟨v6, ws, rfl, e, h1, h2, h3⟩ := p; exact SqL.of h3) (fun j x σ H6 H7 hj p y => ?_) (fun σ H6 p => ?_)
    · obtain ⟨v6, ws, rfl, e6, hw6, nw6, hl6⟩ := p
      obtain ⟨rfl, hx⟩ := y
      rw [List.getElem?_map] at hx
      obtain ⟨n, hn, rfl⟩ := Option.map_eq_some_iff.mp hx
      have hlw := IV hw6 nw6 hl6 hn
      obtain ⟨r, hr0, hr1⟩ := idx_mem.mp (List.mem_of_getElem? hn)
      obtain ⟨MA, M⟩ := hM.mono e6
      obtain ⟨rvs, hR, nR⟩ := M.rows
      obtain ⟨rv, hrv, nrv⟩ := NkA.get' nR (show (S.rows.map kRow)[n]? = some (kRow r) by rw [List.getElem?_map, hr0]; rfl)
      obtain ⟨ra, rfl, hra⟩ := Nk.row nrv
      refine ⟨_, rfl, _, rfl, _, _, _, _, _, rfl, M.at_, T.clsM, T.noM.2.1, rfl, _, rfl, _, _, _, _, rfl, rfl, hR, atI_nat hrv, _, _, _, _, rfl, rfl, hra, rfl, wt, tab, r.2.1, rfl, hW.mono e6, fun v8 H8 e8 ev8 => ?_⟩
      subst ev8
      refine ⟨_, rfl, optV_scal _ _, ?_⟩
      rw [optV_dec]
      refine ⟨_, rfl, itE (fun c => ?_) fun c => ?_⟩
      · have hu := ofT c
        have b1 := endsOf_len S.rows S.ft tab s (E.take i)
        have b2 := hitsOf_len S.rows S.ft tab s p ((idx S.rows p.1).take j)
        have b3 := nw6.length
        rw [List.length_map, List.length_append] at b3
        rw [List.length_take] at b1 b2
        have b4 : S.rows.length * min i E.length ≤ 16 * 60 := Nat.mul_le_mul few (by omega)
        have b5 := idx_len S.rows p.1
        refine ⟨_, rfl, .inl ⟨rfl, _, SqL.of (e8 _ _ hw6)⟩, _, rfl, _, rfl, _, rfl, m, S, _, p, n, r, rfl, hM.mono (e6.trans e8), Nk.mono (e6.trans e8) _ _ nk, hr0, Nat.lt_of_le_of_lt (u.short p hpU) (by decide), fun v9 H9 e9 ⟨b9, ev9, n9⟩ => ?_⟩
        subst ev9
        refine ⟨en, ws, _, rfl, rfl, e9 _ _ (e8 _ _ hw6), Nat.lt_of_le_of_lt (show ws.length ≤ 2000 by omega) (by decide), ?_⟩
        have e10 := e8.trans e9
        have d1 := NkA.append (NkA.other (zs := ws ++ [V.ref b9]) (NkA.mono e10 _ _ nw6) (e10 _ _ hw6)) (NkA.cons (Nk.upd (o := .lst (ws ++ [V.ref b9])) (e10 _ _ hw6) lst_ne _ _ n9) NkA.nil)
        rw [show (endsOf S.rows S.ft tab s (E.take i) ++ hitsOf S.rows S.ft tab s p ((idx S.rows p.1).take j)).map kPr ++ [kPr (behind S.ft p r)] = (endsOf S.rows S.ft tab s (E.take i) ++ hitsOf S.rows S.ft tab s p ((idx S.rows p.1).take (j + 1))).map kPr by rw [take_next hn, hitsOf_snoc_y hr0 hu, ← List.append_assoc, map_snoc]] at d1
        exact ⟨_, _, rfl, (e6.trans e10).mut hen0, upd_same, d1, (upd_ne hlw).trans (e10 _ _ hl6)⟩
      · refine ⟨_, _, rfl, e6.trans e8, e8 _ _ hw6, ?_, e8 _ _ hl6⟩
        rw [take_next hn, hitsOf_snoc_n hr0 (ofF c)]
        exact NkA.mono e8 _ _ nw6
    · obtain ⟨v6, ws, rfl, e6, hw6, nw6, hl6⟩ := p
      rw [List.length_map, List.take_length, ← endsOf_snoc, ← take_next hp] at nw6
      exact ⟨_, _, _, rfl, e6, hw6, nw6⟩
  · obtain ⟨v5, v6, ws, rfl, e1, hws, nws⟩ := p
    rw [na.length, List.length_map, List.take_length] at nws
    have b1 := endsOf_len S.rows S.ft tab s E
    have b4 : S.rows.length * E.length ≤ 16 * 59 := Nat.mul_le_mul few (by omega)
    refine ⟨_, rfl, _, rfl, _, rfl, m, wt, S, tab, en, ws, _, U, rfl, hM.mono e1, hW.mono e1, SqL.of hws, nws, u, fun p hp => ?_, by omega, fun v3 H3 e3 hv => ?_⟩
    · exact Ends.in_U u hU (endsOf_mem.mp hp)
    · refine q v3 H3 (e1.trans e3) ?_
      have e : (cloL S.rows S.ft tab U fun p => p ∈ endsOf S.rows S.ft tab s E) = laterE S.rows S.ft tab U s E := cloL_congr u fun p => endsOf_mem
      rw [e] at hv
      exact hv
end
end K25
/-! estimates behind rows of sights; splits; what is sure -/
namespace K25
open PySem PySem.Spec PyProof.Rows L2
section
variable {rows : List Row} {ft tab : Tab} {U : List Pr}
theorem srtBy_len {α : Type} (f : α → NestedKey) (xs : List α) : (srtBy f xs).length = xs.length := (srtBy_perm f xs).length_eq
theorem cloL_len (u : Uni rows ft U) {I : Pr → Prop} : (cloL rows ft tab U I).length < 60 := by
  unfold cloL
  rw [srtBy_len]
  exact Nat.lt_of_le_of_lt (List.length_filter_le _ _) u.few
theorem firstE_sub {st : Int} : ∀ p ∈ firstE rows ft tab U st, p ∈ U := fun _ h => cloL_sub h
theorem laterE_sub {s : Str} {E : List Pr} : ∀ p ∈ laterE rows ft tab U s E, p ∈ U := fun _ h => cloL_sub h
/-- the estimate behind a row of sights -/
noncomputable def estR (rows : List Row) (ft tab : Tab) (U : List Pr) (st : Int) (ss : List Str) : List Pr := ss.foldl (fun E s => laterE rows ft tab U s E) (firstE rows ft tab U st)
theorem estR_snoc {st : Int} {ss : List Str} {s : Str} : estR rows ft tab U st (ss ++ [s]) = laterE rows ft tab U s (estR rows ft tab U st ss) := by
  unfold estR
  rw [List.foldl_append]
  rfl
theorem estR_nil {st : Int} : estR rows ft tab U st [] = firstE rows ft tab U st := rfl
theorem estR_sub {st : Int} (ss : List Str) : ∀ p ∈ estR rows ft tab U st ss, p ∈ U := by
  rcases List.eq_nil_or_concat ss with rfl | ⟨l, s, rfl⟩
  · exact firstE_sub
  · rw [List.concat_eq_append, estR_snoc]
    exact laterE_sub
theorem estR_len (u : Uni rows ft U) {st : Int} (ss : List Str) : (estR rows ft tab U st ss).length < 60 := by
  rcases List.eq_nil_or_concat ss with rfl | ⟨l, s, rfl⟩
  · exact cloL_len u
  · rw [List.concat_eq_append, estR_snoc]
    exact cloL_len u
end
/-! ### splits -/
def hav (f : Str) (E : List Pr) : List Pr := E.filter fun p => decide (f ∈ p.2)
def lac (f : Str) (E : List Pr) : List Pr := E.filter fun p => !decide (f ∈ p.2)
/-- the different numbers, rising -/
noncomputable def sset (xs : List Int) : List Int := srtBy .num (insAll [] xs)
noncomputable def splitE (f : Str) (E : List Pr) : It2 := (sset ((hav f E).map (·.1)), sset ((lac f E).map (·.1)))
theorem sset_mem {xs : List Int} {x : Int} : x ∈ sset xs ↔ x ∈ xs := by
  unfold sset
  rw [srtBy_mem, insAll_mem]
  simp
theorem sset_srt (xs : List Int) : SrtBy .num (sset xs) := srtBy_srt num_inj (alk_nums _) (insAll_nodup List.nodup_nil)
theorem sset_ext {xs ys : List Int} (h : ∀ x, x ∈ xs ↔ x ∈ ys) : sset xs = sset ys := SrtBy.ext num_inj (sset_srt _) (sset_srt _) fun x => by rw [sset_mem, sset_mem, h]
/-- each pair has f -/
def sureB (f : Str) (E : List Pr) : Bool := decide (∀ p ∈ E, f ∈ p.2)
theorem sure_len (f : Str) (E : List Pr) : decide ((hav f E).length = E.length) = sureB f E := by
  unfold hav sureB
  rw [Bool.eq_iff_iff, decide_eq_true_eq, decide_eq_true_eq, List.length_filter_eq_length_iff]
  exact ⟨fun h p hp => ofT (h p hp), fun h p hp => dT (h p hp)⟩
theorem hav_snoc_y {f : Str} {E : List Pr} {p : Pr} (h : f ∈ p.2) : hav f (E ++ [p]) = hav f E ++ [p] := by
  unfold hav
  rw [List.filter_append]
  simp [h]
theorem hav_snoc_n {f : Str} {E : List Pr} {p : Pr} (h : f ∉ p.2) : hav f (E ++ [p]) = hav f E := by
  unfold hav
  rw [List.filter_append]
  simp [h]
theorem lac_snoc_y {f : Str} {E : List Pr} {p : Pr} (h : f ∉ p.2) : lac f (E ++ [p]) = lac f E ++ [p] := by
  unfold lac
  rw [List.filter_append]
  simp [h]
theorem lac_snoc_n {f : Str} {E : List Pr} {p : Pr} (h : f ∈ p.2) : lac f (E ++ [p]) = lac f E := by
  unfold lac
  rw [List.filter_append]
  simp [h]
theorem insAll_inl : ∀ (xs ks : List Int), insAll (ks.map (Sum.inl : Int → Key)) (xs.map Sum.inl) = (insAll ks xs).map Sum.inl
  | [], _ => rfl
  | x :: xs, ks => by
    have e : insK (ks.map (Sum.inl : Int → Key)) (Sum.inl x) = (insK ks x).map Sum.inl := by
      rcases Classical.em (x ∈ ks) with c | c
      · rw [insK_in c, insK_in (List.mem_map.mpr ⟨x, c, rfl⟩)]
      · rw [insK_out c, insK_out (fun z => by obtain ⟨y, hy, e⟩ := List.mem_map.mp z; cases e; exact c hy), List.map_append]
        rfl
    show insAll (insK (ks.map Sum.inl) (Sum.inl x)) (xs.map Sum.inl) = (insAll (insK ks x) xs).map Sum.inl
    rw [e]
    exact insAll_inl xs (insK ks x)
theorem insK_inl (ks : List Int) (x : Int) : insK (ks.map (Sum.inl : Int → Key)) (.inl x) = (insK ks x).map Sum.inl := insAll_inl [x] ks
theorem toN_inl (xs : List Int) : (xs.map (Sum.inl : Int → Key)).map toN = xs.map .num := by
  rw [List.map_map]
  rfl
end K25
/-! behind a row of sights; what is sure; splits -/
namespace K25
open PySem PySem.Spec PyProof.Rows L2
section
variable {P : Program} {w : World} {K : PySem.W.Frag} {mg : Str → Option Value} {base : Heap}
def sp_after (K : PySem.W.Frag) : Sp := fun vs H Q _ => ∃ m wt S tab a, ∃ ss : List Str, ∃ U : List Pr, vs = [.ref m, .ref wt, .ref a] ∧ MacO K H m S ∧ WatO K H wt tab ∧ SqT K H a (ss.map V.str) ∧ (∀ s ∈ ss, NmOk s) ∧ Uni S.rows S.ft U ∧ (S.st, []) ∈ U ∧
  (∀ i, i ≤ ss.length → estR S.rows S.ft tab U S.st (ss.take i) ≠ []) ∧ Ret H Q (Gives K (estR S.rows S.ft tab U S.st ss))
theorem sc_after : FnScope ["machine", "watch", "sights", "pairs", "at", "sight"] ["machine", "watch", "sights"] d_after.scope := ⟨rfl, rfl, rfl, by decide +kernel, rfl, by decide +kernel, by decide +kernel⟩
theorem ok_after (T : Tp K mg) : Cal P w K mg base "after" 4 ["machine", "watch", "sights"] (sp_after K) := by
  refine ⟨_, T.glo 34, ?_⟩
  show Df P w K mg base (d_after.path K) 4 ["machine", "watch", "sights"] (sp_after K)
  refine T.df 31 (d := d_after) rfl rfl sc_after (fun vs H Q E h => by obtain ⟨_, _, _, _, _, _, _, e, _⟩ := h; rw [e]; rfl) (fun _ _ _ _ _ _ us hl => match us, hl with | [_, _, _], _ => rfl) (fun cdv A outer s H vs Q E hr h => ?_)

  obtain ⟨m, wt, S, tab, a, ss, U, rfl, hM, hW, ha, hn, u, hU, ne, q⟩ := h
  refine ⟨_, PSs.nox (pss_cons (ps_expr (pe_cal (ok_check_watch T) hr (by decide) rfl (pa_cons (pv 1) pa_nil)))
      (pss_cons (ps_if (pt_not (pt_val (pe_callB call_isi rfl (T.free 75) boot_isinstance (pa_cons (pv 2) (pa_cons (pe_bltn (v := .ty "tuple") rfl (T.free 80) boot_tuple rfl) pa_nil)))))
      pss_never pss_nil)
      (pss_cons (ps_set (i := 3) sc_after.nd rfl (Or.inl rfl) (pe_cal (ok_first_estimate T) hr (by decide) rfl (pa_cons (pv 0) (pa_cons (pv 1) pa_nil))))
      (pss_cons (ps_for PassesOwn.never rfl (pi_enumT rfl (T.free 82) (pa_cons (pv 2) pa_nil)) (pg_tup rfl (pgs_cons (pg_name (i := 4) sc_after.nd rfl (Or.inl rfl)) (pgs_cons (pg_name (i := 5) sc_after.nd rfl (Or.inl rfl)) pgs_nil)))
      (pss_cons (ps_if (pt_not (pt_val (pe_cal (ok_is_name T) hr (by decide) rfl (pa_cons (pv 5) pa_nil))))
      pss_never pss_nil)
      (pss_cons (ps_set (i := 3) sc_after.nd rfl (Or.inl rfl) (pe_cal (ok_later_estimateL T) hr (by decide) rfl (pa_cons (pv 0) (pa_cons (pv 1) (pa_cons (pv 3) (pa_cons (pv 5) pa_nil))))))
      (pss_one (ps_if (pt_not (pt_truth (pv 3) (fun _ => rfl)))
      pss_never pss_nil)))))
      (pss_one (ps_ret (pe_callTy (call_list_of) rfl (T.free 77) boot_list (pa_cons (pv 3) pa_nil)))))))), ?_⟩
  refine ⟨_, rfl, wt, tab, rfl, hW, fun v1 H1 e1 ev => ?_⟩
  refine ⟨_, rfl, .ref a, .ty "tuple", _, _, true, rfl, .ty _, tyx_T (e1.sqT ha), kit_ty (by decide +kernel), true, rfl, ?_⟩
  refine itF rfl ?_
  refine ⟨_, rfl, _, rfl, m, wt, S, tab, U, rfl, hM.mono e1, hW.mono e1, u, hU, fun v2 H2 e2 hv2 => ?_⟩
  have e12 := e1.trans e2
  refine ⟨_, rfl, a, _, rfl, e12.sqT ha, ?_⟩
  refine for_it (walk_enumT (xs := ss.map V.str)) (fun i σ H3 => ∃ v3 v4 v5, σ = [some (.ref m), some (.ref wt), some (.ref a), some v3, v4, v5] ∧ Ex H H3 ∧ Gives K (estR S.rows S.ft tab U S.st (ss.take i)) v3 H3)
    ⟨v2, none, none, rfl, e12, hv2⟩ (fun i σ H3 _ p => by obtain ⟨v3, v4, v5, rfl, e, _⟩ := p; exact e.sqT ha) (fun i x σ H3 H4 hi p y => ?_) (fun σ H3 p => ?_)
  · obtain ⟨v3, v4, v5, rfl, e3, g3⟩ := p
    obtain ⟨t, x1, x2, rfl, ht, rfl, hx1, hx2⟩ := y
    cases hx1
    have hx2 : (ss.map V.str)[i]? = some x2 := hx2
    rw [List.getElem?_map] at hx2
    obtain ⟨z, hz, rfl⟩ := Option.map_eq_some_iff.mp hx2
    have iz : i < ss.length := (List.getElem?_eq_some_iff.mp hz).1
    have e4 := e3.to (o := .tup [.int (i : Nat), .str z]) ht
    refine ⟨t, _, rfl, SqT.of upd_same, rfl, _, _, rfl, _, _, rfl, rfl, ?_⟩
    refine ⟨_, rfl, z, rfl, hn z (List.mem_of_getElem? hz), fun v5 H5 e5 ev => ?_⟩
    subst ev
    refine ⟨_, rfl, itF rfl ?_⟩
    obtain ⟨r3, us3, rfl, h3, n3⟩ := g3
    have e35 := (Ex.new (o := .tup [.int (i : Nat), .str z]) ht).trans e5
    refine ⟨_, rfl, _, rfl, _, rfl, _, rfl, m, wt, S, tab, r3, us3, estR S.rows S.ft tab U S.st (ss.take i), U, z, rfl, hM.mono (e4.trans e5), hW.mono (e4.trans e5), SqL.of (e35 _ _ h3), NkA.mono e35 _ _ n3, u, estR_sub _, estR_len u _, fun v6 H6 e6 g6 => ?_⟩
    rw [← estR_snoc, ← take_next hz] at g6
    obtain ⟨r6, us6, rfl, h6, n6⟩ := g6
    have hne : us6 ≠ [] := fun z => ne (i + 1) iz (by
      subst z
      have h := n6.length
      rw [List.length_map] at h
      exact List.length_eq_zero_iff.mp h.symm)
    refine ⟨_, rfl, _, .inl ⟨us6, SqL.of h6, rfl⟩, ?_⟩
    refine itF (by cases us6 with | nil => exact absurd rfl hne | cons a b => rfl) ?_
    exact ⟨_, _, _, rfl, (e4.trans e5).trans e6, _, _, rfl, h6, n6⟩
  · obtain ⟨v3, v4, v5, rfl, e3, g3⟩ := p
    rw [List.length_map, List.take_length] at g3
    obtain ⟨r3, us3, rfl, h3, n3⟩ := g3
    refine ⟨_, rfl, r3, us3, rfl, .inl (SqL.of h3), fun l hl => ?_⟩
    exact q.of (e3.to hl) ⟨l, us3, rfl, upd_same, NkA.mono (Ex.new hl) _ _ n3⟩
def sp_is_sure (K : PySem.W.Frag) : Sp := fun vs H Q _ => ∃ a pvs, ∃ f : Str, ∃ E : List Pr, vs = [.ref a, .str f] ∧ SqT K H a pvs ∧ NkA K H pvs (E.map kPr) ∧ E.length < 1000 ∧ Ret H Q fun v H' => v = .bl (sureB f E)
theorem sc_is_sure : FnScope ["pairs", "fault", "pair"] ["pairs", "fault"] d_is_sure.scope := ⟨rfl, rfl, rfl, by decide +kernel, rfl, by decide +kernel, by decide +kernel⟩
theorem ok_is_sure (T : Tp K mg) : Cal P w K mg base "is_sure" 1 ["pairs", "fault"] (sp_is_sure K) := by
  refine ⟨_, T.glo 41, ?_⟩
  show Df P w K mg base (d_is_sure.path K) 1 ["pairs", "fault"] (sp_is_sure K)
  refine T.df 38 (d := d_is_sure) rfl rfl sc_is_sure (fun vs H Q E h => by obtain ⟨_, _, _, _, e, _⟩ := h; rw [e]; rfl) (fun _ _ _ _ _ _ us hl => match us, hl with | [_, _], _ => rfl) (fun cdv A outer s H vs Q E hr h => ?_)

  obtain ⟨a, pvs, f, E, rfl, ha, na, hz, q⟩ := h
  refine ⟨_, PSs.nox (pss_one (ps_ret (pe_cmpR op_eq (pe_callB call_len_seq rfl (T.free 74) boot_len (pa_cons (pe_lc (own := [("pair", 2)]) rfl sc_is_sure.nd (pi_tup (pv 0)) (blkOk_by (N := ["pairs", "fault", "pair"]) (sc := d_is_sure.scope) (by decide +kernel)) (fun _ _ _ _ _ => (pg_name (i := 2) sc_is_sure.nd rfl (Or.inl rfl))) (fun _ _ _ _ _ => pts_one (pt_cmpR (op_inKB K rfl hr) (pv 1) (pe_ix (ix_tupB K rfl) (pv 2) pe_int (fun _ _ => rfl)) (by with_unfolding_all rfl))) (fun _ _ _ _ _ => (pv 2))) pa_nil)) (pe_callB call_len_seq rfl (T.free 74) boot_len (pa_cons (pv 0) pa_nil)) (nomark _)))), ?_⟩
  refine ⟨_, rfl, a, rfl, ⟨pvs, ha⟩, fun D hD => ?_⟩
  refine lc_it (walk_tup (xs := pvs)) (fun i H1 => Ex H H1 ∧ ∃ us : List V, H1 D = some (.lst us) ∧ us.length = (hav f (E.take i)).length) ⟨Ex.new hD, [], upd_same, rfl⟩ (fun i H1 _ p => p.1.sqT ha) (fun i x H1 H2 hi p y => ?_) (fun H1 p => ?_)
  · obtain ⟨rfl, hx⟩ := y
    obtain ⟨e, us, hd, hl⟩ := p
    obtain ⟨k, hk, nk⟩ := NkA.get na hx
    rw [List.getElem?_map] at hk
    obtain ⟨p, hp, rfl⟩ := Option.map_eq_some_iff.mp hk
    obtain ⟨pa, pb, rfl, hpa, hpb⟩ := Nk.pr nk
    have iE : i < E.length := (List.getElem?_eq_some_iff.mp hp).1
    refine ⟨rfl, ?_⟩
    refine ⟨_, rfl, _, rfl, _, _, _, _, rfl, rfl, e.sqT hpa, rfl, pb, .text f, p.2.map .text, rfl, .text f, SqK.t (e.sqT hpb) (NkA.strs _), Nat.zero_le _, _, rfl, ?_⟩
    refine itE (fun c => ?_) fun c => ?_
    · have hm : f ∈ p.2 := (mem_map_inj text_inj).mp (ofT c)
      refine ⟨_, rfl, us, hd, ?_, e.mut hD, us ++ [.ref pa], upd_same, ?_⟩
      · have h3 := List.length_filter_le (fun p : Pr => decide (f ∈ p.2)) (E.take i)
        rw [List.length_take] at h3
        unfold hav at hl
        exact Nat.lt_of_le_of_lt (show us.length ≤ 1000 by omega) (by decide)
      · rw [take_next hp, hav_snoc_y hm, List.length_append, List.length_append, hl]
        rfl
    · have hm : f ∉ p.2 := fun z => ofF c ((mem_map_inj text_inj).mpr z)
      refine ⟨e, us, hd, ?_⟩
      rw [take_next hp, hav_snoc_n hm]
      exact hl
  obtain ⟨e, us, hd, hl⟩ := p
  have hlen := na.length
  rw [List.length_map] at hlen
  rw [hlen, List.take_length] at hl
  refine ⟨D, us, rfl, .inl (SqL.of hd), ?_⟩
  refine ⟨_, rfl, a, pvs, rfl, .inr (e.sqT ha), rfl, ?_⟩
  refine q.of e ?_
  rw [← sure_len, hl, hlen]
  refine congrArg V.bl ?_
  rw [Bool.eq_iff_iff, decide_eq_true_eq, decide_eq_true_eq]
  constructor
  · intro z
    injection z with z
    omega
  · intro z
    rw [z]
def sp_split_pairs (K : PySem.W.Frag) : Sp := fun vs H Q _ => ∃ a pvs, ∃ f : Str, ∃ E : List Pr, vs = [.ref a, .str f] ∧ SqT K H a pvs ∧ NkA K H pvs (E.map kPr) ∧ E.length < 1000 ∧ Ret H Q fun v H' => ∃ b, v = .ref b ∧ Nk K H' v (kIt (splitE f E))
theorem sc_split_pairs : FnScope ["pairs", "fault", "having", "lacking", "pair"] ["pairs", "fault"] d_split_pairs.scope := ⟨rfl, rfl, rfl, by decide +kernel, rfl, by decide +kernel, by decide +kernel⟩
theorem ok_split_pairs (T : Tp K mg) : Cal P w K mg base "split_pairs" 1 ["pairs", "fault"] (sp_split_pairs K) := by
  refine ⟨_, T.glo 44, ?_⟩
  show Df P w K mg base (d_split_pairs.path K) 1 ["pairs", "fault"] (sp_split_pairs K)
  refine T.df 41 (d := d_split_pairs) rfl rfl sc_split_pairs (fun vs H Q E h => by obtain ⟨_, _, _, _, e, _⟩ := h; rw [e]; rfl) (fun _ _ _ _ _ _ us hl => match us, hl with | [_, _], _ => rfl) (fun cdv A outer s H vs Q E hr h => ?_)

  obtain ⟨a, pvs, f, E, rfl, ha, na, hz, q⟩ := h
  refine ⟨_, PSs.nox (pss_cons (ps_set (i := 2) sc_split_pairs.nd rfl (Or.inl rfl) (pe_callB (call_sortedSetK rfl hr) rfl (T.free 76) boot_sorted (pa_cons (pe_scK hr (own := [("pair", 4)]) rfl sc_split_pairs.nd (pi_tup (pv 0)) (blkOk_by (N := ["pairs", "fault", "having", "lacking", "pair"]) (sc := d_split_pairs.scope) (by decide +kernel)) (fun _ _ _ _ _ => (pg_name (i := 4) sc_split_pairs.nd rfl (Or.inl rfl))) (fun _ _ _ _ _ => pts_one (pt_cmpR (op_inKB K rfl hr) (pv 1) (pe_ix (ix_tupB K rfl) (pv 4) pe_int (fun _ _ => rfl)) (by with_unfolding_all rfl))) (fun _ _ _ _ _ => (pe_ix (ix_tupB K rfl) (pv 4) pe_int (fun _ _ => rfl)))) pa_nil)))
      (pss_cons (ps_set (i := 3) sc_split_pairs.nd rfl (Or.inl rfl) (pe_callB (call_sortedSetK rfl hr) rfl (T.free 76) boot_sorted (pa_cons (pe_scK hr (own := [("pair", 4)]) rfl sc_split_pairs.nd (pi_tup (pv 0)) (blkOk_by (N := ["pairs", "fault", "having", "lacking", "pair"]) (sc := d_split_pairs.scope) (by decide +kernel)) (fun _ _ _ _ _ => (pg_name (i := 4) sc_split_pairs.nd rfl (Or.inl rfl))) (fun _ _ _ _ _ => pts_one (pt_cmpR (op_notInKB K rfl hr) (pv 1) (pe_ix (ix_tupB K rfl) (pv 4) pe_int (fun _ _ => rfl)) (by with_unfolding_all rfl))) (fun _ _ _ _ _ => (pe_ix (ix_tupB K rfl) (pv 4) pe_int (fun _ _ => rfl)))) pa_nil)))
      (pss_one (ps_ret (pe_tup (pa_cons (pe_callTy call_tuple_of rfl (T.free 80) boot_tuple (pa_cons (pv 2) pa_nil)) (pa_cons (pe_callTy call_tuple_of rfl (T.free 80) boot_tuple (pa_cons (pv 3) pa_nil)) pa_nil))))))), ?_⟩
  have hah := ha
  have nah := na
  refine ⟨_, rfl, a, rfl, ⟨pvs, ha⟩, fun Dh hDh => ?_⟩
  refine cc_it (walk_tup (xs := pvs)) (fun i H1 => Ex H H1 ∧ H1 Dh = some (SKO w Dh ((insAll [] ((hav f (E.take i)).map (·.1))).map Sum.inl))) ⟨Ex.new hDh, upd_same⟩ (fun i H1 _ p => p.1.sqT hah) (fun i x H1 H2 hi p y => ?_) (fun H1 p => ?_)
  · obtain ⟨rfl, hx⟩ := y
    obtain ⟨e, hd⟩ := p
    obtain ⟨k, hk, nk⟩ := NkA.get nah hx
    rw [List.getElem?_map] at hk
    obtain ⟨p, hp, rfl⟩ := Option.map_eq_some_iff.mp hk
    obtain ⟨pa, pb, rfl, hpa, hpb⟩ := Nk.pr nk
    have iE : i < E.length := (List.getElem?_eq_some_iff.mp hp).1
    refine ⟨rfl, ?_⟩
    refine ⟨_, rfl, _, rfl, _, _, _, _, rfl, rfl, e.sqT hpa, rfl, pb, .text f, p.2.map .text, rfl, .text f, SqK.t (e.sqT hpb) (NkA.strs _), Nat.zero_le _, _, rfl, ?_⟩
    refine itE (fun c => ?_) fun c => ?_
    · have hm : f ∈ p.2 := (mem_map_inj text_inj).mp (ofT c)
      refine ⟨_, rfl, _, _, _, _, rfl, rfl, e.sqT hpa, rfl, _, .inl p.1, rfl, hd, ?_, e.mut hDh, ?_⟩
      · have h2 := insAll_len ((hav f (E.take i)).map (·.1)) []
        have h3 := List.length_filter_le (fun p : Pr => decide (f ∈ p.2)) (E.take i)
        rw [List.length_take] at h3
        unfold hav at h2 ⊢
        rw [List.length_map] at h2 ⊢
        simp only [List.length_nil] at h2
        show _ < 4096
        omega
      · rw [take_next hp, hav_snoc_y hm, map_snoc, insAll_snoc, ← insK_inl]
        exact upd_same
    · have hm : f ∉ p.2 := fun z => ofF c ((mem_map_inj text_inj).mpr z)
      refine ⟨e, ?_⟩
      rw [take_next hp, hav_snoc_n hm]
      exact hd
  obtain ⟨e1, hd1⟩ := p
  have hlen := na.length
  rw [List.length_map] at hlen
  rw [hlen, List.take_length] at hd1
  refine ⟨Dh, _, rfl, hd1, by rw [toN_inl]; exact alk_nums _, fun uh ph huh hph => ?_⟩
  rw [toN_inl, srt_map] at huh
  obtain rfl := NkA.toInts huh
  have e2 := e1.to (o := .lst ((sset ((hav f E).map (·.1))).map V.int)) hph
  have hal := e2.sqT ha
  have nal := NkA.mono e2 _ _ na
  refine ⟨_, rfl, a, rfl, ⟨pvs, hal⟩, fun Dl hDl => ?_⟩
  refine cc_it (walk_tup (xs := pvs)) (fun i H1 => Ex _ H1 ∧ H1 Dl = some (SKO w Dl ((insAll [] ((lac f (E.take i)).map (·.1))).map Sum.inl))) ⟨Ex.new hDl, upd_same⟩ (fun i H1 _ p => p.1.sqT hal) (fun i x H1 H2 hi p y => ?_) (fun H1 p => ?_)
  · obtain ⟨rfl, hx⟩ := y
    obtain ⟨e, hd⟩ := p
    obtain ⟨k, hk, nk⟩ := NkA.get nal hx
    rw [List.getElem?_map] at hk
    obtain ⟨p, hp, rfl⟩ := Option.map_eq_some_iff.mp hk
    obtain ⟨pa, pb, rfl, hpa, hpb⟩ := Nk.pr nk
    have iE : i < E.length := (List.getElem?_eq_some_iff.mp hp).1
    refine ⟨rfl, ?_⟩
    refine ⟨_, rfl, _, rfl, _, _, _, _, rfl, rfl, e.sqT hpa, rfl, pb, .text f, p.2.map .text, rfl, .text f, SqK.t (e.sqT hpb) (NkA.strs _), Nat.zero_le _, _, rfl, ?_⟩
    refine itE (fun c => ?_) fun c => ?_
    · have hm : f ∉ p.2 := fun z => ofnT c ((mem_map_inj text_inj).mpr z)
      refine ⟨_, rfl, _, _, _, _, rfl, rfl, e.sqT hpa, rfl, _, .inl p.1, rfl, hd, ?_, e.mut hDl, ?_⟩
      · have h2 := insAll_len ((lac f (E.take i)).map (·.1)) []
        have h3 := List.length_filter_le (fun p : Pr => !decide (f ∈ p.2)) (E.take i)
        rw [List.length_take] at h3
        unfold lac at h2 ⊢
        rw [List.length_map] at h2 ⊢
        simp only [List.length_nil] at h2
        show _ < 4096
        omega
      · rw [take_next hp, lac_snoc_y hm, map_snoc, insAll_snoc, ← insK_inl]
        exact upd_same
    · have hm : f ∈ p.2 := (mem_map_inj text_inj).mp (ofnF c)
      refine ⟨e, ?_⟩
      rw [take_next hp, lac_snoc_n hm]
      exact hd
  obtain ⟨e3, hd3⟩ := p
  rw [hlen, List.take_length] at hd3
  refine ⟨Dl, _, rfl, hd3, by rw [toN_inl]; exact alk_nums _, fun ul pl hul hpl => ?_⟩
  rw [toN_inl, srt_map] at hul
  obtain rfl := NkA.toInts hul
  have e4 := e3.to (o := .lst ((sset ((lac f E).map (·.1))).map V.int)) hpl
  have h2 := e4 ph _ upd_same
  refine ⟨_, rfl, ph, _, rfl, .inl ⟨SqL.of h2, fun t1 ht1 => ?_⟩⟩
  refine ⟨_, rfl, pl, _, rfl, .inl ⟨(Ex.new ht1).sqL (SqL.of upd_same), fun t2 ht2 => ?_⟩⟩
  refine ⟨by show 2 ≤ sizeLine; decide, fun t3 ht3 => ?_⟩
  refine q.of ((((e2.trans e4).to ht1).to ht2).to ht3) ⟨t3, rfl, ?_⟩
  exact Nk.ofItem (x := splitE f E) (SqT.of upd_same) (((Ex.new ht2).to ht3).sqT (SqT.of upd_same)) ((Ex.new ht3).sqT (SqT.of upd_same))
end
end K25
/-! what is known -/
namespace K25
open PySem PySem.Spec PyProof.Rows L2
section
variable {P : Program} {w : World} {K : PySem.W.Frag} {mg : Str → Option Value} {base : Heap}
def sp_known (K : PySem.W.Frag) : Sp := fun vs H Q _ => ∃ m wt S tab a, ∃ ss : List Str, ∃ U : List Pr, vs = [.ref m, .ref wt, .ref a] ∧ MacO K H m S ∧ WatO K H wt tab ∧ SqT K H a (ss.map V.str) ∧ (∀ s ∈ ss, NmOk s) ∧ Uni S.rows S.ft U ∧ (S.st, []) ∈ U ∧
  (∀ i, i ≤ ss.length → estR S.rows S.ft tab U S.st (ss.take i) ≠ []) ∧ nmsOf S.ft ≠ [] ∧ Ret H Q fun v H' => ∃ t a4 a5 a6, v = .ref t ∧ SqT K H' t [.ref a4, .ref a5, .ref a6] ∧ SqL K H' a4 (((nmsOf S.ft).filter fun n => sureB n (estR S.rows S.ft tab U S.st ss)).map V.str)
theorem nmsOf_len (t : Tab) : (nmsOf t).length ≤ t.length := by
  unfold nmsOf
  rw [srtBy_len]
  have h := insAll_len (t.map (·.2)) []
  rw [List.length_map] at h
  simpa using h
theorem sc_known : FnScope ["machine", "watch", "sights", "pairs", "sure", "unsure", "out", "name", "many", "pair"] ["machine", "watch", "sights"] d_known.scope := ⟨rfl, rfl, rfl, by decide +kernel, rfl, by decide +kernel, by decide +kernel⟩
theorem ok_known (T : Tp K mg) : Cal P w K mg base "known" 5 ["machine", "watch", "sights"] (sp_known K) := by
  refine ⟨_, T.glo 39, ?_⟩
  show Df P w K mg base (d_known.path K) 5 ["machine", "watch", "sights"] (sp_known K)
  refine T.df 36 (d := d_known) rfl rfl sc_known (fun vs H Q E h => by obtain ⟨_, _, _, _, _, _, _, e, _⟩ := h; rw [e]; rfl) (fun _ _ _ _ _ _ us hl => match us, hl with | [_, _, _], _ => rfl) (fun cdv A outer s H vs Q E hr h => ?_)

  obtain ⟨m, wt, S, tab, a, ss, U, rfl, hM, hW, ha, hn, u, hU, ne, nn, q⟩ := h
  refine ⟨_, PSs.nox (pss_cons (ps_set (i := 3) sc_known.nd rfl (Or.inl rfl) (pe_cal (ok_after T) hr (by decide) rfl (pa_cons (pv 0) (pa_cons (pv 1) (pa_cons (pv 2) pa_nil)))))
      (pss_cons (ps_set (i := 4) sc_known.nd rfl (Or.inl rfl) (pe_lst pa_nil))
      (pss_cons (ps_set (i := 5) sc_known.nd rfl (Or.inl rfl) (pe_lst pa_nil))
      (pss_cons (ps_set (i := 6) sc_known.nd rfl (Or.inl rfl) (pe_lst pa_nil))
      (pss_cons (ps_for PassesOwn.never rfl (pi_list (pe_prp (pv 0) T.clsM T.p_Machine_fault_names (ok_Machine_fault_names T) hr (by decide))) (pg_name (i := 7) sc_known.nd rfl (Or.inr rfl))
      (pss_cons (ps_set (i := 8) sc_known.nd rfl (Or.inl rfl) (pe_callB call_len_seq rfl (T.free 74) boot_len (pa_cons (pe_lc (own := [("pair", 9)]) rfl sc_known.nd (pi_list (pv 3)) (blkOk_by (N := ["machine", "watch", "sights", "pairs", "sure", "unsure", "out", "name", "many", "pair"]) (sc := d_known.scope) (by decide +kernel)) (fun _ _ _ _ _ => (pg_name (i := 9) sc_known.nd rfl (Or.inl rfl))) (fun _ _ _ _ _ => pts_one (pt_cmpR (op_inKB K rfl hr) (pv 7) (pe_ix (ix_tupB K rfl) (pv 9) pe_int (fun _ _ => rfl)) (by with_unfolding_all rfl))) (fun _ _ _ _ _ => (pv 9))) pa_nil)))
      (pss_one (ps_if (pt_cmpR op_eq (pv 8) (pe_callB call_len_seq rfl (T.free 74) boot_len (pa_cons (pv 3) pa_nil)) (nomark _))
      (pss_one (ps_expr (pe_bm PySem.F.plainAttrs_list PySem.F.slot_list_append PySem.F.type_list_append mt_append (pv 4) (pa_cons (pv 7) pa_nil)))) (pss_one (ps_if (pt_cmpR op_eq (pv 8) pe_int (nomark _))
      (pss_one (ps_expr (pe_bm PySem.F.plainAttrs_list PySem.F.slot_list_append PySem.F.type_list_append mt_append (pv 6) (pa_cons (pv 7) pa_nil)))) (pss_one (ps_expr (pe_bm PySem.F.plainAttrs_list PySem.F.slot_list_append PySem.F.type_list_append mt_append (pv 5) (pa_cons (pv 7) pa_nil))))))))))
      (pss_one (ps_ret (pe_tup (pa_cons (pv 4) (pa_cons (pv 5) (pa_cons (pv 6) pa_nil))))))))))), ?_⟩
  refine ⟨_, rfl, _, rfl, _, rfl, m, wt, S, tab, a, ss, U, rfl, hM, hW, ha, hn, u, hU, ne, fun v3 H3 e3 ⟨r3, us3, ev, h3, n3⟩ => ?_⟩
  subst ev
  have few : (nmsOf S.ft).length ≤ 50 := by
    obtain ⟨A, M⟩ := hM
    exact Nat.le_trans (nmsOf_len _) M.ok.ft.few
  have hE := estR_len u (st := S.st) (tab := tab) ss
  have hE0 : estR S.rows S.ft tab U S.st ss ≠ [] := by have h := ne ss.length (Nat.le_refl _); rwa [List.take_length] at h
  generalize hEE : estR S.rows S.ft tab U S.st ss = E at *
  refine ⟨by show 0 ≤ sizeLine; decide, fun a4 h4 => ?_⟩
  refine ⟨by show 0 ≤ sizeLine; decide, fun a5 h5 => ?_⟩
  refine ⟨by show 0 ≤ sizeLine; decide, fun a6 h6 => ?_⟩
  have e6 := ((e3.to (o := .lst []) h4).to (o := .lst []) h5).to (o := .lst []) h6
  have n4 : H a4 = none := e3.free h4
  have n5 : H a5 = none := (e3.to h4).free h5
  have n6 : H a6 = none := ((e3.to h4).to h5).free h6
  have e36 := ((Ex.new (o := .lst []) h4).to (o := .lst []) h5).to (o := .lst []) h6
  have d34 : r3 ≠ a4 := ne_of_none h3 h4
  have d35 : r3 ≠ a5 := ne_of_none (Ex.new (o := .lst []) h4 _ _ h3) h5
  have d36 : r3 ≠ a6 := ne_of_none ((Ex.new (o := .lst []) h4).to (o := .lst []) h5 _ _ h3) h6
  have d45 : a4 ≠ a5 := ne_of_none (upd_same (H := H3) (a := a4) (o := .lst [])) h5
  have d46 : a4 ≠ a6 := ne_of_none (Ex.new (o := .lst []) h5 _ _ (upd_same (H := H3) (a := a4) (o := .lst []))) h6
  have d56 : a5 ≠ a6 := ne_of_none (upd_same (a := a5) (o := .lst [])) h6
  have k4 := ((Ex.new (o := .lst []) h5).to (o := .lst []) h6) _ _ (upd_same (H := H3) (a := a4) (o := .lst []))
  have k5 := (Ex.new (o := .lst []) h6) _ _ (upd_same (H := upd H3 a4 (.lst [])) (a := a5) (o := .lst []))
  obtain ⟨MA0, M0⟩ := hM.mono e6
  refine ⟨_, rfl, m, _, _, rfl, M0.at_, m, S, rfl, ⟨MA0, M0⟩, fun v7 H7 e7 ⟨lN, ev, hN⟩ => ?_⟩
  subst ev
  have hl0 : ∀ {b : Addr}, H7 b = some (.lst []) → lN ≠ b := fun {b} hb e => by
    rw [e, hb] at hN
    injection hN with hN
    injection hN with hN
    exact nn (List.map_eq_nil_iff.mp hN.symm)
  have d4 := hl0 (e7 _ _ k4)
  have d5 := hl0 (e7 _ _ k5)
  have d6 := hl0 (e7 _ _ (upd_same (a := a6) (o := .lst [])))
  refine ⟨lN, rfl, ⟨_, SqL.of hN⟩, ?_⟩
  refine for_it (walk_list (xs := (nmsOf S.ft).map V.str)) (fun i σ H1 => ∃ v7 v8 v9 xs5 xs6, σ = [some (.ref m), some (.ref wt), some (.ref a), some (.ref r3), some (.ref a4), some (.ref a5), some (.ref a6), v7, v8, v9] ∧ Ex H H1 ∧ H1 r3 = some (.lst us3) ∧ NkA K H1 us3 (E.map kPr) ∧
      H1 lN = some (.lst ((nmsOf S.ft).map V.str)) ∧ H1 a4 = some (.lst ((((nmsOf S.ft).take i).filter fun n => sureB n E).map V.str)) ∧ H1 a5 = some (.lst xs5) ∧ H1 a6 = some (.lst xs6) ∧ xs5.length ≤ i ∧ xs6.length ≤ i)
    ⟨_, _, _, [], [], rfl, e6.trans e7, e7 _ _ (e36 _ _ h3), NkA.mono (e36.trans e7) _ _ n3, hN, e7 _ _ k4, e7 _ _ k5, e7 _ _ upd_same, Nat.zero_le _, Nat.zero_le _⟩
    (fun i σ H1 _ p => by obtain ⟨v7, v8, v9, xs5, xs6, rfl, _, _, _, h, _⟩ := p; exact SqL.of h) (fun i x σ H1 H2 hi p y => ?_) (fun σ H1 p => ?_)
  · obtain ⟨v7, v8, v9, xs5, xs6, rfl, p0, p3, p3n, pN, p4, p5, p6, l5, l6⟩ := p
    obtain ⟨rfl, hx⟩ := y
    rw [List.getElem?_map] at hx
    obtain ⟨f, hf, rfl⟩ := Option.map_eq_some_iff.mp hx
    have iN : i < (nmsOf S.ft).length := (List.getElem?_eq_some_iff.mp hf).1
    have l4 : ((((nmsOf S.ft).take i).filter fun n => sureB n E).map V.str).length ≤ i := by
      rw [List.length_map]
      have h := List.length_filter_le (fun n => sureB n E) ((nmsOf S.ft).take i)
      rw [List.length_take] at h
      omega
    refine ⟨_, rfl, r3, rfl, ⟨us3, SqL.of p3⟩, fun D hD => ?_⟩
    refine lc_it (walk_list (xs := us3)) (fun j H4 => Ex H2 H4 ∧ ∃ us : List V, H4 D = some (.lst us) ∧ us.length = (hav f (E.take j)).length) ⟨Ex.new hD, [], upd_same, rfl⟩ (fun j H4 _ p => p.1.sqL (SqL.of p3)) (fun j x H4 H5 hj p y => ?_) (fun H4 p => ?_)
    · obtain ⟨rfl, hx⟩ := y
      obtain ⟨e, us, hd, hl⟩ := p
      obtain ⟨k, hk, nk⟩ := NkA.get p3n hx
      rw [List.getElem?_map] at hk
      obtain ⟨p, hp, rfl⟩ := Option.map_eq_some_iff.mp hk
      obtain ⟨pa, pb, rfl, hpa, hpb⟩ := Nk.pr nk
      refine ⟨rfl, ?_⟩
      refine ⟨_, rfl, _, rfl, _, _, _, _, rfl, rfl, e.sqT hpa, rfl, pb, .text f, p.2.map .text, rfl, .text f, SqK.t (e.sqT hpb) (NkA.strs _), Nat.zero_le _, _, rfl, ?_⟩
      refine itE (fun c => ?_) fun c => ?_
      · have hm : f ∈ p.2 := (mem_map_inj text_inj).mp (ofT c)
        refine ⟨_, rfl, us, hd, ?_, e.mut hD, us ++ [.ref pa], upd_same, ?_⟩
        · have h3 := List.length_filter_le (fun p : Pr => decide (f ∈ p.2)) (E.take j)
          rw [List.length_take] at h3
          unfold hav at hl
          exact Nat.lt_of_le_of_lt (show us.length ≤ 1000 by omega) (by decide)
        · rw [take_next hp, hav_snoc_y hm, List.length_append, List.length_append, hl]
          rfl
      · have hm : f ∉ p.2 := fun z => ofF c ((mem_map_inj text_inj).mpr z)
        refine ⟨e, us, hd, ?_⟩
        rw [take_next hp, hav_snoc_n hm]
        exact hl
    obtain ⟨e, us, hd, hl⟩ := p
    have hlen := p3n.length
    rw [List.length_map] at hlen
    rw [hlen, List.take_length] at hl
    refine ⟨D, us, rfl, .inl (SqL.of hd), ?_⟩
    refine ⟨_, rfl, _, rfl, r3, us3, rfl, .inl (SqL.of (e _ _ p3)), rfl, _, rfl, ?_⟩
    have p0' := p0.trans e
    have p3' := e _ _ p3
    have p3n' := NkA.mono e _ _ p3n
    have pN' := e _ _ pN
    have p4' := e _ _ p4
    have p5' := e _ _ p5
    have p6' := e _ _ p6
    have ed : decide (V.int (us.length : Nat) = V.int (us3.length : Nat)) = sureB f E := by
      rw [← sure_len, hl, hlen, Bool.eq_iff_iff, decide_eq_true_eq, decide_eq_true_eq]
      constructor
      · intro z
        injection z with z
        omega
      · intro z
        rw [z]
    rw [ed]
    refine itE (fun c => ?_) fun c => ?_
    · refine ⟨_, rfl, .inl ⟨rfl, _, SqL.of p4'⟩, _, rfl, a4, _, _, rfl, rfl, p4', Nat.lt_of_le_of_lt (show _ ≤ 1000 by omega) (by decide), ?_⟩
      refine ⟨_, _, _, xs5, xs6, rfl, p0'.mut n4, (upd_ne d34).trans p3', NkA.other p3n' p4', (upd_ne d4).trans pN', ?_, (upd_ne d45.symm).trans p5', (upd_ne d46.symm).trans p6', by omega, by omega⟩
      rw [take_next hf, List.filter_append, List.map_append]
      simp only [List.filter_cons, c, if_true, List.filter_nil]
      exact upd_same
    · have e4 : ((nmsOf S.ft).take (i + 1)).filter (fun n => sureB n E) = ((nmsOf S.ft).take i).filter fun n => sureB n E := by
        rw [take_next hf, List.filter_append]
        simp [c]
      refine ⟨_, rfl, rfl, _, rfl, itE (fun c2 => ?_) fun c2 => ?_⟩
      · refine ⟨_, rfl, .inl ⟨rfl, _, SqL.of p6'⟩, _, rfl, a6, _, _, rfl, rfl, p6', Nat.lt_of_le_of_lt (show _ ≤ 1000 by omega) (by decide), ?_⟩
        refine ⟨_, _, _, xs5, _, rfl, p0'.mut n6, (upd_ne d36).trans p3', NkA.other p3n' p6', (upd_ne d6).trans pN', ?_, (upd_ne d56).trans p5', upd_same, by omega, by rw [List.length_append, List.length_singleton]; omega⟩
        rw [e4]
        exact (upd_ne d46).trans p4'
      · refine ⟨_, rfl, .inl ⟨rfl, _, SqL.of p5'⟩, _, rfl, a5, _, _, rfl, rfl, p5', Nat.lt_of_le_of_lt (show _ ≤ 1000 by omega) (by decide), ?_⟩
        refine ⟨_, _, _, _, xs6, rfl, p0'.mut n5, (upd_ne d35).trans p3', NkA.other p3n' p5', (upd_ne d5).trans pN', ?_, upd_same, (upd_ne d56.symm).trans p6', by rw [List.length_append, List.length_singleton]; omega, by omega⟩
        rw [e4]
        exact (upd_ne d45).trans p4'
  · obtain ⟨v7, v8, v9, xs5, xs6, rfl, p0, p3, p3n, pN, p4, p5, p6, l5, l6⟩ := p
    rw [List.length_map, List.take_length] at p4
    refine ⟨_, rfl, _, rfl, _, rfl, by show 3 ≤ sizeLine; decide, fun t ht => ?_⟩
    exact q.of (p0.to ht) ⟨t, a4, a5, a6, rfl, SqT.of upd_same, (Ex.new ht).sqL (SqL.of p4)⟩
end
end K25
/-! all estimates, each with a row -/
namespace K25
open PySem PySem.Spec PyProof.Rows L2
abbrev ER := List Pr × List Str
section
variable {rows : List Row} {ft tab : Tab} {U : List Pr} {st : Int} {kinds : List Str}
noncomputable def succE (rows : List Row) (ft tab : Tab) (U : List Pr) (kinds : List Str) (E : List Pr) : List (List Pr) := (kinds.map fun s => laterE rows ft tab U s E).filter fun E => !E.isEmpty
theorem mem_succE {E F : List Pr} : F ∈ succE rows ft tab U kinds E ↔ ∃ s ∈ kinds, F = laterE rows ft tab U s E ∧ F ≠ [] := by
  unfold succE
  rw [List.mem_filter, List.mem_map]
  constructor
  · rintro ⟨⟨s, hs, rfl⟩, h⟩
    refine ⟨s, hs, rfl, fun e => ?_⟩
    rw [e] at h
    cases h
  · rintro ⟨s, hs, rfl, h⟩
    refine ⟨⟨s, hs, rfl⟩, ?_⟩
    cases hh : laterE rows ft tab U s E with
    | nil => exact absurd hh h
    | cons a b => rfl
theorem succE_snoc_y {E : List Pr} {ks : List Str} {s : Str} (h : laterE rows ft tab U s E ≠ []) : succE rows ft tab U (ks ++ [s]) E = succE rows ft tab U ks E ++ [laterE rows ft tab U s E] := by
  unfold succE
  rw [List.map_append, List.filter_append]
  cases hh : laterE rows ft tab U s E with
  | nil => exact absurd hh h
  | cons a b => simp [hh]
theorem succE_snoc_n {E : List Pr} {ks : List Str} {s : Str} (h : laterE rows ft tab U s E = []) : succE rows ft tab U (ks ++ [s]) E = succE rows ft tab U ks E := by
  unfold succE
  rw [List.map_append, List.filter_append]
  simp [h]
abbrev ReE (rows : List Row) (ft tab : Tab) (U : List Pr) (st : Int) (kinds : List Str) : List Pr → Prop := Reach (succE rows ft tab U kinds) fun E => E = firstE rows ft tab U st
theorem ReE.sub {E : List Pr} (h : ReE rows ft tab U st kinds E) : ∀ p ∈ E, p ∈ U := by
  induction h with
  | base e => subst e; exact firstE_sub
  | step _ m _ =>
    obtain ⟨s, _, e, _⟩ := mem_succE.mp m
    rw [e]
    exact laterE_sub
theorem ReE.len (u : Uni rows ft U) {E : List Pr} (h : ReE rows ft tab U st kinds E) : E.length < 60 := by
  induction h with
  | base e => subst e; exact cloL_len u
  | step _ m _ =>
    obtain ⟨s, _, e, _⟩ := mem_succE.mp m
    rw [e]
    exact cloL_len u
/-- each but the first is behind an earlier one, its row longer by the sight -/
structure Chain (rows : List Row) (ft tab : Tab) (U : List Pr) (st : Int) (kinds : List Str) (rws : List ER) : Prop where
  fst : rws[0]? = some (firstE rows ft tab U st, [])
  nxt : ∀ j E r, rws[j + 1]? = some (E, r) → ∃ i E' r' s, i ≤ j ∧ rws[i]? = some (E', r') ∧ s ∈ kinds ∧ r = r' ++ [s] ∧ E = laterE rows ft tab U s E' ∧ E ≠ []
theorem Chain.one : Chain rows ft tab U st kinds [(firstE rows ft tab U st, [])] := ⟨rfl, fun j E r h => by simp at h⟩
theorem Chain.snoc {rws : List ER} (c : Chain rows ft tab U st kinds rws) {i : Nat} {E' : List Pr} {r' : List Str} {s : Str} (h : rws[i]? = some (E', r')) (hs : s ∈ kinds) (hn : laterE rows ft tab U s E' ≠ []) : Chain rows ft tab U st kinds (rws ++ [(laterE rows ft tab U s E', r' ++ [s])]) where
  fst := by
    have h0 := (List.getElem?_eq_some_iff.mp c.fst).1
    rw [List.getElem?_append_left h0]
    exact c.fst
  nxt := fun j E r hj => by
    have hi := (List.getElem?_eq_some_iff.mp h).1
    rcases Nat.lt_or_ge (j + 1) rws.length with l | l
    · rw [List.getElem?_append_left l] at hj
      obtain ⟨i2, E2, r2, s2, a1, a2, a3⟩ := c.nxt j E r hj
      exact ⟨i2, E2, r2, s2, a1, by rw [List.getElem?_append_left (List.getElem?_eq_some_iff.mp a2).1]; exact a2, a3⟩
    · rw [List.getElem?_append_right l] at hj
      have hj2 := (List.getElem?_eq_some_iff.mp hj).1
      simp only [List.length_cons, List.length_nil] at hj2
      have e0 : j + 1 - rws.length = 0 := by omega
      rw [e0] at hj
      cases hj
      exact ⟨i, E', r', s, by omega, by rw [List.getElem?_append_left hi]; exact h, hs, rfl, rfl, hn⟩
theorem Chain.len {rws : List ER} (c : Chain rows ft tab U st kinds rws) : ∀ (j : Nat) {E : List Pr} {r : List Str}, rws[j]? = some (E, r) → r.length ≤ j := by
  intro j
  induction j using Nat.strongRecOn with
  | _ j ih =>
    intro E r h
    cases j with
    | zero =>
      rw [c.fst] at h
      cases h
      exact Nat.le_refl _
    | succ j =>
      obtain ⟨i, E', r', s, hi, h', _, rfl, _⟩ := c.nxt j E r h
      have q := ih i (Nat.lt_succ_of_le hi) h'
      rw [List.length_append, List.length_singleton]
      omega
structure AllE (rows : List Row) (ft tab : Tab) (U : List Pr) (st : Int) (kinds : List Str) (rws : List ER) : Prop where
  chain : Chain rows ft tab U st kinds rws
  nd : (rws.map (·.1)).Nodup
  mem : ∀ E, E ∈ rws.map (·.1) ↔ ReE rows ft tab U st kinds E
end
/-! ### the dict of rows -/
structure RowD (P : Program) (w : World) (K : PySem.W.Frag) (H : Hp) (d : Addr) (rws : List ER) (xs : List NE) : Prop where
  at_ : H d = some (DNO P w d xs)
  key : ∀ x ∈ xs, Nk K H (.ref x.2.1) x.1 ∧ x.1.depth ≤ 8
  rel : Paired (fun (x : NE) (r : ER) => x.1 = kEs r.1 ∧ ∃ a, x.2.2 = .ref a ∧ SqT K H a (r.2.map V.str)) xs rws
theorem paired_imp {α β : Type} {R R' : α → β → Prop} (h : ∀ a b, R a b → R' a b) : ∀ {xs : List α} {ys : List β}, Paired R xs ys → Paired R' xs ys
  | _, _, .nil => .nil
  | _, _, .cons r t => .cons (h _ _ r) (paired_imp h t)
theorem paired_snoc {α β : Type} {R : α → β → Prop} {x : α} {y : β} (r : R x y) : ∀ {xs : List α} {ys : List β}, Paired R xs ys → Paired R (xs ++ [x]) (ys ++ [y])
  | _, _, .nil => .cons r .nil
  | _, _, .cons q t => .cons q (paired_snoc r t)
theorem paired_get {α β : Type} {R : α → β → Prop} : ∀ {xs : List α} {ys : List β} {i : Nat} {x : α}, Paired R xs ys → xs[i]? = some x → ∃ y, ys[i]? = some y ∧ R x y
  | _, _, _, _, .nil, h => by simp at h
  | _, _, 0, _, .cons r t, h => by
    simp only [List.getElem?_cons_zero, Option.some.injEq] at h ⊢
    subst h
    exact ⟨_, rfl, r⟩
  | _, _, i + 1, _, .cons r t, h => by
    simp only [List.getElem?_cons_succ] at h ⊢
    exact paired_get t h
section
variable {P : Program} {w : World} {K : PySem.W.Frag} {H H' : Hp} {d : Addr} {rws : List ER} {xs : List NE}
theorem RowD.mono (h : RowD P w K H d rws xs) (e : Ex H H') : RowD P w K H' d rws xs := ⟨e _ _ h.at_, fun x hx => ⟨Nk.mono e _ _ (h.key x hx).1, (h.key x hx).2⟩, paired_imp (fun a b ⟨e1, q, e2, e3⟩ => ⟨e1, q, e2, e.sqT e3⟩) h.rel⟩
theorem RowD.nth (h : RowD P w K H d rws xs) {i : Nat} {e : NE} (he : xs[i]? = some e) : ∃ E r a, rws[i]? = some (E, r) ∧ Nk K H (.ref e.2.1) (kEs E) ∧ e.2.2 = .ref a ∧ SqT K H a (r.map V.str) := by
  obtain ⟨⟨E, r⟩, hr, e1, a, e2, e3⟩ := paired_get h.rel he
  refine ⟨E, r, a, hr, ?_, e2, e3⟩
  have q := (h.key e (List.mem_of_getElem? he)).1
  rw [e1] at q
  exact q
/-- the dict is locked -/
theorem RowD.nthF {o : Obj} (h : RowD P w K H d rws xs) {i : Nat} {e : NE} (he : xs[i]? = some e) : ∃ E r a, rws[i]? = some (E, r) ∧ Nk K (upd H d (.frz o (DNO P w d xs))) (.ref e.2.1) (kEs E) ∧ e.2.2 = .ref a ∧ SqT K (upd H d (.frz o (DNO P w d xs))) a (r.map V.str) := by
  obtain ⟨E, r, a, h1, h2, h3, h4⟩ := h.nth he
  exact ⟨E, r, a, h1, Nk.upd h.at_ ext_ne _ _ h2, h3, sqT_upd h4 h.at_ ext_ne⟩
theorem RowD.keys (h : RowD P w K H d rws xs) : xs.map (·.1) = rws.map fun r => kEs r.1 := by
  have q := h.rel
  clear h
  induction q with
  | nil => rfl
  | cons r _ ih => rw [List.map_cons, List.map_cons, ih, r.1]
theorem RowD.len (h : RowD P w K H d rws xs) : xs.length = rws.length := Paired.length h.rel
theorem RowD.other {l : Addr} {ys zs : List V} (h : RowD P w K H d rws xs) (hl : H l = some (.lst ys)) : RowD P w K (upd H l (.lst zs)) d rws xs :=
  ⟨by rw [upd_ne (ne_of h.at_ hl (fun z => nomatch z))]; exact h.at_, fun x hx => ⟨Nk.upd hl lst_ne _ _ (h.key x hx).1, (h.key x hx).2⟩, paired_imp (fun a b ⟨e1, q, e2, e3⟩ => ⟨e1, q, e2, sqT_upd e3 hl lst_ne⟩) h.rel⟩
theorem RowD.get (h : RowD P w K H d rws xs) (hn : (rws.map (·.1)).Nodup) {E : List Pr} {r : List Str} (hm : (E, r) ∈ rws) : ∃ a, atN xs (kEs E) = some (.ref a) ∧ SqT K H a (r.map V.str) := by
  have q := h.rel
  clear h
  induction q with
  | nil => cases hm
  | @cons x y l1 l2 e t ih =>
    rw [List.map_cons, List.nodup_cons] at hn
    obtain ⟨e1, a, e2, e3⟩ := e
    unfold atN
    rw [List.find?_cons]
    rcases List.mem_cons.mp hm with c | c
    · subst c
      rw [decide_eq_true e1]
      exact ⟨a, congrArg some e2, e3⟩
    · have ne : ¬ x.1 = kEs E := fun z => hn.1 (by rw [← kEs_inj _ _ (z.symm.trans e1)]; exact List.mem_map.mpr ⟨_, c, rfl⟩)
      rw [decide_eq_false ne]
      exact ih hn.2 c
theorem RowD.put {b a : Addr} {E : List Pr} {r : List Str} (h : RowD P w K H d rws xs) (hk : Nk K H (.ref b) (kEs E)) (hn : E ∉ rws.map (·.1)) (ha : SqT K H a (r.map V.str)) : RowD P w K (upd H d (DNO P w d (putN xs (kEs E) b (.ref a)))) d (rws ++ [(E, r)]) (putN xs (kEs E) b (.ref a)) := by
  have hn' : kEs E ∉ xs.map (·.1) := by
    rw [h.keys]
    intro z
    obtain ⟨y, hy, e⟩ := List.mem_map.mp z
    exact hn (List.mem_map.mpr ⟨y, hy, kEs_inj _ _ e⟩)
  rw [putN_new hn']
  refine ⟨upd_same, fun x hx => ?_, paired_snoc ⟨rfl, a, rfl, sqT_upd ha h.at_ ext_ne⟩ (paired_imp (fun a b ⟨e1, q, e2, e3⟩ => ⟨e1, q, e2, sqT_upd e3 h.at_ ext_ne⟩) h.rel)⟩
  rcases List.mem_append.mp hx with hx | hx
  · exact ⟨Nk.upd h.at_ ext_ne _ _ (h.key x hx).1, (h.key x hx).2⟩
  · rw [List.mem_singleton.mp hx]
    exact ⟨Nk.upd h.at_ ext_ne _ _ hk, kEs_depth E⟩
end
theorem catA {K : PySem.W.Frag} {H : Hp} {a b : Addr} {xs ys : List V} {Q : VK} (ha : SqT K H a xs) (hb : SqT K H b ys) (hl : xs.length + ys.length ≤ sizeLine) (h : ∀ p H', Ex H H' → SqT K H' p (xs ++ ys) → Q (.ref p) H') : rCatA K (.ref a) (.ref b) H Q :=
  ⟨a, b, xs, ys, rfl, rfl, ha, hb, hl, fun z => h b H (Ex.refl _) (by subst z; simpa using hb), fun _ z => h a H (Ex.refl _) (by subst z; simpa using ha), fun _ _ p hp => h p _ (Ex.new hp) (SqT.of upd_same)⟩
end K25
/-! all estimates -/
namespace K25
open PySem PySem.Spec PyProof.Rows L2
section
variable {P : Program} {w : World} {K : PySem.W.Frag} {mg : Str → Option Value} {base : Heap}
def sp_all_estimates (P : Program) (w : World) (K : PySem.W.Frag) : Sp := fun vs H Q _ => ∃ m wt S tab, ∃ U : List Pr, ∃ G : List (List Pr), vs = [.ref m, .ref wt] ∧ MacO K H m S ∧ WatO K H wt tab ∧ Uni S.rows S.ft U ∧ (S.st, []) ∈ U ∧
  G.length ≤ 120 ∧ (∀ E, ReE S.rows S.ft tab U S.st (nmsOf tab) E → E ∈ G) ∧ Ret H Q fun v H' => ∃ d rws xs, v = .ref d ∧ H d = none ∧ RowD P w K H' d rws xs ∧ AllE S.rows S.ft tab U S.st (nmsOf tab) rws
theorem sc_all_estimates : FnScope ["machine", "watch", "sights", "begin", "rows", "waiting", "at", "pairs", "sight", "later"] ["machine", "watch"] d_all_estimates.scope := ⟨rfl, rfl, rfl, by decide +kernel, rfl, by decide +kernel, by decide +kernel⟩
theorem ok_all_estimates (T : Tp K mg) : Cal P w K mg base "all_estimates" 4 ["machine", "watch"] (sp_all_estimates P w K) := by
  refine ⟨_, T.glo 40, ?_⟩
  show Df P w K mg base (d_all_estimates.path K) 4 ["machine", "watch"] (sp_all_estimates P w K)
  refine T.df 37 (d := d_all_estimates) rfl rfl sc_all_estimates (fun vs H Q E h => by obtain ⟨_, _, _, _, _, _, e, _⟩ := h; rw [e]; rfl) (fun _ _ _ _ _ _ us hl => match us, hl with | [_, _], _ => rfl) (fun cdv A outer s H vs Q E hr h => ?_)

  obtain ⟨m, wt, S, tab, U, G, rfl, hM, hW, u, hU, hG, hR, q⟩ := h
  refine ⟨_, PSs.nox (pss_cons (ps_set (i := 2) sc_all_estimates.nd rfl (Or.inl rfl) (pe_prp (pv 1) T.clsW T.p_Watch_sights (ok_Watch_sights T) hr (by decide)))
      (pss_cons (ps_set (i := 3) sc_all_estimates.nd rfl (Or.inl rfl) (pe_callTy call_tuple_of rfl (T.free 80) boot_tuple (pa_cons (pe_cal (ok_first_estimate T) hr (by decide) rfl (pa_cons (pv 0) (pa_cons (pv 1) pa_nil))) pa_nil)))
      (pss_cons (ps_set (i := 4) sc_all_estimates.nd rfl (Or.inl rfl) (pe_oneN hr (pv 3) (pe_tup pa_nil)))
      (pss_cons (ps_set (i := 5) sc_all_estimates.nd rfl (Or.inl rfl) (pe_lst (pa_cons (pv 3) pa_nil)))
      (pss_cons (ps_set (i := 6) sc_all_estimates.nd rfl (Or.inl rfl) pe_int)
      (pss_cons (ps_while PassesOwn.never (pt_cmpR op_lt (pv 6) (pe_callB call_len_seq rfl (T.free 74) boot_len (pa_cons (pv 5) pa_nil)) (nomark _)) (pss_cons (ps_set (i := 7) sc_all_estimates.nd rfl (Or.inl rfl) (pe_ix ix_list (pv 5) (pv 6) (fun _ _ => rfl)))
      (pss_cons (ps_aug (i := 6) sc_all_estimates.nd rfl (Or.inl rfl) pe_int ip_add)
      (pss_one (ps_for PassesOwn.never rfl (pi_list (pv 2)) (pg_name (i := 8) sc_all_estimates.nd rfl (Or.inl rfl))
      (pss_cons (ps_set (i := 9) sc_all_estimates.nd rfl (Or.inl rfl) (pe_callTy call_tuple_of rfl (T.free 80) boot_tuple (pa_cons (pe_cal (ok_later_estimate T) hr (by decide) rfl (pa_cons (pv 0) (pa_cons (pv 1) (pa_cons (pv 7) (pa_cons (pv 8) pa_nil))))) pa_nil)))
      (pss_one (ps_if (PW.pt (pw_and (pt_truth (pv 9) (fun _ => rfl)) (pw_and1 (pt_cmpR (op_notInN hr) (pv 9) (pv 4) (by with_unfolding_all rfl)))))
      (pss_cons (ps_asg (pe_op op_catA (pe_getN hr (pv 4) (pv 7) (fun _ _ => rfl)) (pe_tup (pa_cons (pv 8) pa_nil))) (pg_sub (pv 4) (pv 9) (set_N hr)))
      (pss_cons (ps_expr (pe_bm PySem.F.plainAttrs_list PySem.F.slot_list_append PySem.F.type_list_append mt_append (pv 5) (pa_cons (pv 9) pa_nil)))
      (pss_one (ps_if (pt_cmpR op_gt (pe_callB call_len_seq rfl (T.free 74) boot_len (pa_cons (pv 5) pa_nil)) (pe_mint rfl (T.int 92)) (nomark _))
      pss_never pss_nil)))) pss_nil))))))))
      (pss_one (ps_ret (pv 4))))))))), ?_⟩
  obtain ⟨dx0, t0, hW0, hW1, hW2⟩ := id hW
  refine ⟨_, rfl, wt, _, _, rfl, hW0, wt, tab, rfl, hW, fun v2 H2 e2 ⟨lS, ev, hS⟩ => ?_⟩
  subst ev
  refine ⟨_, rfl, _, rfl, m, wt, S, tab, U, rfl, hM.mono e2, hW.mono e2, u, hU, fun v3 H3 e3 ⟨r3, us3, ev, h3, n3⟩ => ?_⟩
  subst ev
  refine ⟨r3, us3, rfl, .inl ⟨SqL.of h3, fun b0 hb0 => ?_⟩⟩
  have e4 := (e2.trans e3).to (o := .tup us3) hb0
  have nb : Nk K (upd H3 b0 (.tup us3)) (.ref b0) (kEs (firstE S.rows S.ft tab U S.st)) := .tup (SqT.of upd_same) (NkA.mono (Ex.new hb0) _ _ n3)
  have hS4 : (upd H3 b0 (.tup us3)) lS = some (.lst ((nmsOf tab).map V.str)) := (Ex.new hb0) _ _ (e3 _ _ hS)
  refine fun D hD => ?_
  have hD0 : H D = none := e4.free hD
  refine ⟨_, rfl, by show 0 ≤ sizeLine; decide, fun t1 ht1 => ?_⟩
  have e5 := (Ex.new (o := DNO P w D []) hD).to (o := .tup []) ht1
  have dt : t1 ≠ D := fun z => by rw [z, upd_same] at ht1; cases ht1
  refine ⟨b0, _, rfl, (Ex.new ht1) _ _ upd_same, Nk.mono e5 _ _ nb, kEs_depth _, ?_⟩
  have hDat : (upd (upd (upd H3 b0 (.tup us3)) D (DNO P w D [])) t1 (.tup [])) D = some (DNO P w D []) := (Ex.new ht1) _ _ upd_same
  have dS : lS ≠ D := ne_of_none hS4 hD
  refine ⟨_, rfl, by show 1 ≤ sizeLine; decide, fun W hW6 => ?_⟩
  have nbD := Nk.upd (o := DNO P w D [(kEs (firstE S.rows S.ft tab U S.st), b0, .ref t1)]) hDat ext_ne _ _ (Nk.mono e5 _ _ nb)
  have r0 : RowD P w K (upd (upd (upd (upd H3 b0 (.tup us3)) D (DNO P w D [])) t1 (.tup [])) D (DNO P w D [(kEs (firstE S.rows S.ft tab U S.st), b0, .ref t1)])) D [(firstE S.rows S.ft tab U S.st, [])] [(kEs (firstE S.rows S.ft tab U S.st), b0, .ref t1)] :=
    ⟨upd_same, fun x hx => by rw [List.mem_singleton.mp hx]; exact ⟨nbD, kEs_depth _⟩, .cons ⟨rfl, t1, rfl, sqT_upd (SqT.of upd_same) hDat ext_ne⟩ .nil⟩
  have e6 := ((e4.trans e5).mut (o := DNO P w D [(kEs (firstE S.rows S.ft tab U S.st), b0, .ref t1)]) hD0)
  have hW0 : H W = none := e6.free hW6
  refine ⟨fun m' σ H1 => ∃ v7 v8 v9, ∃ n : Nat, ∃ xs : List NE, ∃ ws, ∃ rws : List ER, σ = [some (.ref m), some (.ref wt), some (.ref lS), some (.ref b0), some (.ref D), some (.ref W), some (.int (n : Nat)), v7, v8, v9] ∧ Ex H H1 ∧ H1 lS = some (.lst ((nmsOf tab).map V.str)) ∧ RowD P w K H1 D rws xs ∧ H1 W = some (.lst ws) ∧ NkA K H1 ws (rws.map fun (r : ER) => kEs r.1) ∧
    Chain S.rows S.ft tab U S.st (nmsOf tab) rws ∧ Bfs (succE S.rows S.ft tab U (nmsOf tab)) (fun E => E = firstE S.rows S.ft tab U S.st) n [] (rws.map fun (r : ER) => r.1) ∧ n ≤ rws.length ∧ lS ≠ D ∧ lS ≠ W ∧ 121 - n = m',
    ⟨_, _, _, _, 0, [(kEs (firstE S.rows S.ft tab U S.st), b0, .ref t1)], [.ref b0], [(firstE S.rows S.ft tab U S.st, [])], rfl, e6.to hW6, (Ex.new hW6) _ _ ((upd_ne dS).trans (e5 _ _ hS4)), r0.mono (Ex.new hW6), upd_same, .cons (Nk.mono (Ex.new hW6) _ _ nbD) .nil, Chain.one, Bfs.start (by simp) (fun p => by simp), Nat.zero_le _, dS, ne_of_none ((upd_ne dS).trans (e5 _ _ hS4)) hW6, rfl⟩, fun m' σ H1 p => ?_⟩
  obtain ⟨v7, v8, v9, n, xs, ws, rws, rfl, p0, pS, pD, pW, pn, pc, pb, pl, dSD, dSW, em⟩ := p
  have lw := pn.length
  rw [List.length_map] at lw
  have hlim : rws.length ≤ 120 := by
    have h := nodup_subP kEs_inj pb.nd (fun E hE => hR E (pb.reach E hE))
    rw [List.length_map] at h
    omega
  refine ⟨_, rfl, _, rfl, W, ws, rfl, .inl (SqL.of pW), _, _, rfl, rfl, _, rfl, itE (fun c => ?_) fun c => ?_⟩
  · have hlt : n < rws.length := by
      have h := ofT c
      omega
    have hget : rws[n]? = some rws[n] := List.getElem?_eq_getElem hlt
    generalize rws[n] = er at hget
    obtain ⟨E, er⟩ := er
    have hE : E ∈ rws.map (·.1) := List.mem_map.mpr ⟨_, List.mem_of_getElem? hget, rfl⟩
    have rE := pb.reach E hE
    obtain ⟨wv, hwv, nwv⟩ := NkA.get' pn (show (rws.map fun (r : ER) => kEs r.1)[n]? = some (kEs E) by rw [List.getElem?_map, hget]; rfl)
    obtain ⟨pa, pvs, rfl, hpa, npa⟩ := Nk.est nwv
    refine ⟨_, fun _ _ h => h, ?_⟩
    refine ⟨_, rfl, _, rfl, _, _, _, _, rfl, rfl, SqL.of pW, atI_nat hwv, ?_⟩
    refine ⟨_, rfl, _, _, rfl, rfl, ?_⟩
    refine ⟨_, rfl, lS, rfl, ⟨_, SqL.of pS⟩, ?_⟩
    have nkE : Nk K H1 (.ref pa) (kEs E) := nwv
    refine for_it (walk_list (xs := (nmsOf tab).map V.str)) (fun j σ H2 => ∃ v8 v9, ∃ xs : List NE, ∃ ws, ∃ rws : List ER, σ = [some (.ref m), some (.ref wt), some (.ref lS), some (.ref b0), some (.ref D), some (.ref W), some (.int ((n : Nat) + 1)), some (.ref pa), v8, v9] ∧ Ex H H2 ∧ H2 lS = some (.lst ((nmsOf tab).map V.str)) ∧ RowD P w K H2 D rws xs ∧ H2 W = some (.lst ws) ∧ NkA K H2 ws (rws.map fun (r : ER) => kEs r.1) ∧ Nk K H2 (.ref pa) (kEs E) ∧
      Chain S.rows S.ft tab U S.st (nmsOf tab) rws ∧ Bfs (succE S.rows S.ft tab U (nmsOf tab)) (fun E => E = firstE S.rows S.ft tab U S.st) n (succE S.rows S.ft tab U ((nmsOf tab).take j) E) (rws.map fun (r : ER) => r.1) ∧ rws[n]? = some (E, er))
      ⟨_, _, xs, ws, rws, rfl, p0, pS, pD, pW, pn, nkE, pc, by rw [List.take_zero]; exact pb, hget⟩ (fun j σ H2 _ p => by obtain ⟨v8, v9, xs, ws, rws, rfl, _, h, _⟩ := p; exact SqL.of h) (fun j x σ H2 H3 hj p y => ?_) (fun σ H2 p => ?_)
    · obtain ⟨v8, v9, xs, ws, rws, rfl, p0, pS, pD, pW, pn, nkE, pc, pb, hget⟩ := p
      obtain ⟨rfl, hx⟩ := y
      rw [List.getElem?_map] at hx
      obtain ⟨s, hs, rfl⟩ := Option.map_eq_some_iff.mp hx
      have hsm := List.mem_of_getElem? hs
      obtain ⟨pa2, pvs, epa, hpa, npa⟩ := Nk.est nkE
      cases epa
      refine ⟨_, rfl, _, rfl, _, rfl, _, rfl, m, wt, S, tab, pa, pvs, E, U, s, rfl, hM.mono p0, hW.mono p0, hpa, npa, u, ReE.sub rE, ReE.len u rE, fun v5 H5 e5 ⟨r5, us5, ev, h5, n5⟩ => ?_⟩
      subst ev
      refine ⟨r5, us5, rfl, .inl ⟨SqL.of h5, fun t6 ht6 => ?_⟩⟩
      have e6 := e5.to (o := .tup us5) ht6
      have nl : Nk K (upd H5 t6 (.tup us5)) (.ref t6) (kEs (laterE S.rows S.ft tab U s E)) := .tup (SqT.of upd_same) (NkA.mono (Ex.new ht6) _ _ n5)
      have l5 := n5.length
      rw [List.length_map] at l5
      have hD6 : RowD P w K (upd H5 t6 (.tup us5)) D rws xs := pD.mono e6
      have fin : ∀ {Hx : Hp} {vx : V}, Ex H3 Hx → succE S.rows S.ft tab U ((nmsOf tab).take (j + 1)) E = succE S.rows S.ft tab U ((nmsOf tab).take j) E ∨ (succE S.rows S.ft tab U ((nmsOf tab).take (j + 1)) E = succE S.rows S.ft tab U ((nmsOf tab).take j) E ++ [laterE S.rows S.ft tab U s E] ∧ laterE S.rows S.ft tab U s E ∈ rws.map fun (r : ER) => r.1) →
          ∃ v8 v9, ∃ xs : List NE, ∃ ws, ∃ rws : List ER, [some (.ref m), some (.ref wt), some (.ref lS), some (.ref b0), some (.ref D), some (.ref W), some (.int ((n : Nat) + 1)), some (.ref pa), some (.str s), some vx] = [some (.ref m), some (.ref wt), some (.ref lS), some (.ref b0), some (.ref D), some (.ref W), some (.int ((n : Nat) + 1)), some (.ref pa), v8, v9] ∧ Ex H Hx ∧ Hx lS = some (.lst ((nmsOf tab).map V.str)) ∧ RowD P w K Hx D rws xs ∧ Hx W = some (.lst ws) ∧ NkA K Hx ws (rws.map fun (r : ER) => kEs r.1) ∧ Nk K Hx (.ref pa) (kEs E) ∧
      Chain S.rows S.ft tab U S.st (nmsOf tab) rws ∧ Bfs (succE S.rows S.ft tab U (nmsOf tab)) (fun E => E = firstE S.rows S.ft tab U S.st) n (succE S.rows S.ft tab U ((nmsOf tab).take (j + 1)) E) (rws.map fun (r : ER) => r.1) ∧ rws[n]? = some (E, er) := fun {Hx vx} ex hc => by
        refine ⟨_, _, xs, ws, rws, rfl, p0.trans ex, ex _ _ pS, pD.mono ex, ex _ _ pW, NkA.mono ex _ _ pn, Nk.mono ex _ _ nkE, pc, ?_, hget⟩
        rcases hc with hc | ⟨hc, hm⟩
        · rw [hc]; exact pb
        · rw [hc]; exact pb.old hm
      refine ⟨_, rfl, _, .inr (.inl ⟨us5, SqT.of upd_same, rfl⟩), ?_⟩
      rcases Classical.em (us5 = []) with z | z
      · subst z
        refine itF rfl ?_
        have hL : laterE S.rows S.ft tab U s E = [] := List.length_eq_zero_iff.mp l5.symm
        refine itF rfl ?_
        refine fin e6 (.inl ?_)
        rw [take_next hs, succE_snoc_n hL]
      · have hL : laterE S.rows S.ft tab U s E ≠ [] := fun q => z (List.length_eq_zero_iff.mp (by rw [l5, q]; rfl))
        refine itT (by cases us5 with | nil => exact absurd rfl z | cons a b => rfl) ?_
        refine ⟨_, rfl, _, rfl, D, t6, _, xs, rfl, rfl, ⟨.inl hD6.at_, hD6.key⟩, nl, kEs_depth _, ?_⟩
        rw [hD6.keys]
        have es : succE S.rows S.ft tab U ((nmsOf tab).take (j + 1)) E = succE S.rows S.ft tab U ((nmsOf tab).take j) E ++ [laterE S.rows S.ft tab U s E] := by rw [take_next hs, succE_snoc_y hL]
        have hmem : kEs (laterE S.rows S.ft tab U s E) ∈ (rws.map fun (r : ER) => kEs r.1) ↔ laterE S.rows S.ft tab U s E ∈ rws.map fun (r : ER) => r.1 := by
          rw [show (rws.map fun (r : ER) => kEs r.1) = (rws.map fun (r : ER) => r.1).map kEs by rw [List.map_map]; rfl]
          exact mem_map_inj kEs_inj
        refine ⟨_, rfl, itE (fun c => ?_) fun c => ?_⟩
        · have hnew := fun q => ofnT c (hmem.mpr q)
          have hreach := pb.new (List.length_map (f := fun (r : ER) => r.1) (as := rws) ▸ Nat.le_of_lt (List.getElem?_eq_some_iff.mp hget).1) (List.mem_map.mpr ⟨_, List.mem_of_getElem? hget, rfl⟩ : E ∈ rws.map fun (r : ER) => r.1) hnew (mem_succE.mpr ⟨s, hsm, rfl, hL⟩)
          have hlim2 := nodup_subP kEs_inj hreach.nd (fun F hF => hR F (hreach.reach F hF))
          rw [List.length_append, List.length_singleton, List.length_map] at hlim2
          obtain ⟨ra, hra, hsr⟩ := hD6.get pb.nd (List.mem_of_getElem? hget)
          have hlr := pc.len n hget
          have hne6 := (List.getElem?_eq_some_iff.mp hget).1
          refine ⟨_, rfl, _, rfl, D, pa, kEs E, xs, .ref ra, rfl, rfl, ⟨.inl hD6.at_, hD6.key⟩, Nk.mono e6 _ _ nkE, kEs_depth _, hra, _, rfl, by show 1 ≤ sizeLine; decide, fun t7 ht7 => ?_⟩
          refine catA ((Ex.new ht7).sqT hsr) (SqT.of upd_same) (by rw [List.length_map]; exact Nat.le_trans (show er.length + 1 ≤ 1000 by omega) (by decide)) fun pr H8 e8 hpr => ?_
          have hpr2 : SqT K H8 pr ((er ++ [s]).map V.str) := by rw [map_snoc]; exact hpr
          have e7 := (Ex.new ht7).trans e8
          have hD8 := hD6.mono e7
          have nl8 := Nk.mono e7 _ _ nl
          have e38 := e6.trans e7
          have hlx := hD8.len
          refine ⟨_, rfl, _, rfl, D, t6, _, xs, rfl, rfl, ⟨hD8.at_, hD8.key⟩, nl8, kEs_depth _, Nat.lt_of_le_of_lt (show xs.length ≤ 1000 by omega) (by decide), ?_⟩
          have hD9 := hD8.put nl8 hnew hpr2
          have dW : W ≠ D := ne_of (e38 _ _ pW) hD8.at_ (fun z => nomatch z)
          have hW9 := (upd_ne (o := DNO P w D (putN xs (kEs (laterE S.rows S.ft tab U s E)) t6 (.ref pr))) dW).trans (e38 _ _ pW)
          have lw := pn.length
          rw [List.length_map] at lw
          refine ⟨_, rfl, .inl ⟨rfl, _, SqL.of hW9⟩, _, rfl, W, _, _, rfl, rfl, hW9, Nat.lt_of_le_of_lt (show ws.length ≤ 1000 by omega) (by decide), ?_⟩
          refine ⟨_, rfl, W, _, rfl, .inl (SqL.of upd_same), _, _, rfl, rfl, _, rfl, ?_⟩
          refine itF (dF (by rw [List.length_append, List.length_singleton]; omega)) ?_
          have hD0m := (p0.trans e38).mut (o := DNO P w D (putN xs (kEs (laterE S.rows S.ft tab U s E)) t6 (.ref pr))) hD0
          have d1 := NkA.append (NkA.other (zs := ws ++ [V.ref t6]) (NkA.put (o := DNO P w D (putN xs (kEs (laterE S.rows S.ft tab U s E)) t6 (.ref pr))) (NkA.mono e38 _ _ pn) hD8.at_) hW9) (NkA.cons (Nk.upd (o := .lst (ws ++ [V.ref t6])) hW9 lst_ne _ _ (Nk.upd (o := DNO P w D (putN xs (kEs (laterE S.rows S.ft tab U s E)) t6 (.ref pr))) hD8.at_ ext_ne _ _ nl8)) NkA.nil)
          refine ⟨_, _, putN xs (kEs (laterE S.rows S.ft tab U s E)) t6 (.ref pr), _, rws ++ [(laterE S.rows S.ft tab U s E, er ++ [s])], rfl, hD0m.mut hW0, (upd_ne dSW).trans ((upd_ne dSD).trans (e38 _ _ pS)), hD9.other hW9, upd_same, ?_, Nk.upd hW9 lst_ne _ _ (Nk.upd hD8.at_ ext_ne _ _ (Nk.mono e38 _ _ nkE)), pc.snoc hget hsm hL, ?_, ?_⟩
          · rw [map_snoc]
            exact d1
          · rw [map_snoc, es]
            exact hreach
          · rw [List.getElem?_append_left hne6]
            exact hget
        · exact fin e6 (.inr ⟨es, hmem.mp (ofnF c)⟩)
    · obtain ⟨v8, v9, xs, ws, rws, rfl, p0, pS, pD, pW, pn, nkE, pc, pb, hget⟩ := p
      rw [List.length_map, List.take_length] at pb
      refine ⟨_, (by omega : 121 - (n + 1) < m'), _, _, _, n + 1, xs, ws, rws, rfl, p0, pS, pD, pW, pn, pc, pb.next (by rw [List.getElem?_map, hget]; rfl) (fun q hq => hq), (List.getElem?_eq_some_iff.mp hget).1, dSD, dSW, rfl⟩
  · have hle : rws.length ≤ n := by
      have h := ofF c
      omega
    refine ⟨_, rfl, ?_⟩
    refine q.of p0 ⟨D, rws, xs, rfl, hD0, pD, pc, pb.nd, fun E => ?_⟩
    exact pb.ends (by rw [List.length_map]; exact hle) E
end
end K25
/-! telling, veil -/
namespace K25
open PySem PySem.Spec PyProof.Rows L2
/-- the first sure one -/
def FirstSure (f : Str) (rws : List ER) (r : List Str) : Prop := ∃ (j : Nat) (E : List Pr), rws[j]? = some (E, r) ∧ sureB f E = true ∧ ∀ (i : Nat) (E' : List Pr) (r' : List Str), i < j → rws[i]? = some (E', r') → sureB f E' = false
def NoneSure (f : Str) (rws : List ER) : Prop := ∀ (i : Nat) (E' : List Pr) (r' : List Str), rws[i]? = some (E', r') → sureB f E' = false
section
variable {P : Program} {w : World} {K : PySem.W.Frag} {mg : Str → Option Value} {base : Heap}
def sp_telling (K : PySem.W.Frag) : Sp := fun vs H Q _ => ∃ m wt S tab, ∃ f : Str, ∃ U : List Pr, ∃ G : List (List Pr), vs = [.ref m, .ref wt, .str f] ∧ MacO K H m S ∧ WatO K H wt tab ∧ Uni S.rows S.ft U ∧ (S.st, []) ∈ U ∧
  G.length ≤ 120 ∧ (∀ E, ReE S.rows S.ft tab U S.st (nmsOf tab) E → E ∈ G) ∧ f ∈ nmsOf S.ft ∧ Ret H Q fun v H' => ∃ rws, AllE S.rows S.ft tab U S.st (nmsOf tab) rws ∧ ((∃ r a, v = .ref a ∧ SqT K H' a (r.map V.str) ∧ FirstSure f rws r) ∨ (v = .non ∧ NoneSure f rws))
theorem sc_telling : FnScope ["machine", "watch", "fault", "rows", "pairs", "row"] ["machine", "watch", "fault"] d_telling.scope := ⟨rfl, rfl, rfl, by decide +kernel, rfl, by decide +kernel, by decide +kernel⟩
theorem ok_telling (T : Tp K mg) : Cal P w K mg base "telling" 5 ["machine", "watch", "fault"] (sp_telling K) := by
  refine ⟨_, T.glo 42, ?_⟩
  show Df P w K mg base (d_telling.path K) 5 ["machine", "watch", "fault"] (sp_telling K)
  refine T.df 39 (d := d_telling) rfl rfl sc_telling (fun vs H Q E h => by obtain ⟨_, _, _, _, _, _, _, e, _⟩ := h; rw [e]; rfl) (fun _ _ _ _ _ _ us hl => match us, hl with | [_, _, _], _ => rfl) (fun cdv A outer s H vs Q E hr h => ?_)

  obtain ⟨m, wt, S, tab, f, U, G, rfl, hM, hW, u, hU, hG, hR, hf, q⟩ := h
  refine ⟨_, PSs.nox (pss_cons (ps_expr (pe_cal (ok_check_watch T) hr (by decide) rfl (pa_cons (pv 1) pa_nil)))
      (pss_cons (ps_expr (pe_cal (ok_check_fault T) hr (by decide) rfl (pa_cons (pv 0) (pa_cons (pv 2) pa_nil))))
      (pss_cons (ps_set (i := 3) sc_telling.nd rfl (Or.inl rfl) (pe_cal (ok_all_estimates T) hr (by decide) rfl (pa_cons (pv 0) (pa_cons (pv 1) pa_nil))))
      (pss_cons (ps_for PassesOwn.never rfl (pi_itemsN (pv 3)) (pg_tup rfl (pgs_cons (pg_name (i := 4) sc_telling.nd rfl (Or.inl rfl)) (pgs_cons (pg_name (i := 5) sc_telling.nd rfl (Or.inl rfl)) pgs_nil)))
      (pss_one (ps_if (pt_val (pe_cal (ok_is_sure T) hr (by decide) rfl (pa_cons (pv 4) (pa_cons (pv 2) pa_nil))))
      (pss_one (ps_ret (pv 5))) pss_nil)))
      (pss_one (ps_ret pe_non)))))), ?_⟩
  refine ⟨_, rfl, wt, tab, rfl, hW, fun v1 H1 e1 _ => ?_⟩
  refine ⟨_, rfl, _, rfl, m, S, f, rfl, hM.mono e1, hf, fun v2 H2 e2 _ => ?_⟩
  have e12 := e1.trans e2
  refine ⟨_, rfl, _, rfl, m, wt, S, tab, U, G, rfl, hM.mono e12, hW.mono e12, u, hU, hG, hR, fun v3 H3 e3 ⟨D, rws, xs, ev, hDn, rd, al⟩ => ?_⟩
  subst ev
  have hsz : ∀ {i : Nat} {E : List Pr} {r : List Str}, rws[i]? = some (E, r) → E.length < 60 := fun h => ReE.len u ((al.mem _).mp (List.mem_map.mpr ⟨_, List.mem_of_getElem? h, rfl⟩))
  refine ⟨_, rfl, D, xs, rfl, .inl rd.at_, fun od => ?_⟩
  have hD0 : H D = none := e12.free hDn
  have eF : Ex H (upd H3 D (.frz od (DNO P w D xs))) := (e12.trans e3).mut hD0
  refine for_itemsN (fun i σ H4 => ∃ v4 v5, σ = [some (.ref m), some (.ref wt), some (.str f), some (.ref D), v4, v5] ∧ Ex (upd H3 D (.frz od (DNO P w D xs))) H4 ∧ ∀ (k : Nat) (E' : List Pr) (r' : List Str), k < i → rws[k]? = some (E', r') → sureB f E' = false)
    ⟨_, _, rfl, Ex.refl _, fun k E' r' z => absurd z (Nat.not_lt_zero k)⟩ (fun i σ H4 p => by obtain ⟨v4, v5, rfl, e, _⟩ := p; exact e _ _ upd_same) (fun i e σ H4 T he p hT => ?_) (fun σ H4 p => ?_)
  · obtain ⟨v4, v5, rfl, e4, hk⟩ := p
    obtain ⟨E, r, a, hr, nk, ea, ha⟩ := rd.nthF (o := od) he
    obtain ⟨ek, eb, ev⟩ := e
    have ea : ev = .ref a := ea
    subst ea
    refine ⟨T, _, rfl, SqT.of upd_same, rfl, _, _, rfl, _, _, rfl, rfl, ?_⟩
    have e5 := e4.to (o := .tup [.ref eb, .ref a]) hT
    obtain ⟨pa, pvs, epa, hpa, npa⟩ := Nk.est nk
    cases epa
    refine ⟨_, rfl, _, rfl, eb, pvs, f, E, rfl, e5.sqT hpa, NkA.mono e5 _ _ npa, Nat.lt_trans (hsz hr) (by decide), fun v6 H6 e6 ev => ?_⟩
    subst ev
    refine ⟨_, rfl, itE (fun c => ?_) fun c => ?_⟩
    · refine ⟨_, rfl, ?_⟩
      exact q.of ((eF.trans e5).trans e6) ⟨rws, al, .inl ⟨r, a, rfl, (e5.trans e6).sqT ha, i, E, hr, c, hk⟩⟩
    · refine ⟨_, _, rfl, e5.trans e6, fun k E' r' hki hr' => ?_⟩
      rcases Nat.lt_or_eq_of_le (Nat.le_of_lt_succ hki) with l | l
      · exact hk k E' r' l hr'
      · subst l
        rw [hr] at hr'
        cases hr'
        exact c
  · obtain ⟨v4, v5, rfl, e4, hk⟩ := p
    refine q.of (eF.trans e4) ⟨rws, al, .inr ⟨rfl, fun i E' r' h => hk i E' r' ?_ h⟩⟩
    rw [rd.len]
    exact (List.getElem?_eq_some_iff.mp h).1
/-- the splits of all estimates -/
noncomputable def veilL (f : Str) (rws : List ER) : List It2 := srtBy kIt (insAll [] (rws.map fun (r : ER) => splitE f r.1))
def sp_veil (K : PySem.W.Frag) : Sp := fun vs H Q _ => ∃ m wt S tab, ∃ f : Str, ∃ U : List Pr, ∃ G : List (List Pr), vs = [.ref m, .ref wt, .str f] ∧ MacO K H m S ∧ WatO K H wt tab ∧ Uni S.rows S.ft U ∧ (S.st, []) ∈ U ∧
  G.length ≤ 120 ∧ (∀ E, ReE S.rows S.ft tab U S.st (nmsOf tab) E → E ∈ G) ∧ f ∈ nmsOf S.ft ∧ Ret H Q fun v H' => ∃ rws, AllE S.rows S.ft tab U S.st (nmsOf tab) rws ∧ ((v = .non ∧ ∃ r, FirstSure f rws r) ∨ (NoneSure f rws ∧ ∃ rws', AllE S.rows S.ft tab U S.st (nmsOf tab) rws' ∧ ∃ l us, v = .ref l ∧ H' l = some (.lst us) ∧ NkA K H' us ((veilL f rws').map kIt)))
theorem sc_veil : FnScope ["machine", "watch", "fault", "parts", "pairs"] ["machine", "watch", "fault"] d_veil.scope := ⟨rfl, rfl, rfl, by decide +kernel, rfl, by decide +kernel, by decide +kernel⟩
theorem ok_veil (T : Tp K mg) : Cal P w K mg base "veil" 6 ["machine", "watch", "fault"] (sp_veil K) := by
  refine ⟨_, T.glo 43, ?_⟩
  show Df P w K mg base (d_veil.path K) 6 ["machine", "watch", "fault"] (sp_veil K)
  refine T.df 40 (d := d_veil) rfl rfl sc_veil (fun vs H Q E h => by obtain ⟨_, _, _, _, _, _, _, e, _⟩ := h; rw [e]; rfl) (fun _ _ _ _ _ _ us hl => match us, hl with | [_, _, _], _ => rfl) (fun cdv A outer s H vs Q E hr h => ?_)

  obtain ⟨m, wt, S, tab, f, U, G, rfl, hM, hW, u, hU, hG, hR, hf, q⟩ := h
  refine ⟨_, PSs.nox (pss_cons (ps_if (pt_cmpR op_notN (pe_cal (ok_telling T) hr (by decide) rfl (pa_cons (pv 0) (pa_cons (pv 1) (pa_cons (pv 2) pa_nil)))) pe_non (nomark _))
      (pss_one (ps_ret pe_non)) pss_nil)
      (pss_cons (ps_set (i := 3) sc_veil.nd rfl (Or.inl rfl) pe_newN)
      (pss_cons (ps_for PassesOwn.never rfl (pi_keysN (pe_cal (ok_all_estimates T) hr (by decide) rfl (pa_cons (pv 0) (pa_cons (pv 1) pa_nil)))) (pg_name (i := 4) sc_veil.nd rfl (Or.inl rfl))
      (pss_one (ps_asg pe_bl (pg_sub (pv 3) (pe_cal (ok_split_pairs T) hr (by decide) rfl (pa_cons (pv 4) (pa_cons (pv 2) pa_nil))) (set_N hr)))))
      (pss_one (ps_ret (pe_callB (call_sortedK rfl hr) rfl (T.free 76) boot_sorted (pa_cons (pe_callTy (call_listN rfl) rfl (T.free 77) boot_list (pa_cons (pv 3) pa_nil)) pa_nil))))))), ?_⟩
  refine ⟨_, rfl, _, rfl, _, rfl, m, wt, S, tab, f, U, G, rfl, hM, hW, u, hU, hG, hR, hf, fun v1 H1 e1 ⟨rws1, al1, hv⟩ => ?_⟩
  rcases hv with ⟨r, a, rfl, ha, fs⟩ | ⟨rfl, ns⟩
  · refine ⟨rfl, _, rfl, itT rfl ?_⟩
    exact q.of e1 ⟨rws1, al1, .inl ⟨rfl, r, fs⟩⟩
  · refine ⟨rfl, _, rfl, itF rfl ?_⟩
    refine fun pd hpd => ?_
    have e2 := e1.to (o := DNO P w pd []) hpd
    have hpd0 := e1.free hpd
    refine ⟨_, rfl, _, rfl, m, wt, S, tab, U, G, rfl, hM.mono e2, hW.mono e2, u, hU, hG, hR, fun v3 H3 e3 ⟨D, rws, xs, ev, hDn, rd, al⟩ => ?_⟩
    subst ev
    have hlim : rws.length ≤ 120 := by
      have h := nodup_subP kEs_inj al.nd (fun E hE => hR E ((al.mem E).mp hE))
      rw [List.length_map] at h
      omega
    have hsz : ∀ {i : Nat} {E : List Pr} {r : List Str}, rws[i]? = some (E, r) → E.length < 60 := fun h => ReE.len u ((al.mem _).mp (List.mem_map.mpr ⟨_, List.mem_of_getElem? h, rfl⟩))
    have m3 : MetD P w K H3 pd (([] : List It2).map kIt) [] := MetD.new.mono e3
    refine ⟨D, xs, rfl, .inl rd.at_, fun od => ?_⟩
    have hD0 : H D = none := e2.free hDn
    have dpD : pd ≠ D := fun z => by rw [z, upd_same] at hDn; cases hDn
    have eF : Ex H (upd H3 D (.frz od (DNO P w D xs))) := (e2.trans e3).mut hD0
    refine for_keysN (fun i σ H4 => ∃ v4 ys, σ = [some (.ref m), some (.ref wt), some (.str f), some (.ref pd), v4] ∧ Ex H H4 ∧ H4 D = some (.frz od (DNO P w D xs)) ∧ (∀ (k : Nat) (e : NE) (E : List Pr) (r : List Str), xs[k]? = some e → rws[k]? = some (E, r) → Nk K H4 (.ref e.2.1) (kEs E)) ∧ MetD P w K H4 pd ((insAll [] ((rws.map fun (r : ER) => splitE f r.1).take i)).map kIt) ys)
      ⟨_, [], rfl, eF, upd_same, fun k e E r he hr => ?_, ⟨(upd_ne dpD).trans m3.at_, fun _ h => (nomatch h), rfl, fun _ h => (nomatch h)⟩⟩ (fun i σ H4 p => by obtain ⟨v4, ys, rfl, _, h, _⟩ := p; exact h) (fun i e σ H4 he p => ?_) (fun σ H4 p => ?_)
    · obtain ⟨E', r', a, hr', nk, _⟩ := rd.nthF (o := od) he
      rw [hr] at hr'
      cases hr'
      exact nk
    · obtain ⟨v4, ys, rfl, e4, hD4, hN, hM4⟩ := p
      obtain ⟨E, r, a, hr, _, _, _⟩ := rd.nthF (o := od) he
      have nk := hN i e E r he hr
      obtain ⟨pa, pvs, epa, hpa, npa⟩ := Nk.est nk
      refine ⟨_, rfl, _, rfl, _, rfl, pa, pvs, f, E, by rw [epa]; rfl, hpa, npa, Nat.lt_trans (hsz hr) (by decide), fun v6 H6 e6 ⟨b6, ev, n6⟩ => ?_⟩
      subst ev
      have hM6 := hM4.mono e6
      have hlm := hM6.len
      have l2 := insAll_len ((rws.map fun (r : ER) => splitE f r.1).take i) []
      rw [List.length_map] at hlm
      rw [List.length_take, List.length_map] at l2
      simp only [List.length_nil] at l2
      refine ⟨pd, b6, _, ys, rfl, rfl, ⟨hM6.at_, hM6.key⟩, n6, kIt_depth _, Nat.lt_of_le_of_lt (show ys.length ≤ 1000 by omega) (by decide), ?_⟩
      have hM7 := hM6.putI n6 (kIt_depth _)
      have hs : (rws.map fun (r : ER) => splitE f r.1)[i]? = some (splitE f E) := by rw [List.getElem?_map, hr]; rfl
      have e7 : insK ((insAll [] ((rws.map fun (r : ER) => splitE f r.1).take i)).map kIt) (kIt (splitE f E)) = (insAll [] ((rws.map fun (r : ER) => splitE f r.1).take (i + 1))).map kIt := by
        rw [take_next hs, insAll_snoc]
        exact insAll_map kIt_inj [splitE f E] _
      rw [e7] at hM7
      refine ⟨_, _, rfl, (e4.trans e6).mut hpd0, (upd_ne dpD.symm).trans (e6 _ _ hD4), fun k e E r he hr => Nk.upd hM6.at_ ext_ne _ _ (Nk.mono e6 _ _ (hN k e E r he hr)), hM7⟩
    · obtain ⟨v4, ys, rfl, e4, hD4, hN, hM4⟩ := p
      refine ⟨_, rfl, pd, ys, rfl, ⟨.inl hM4.at_, hM4.key⟩, fun l1 hl1 => ?_⟩
      refine ⟨l1, _, _, rfl, SqL.of upd_same, NkA.mono (Ex.new hl1) _ _ hM4.vals, alk_it _, all_depth kIt_depth, fun us p hus hp => ?_⟩
      refine q.of ((e4.to hl1).to hp) ⟨rws1, al1, .inr ⟨ns, rws, al, p, us, rfl, upd_same, ?_⟩⟩
      rw [srt_map, rd.len, ← List.length_map (f := fun (r : ER) => splitE f r.1) (as := rws), List.take_length] at hus
      exact NkA.mono (Ex.new hp) _ _ hus
end
end K25
/-! the two parts: states with the fault and without it -/
namespace K25
open PySem PySem.Spec PyProof.Rows L2
abbrev Nd := Int × Int
/-- the node behind a step -/
noncomputable def stepN (ft : Tab) (f : Str) (x : Nd) (r : Row) : Nd := (r.2.2, if lk ft r.2.1 = some f then 0 else x.2)
noncomputable def succN (rows : List Row) (ft tab : Tab) (f : Str) (x : Nd) : List Nd := (rows.filter fun r => decide (r.1 = x.1) && (lk tab r.2.1).isNone).map (stepN ft f x)
theorem mem_succN {rows : List Row} {ft tab : Tab} {f : Str} {x y : Nd} : y ∈ succN rows ft tab f x ↔ ∃ r ∈ rows, r.1 = x.1 ∧ lk tab r.2.1 = none ∧ y = stepN ft f x r := by
  unfold succN
  rw [List.mem_map]
  constructor
  · rintro ⟨r, hr, e⟩
    obtain ⟨h1, h2⟩ := List.mem_filter.mp hr
    rw [Bool.and_eq_true, decide_eq_true_eq, Option.isNone_iff_eq_none] at h2
    exact ⟨r, h1, h2.1, h2.2, e.symm⟩
  · rintro ⟨r, hr, h1, h2, e⟩
    exact ⟨r, List.mem_filter.mpr ⟨hr, by rw [Bool.and_eq_true, decide_eq_true_eq, Option.isNone_iff_eq_none]; exact ⟨h1, h2⟩⟩, e.symm⟩
abbrev CloN (rows : List Row) (ft tab : Tab) (f : Str) : (Nd → Prop) → Nd → Prop := Reach (succN rows ft tab f)
/-- the states there are -/
structure StC (rows : List Row) (T : List Int) : Prop where
  few : T.length ≤ 20
  cl : ∀ s ∈ T, ∀ r ∈ rows, r.1 = s → r.2.2 ∈ T
def allN (T : List Int) : List Nd := T.map (fun s => (s, 0)) ++ T.map fun s => (s, 1)
theorem allN_mem {T : List Int} {x : Nd} : x ∈ allN T ↔ x.1 ∈ T ∧ (x.2 = 0 ∨ x.2 = 1) := by
  unfold allN
  rw [List.mem_append, List.mem_map, List.mem_map]
  constructor
  · rintro (⟨s, hs, rfl⟩ | ⟨s, hs, rfl⟩)
    · exact ⟨hs, .inl rfl⟩
    · exact ⟨hs, .inr rfl⟩
  · obtain ⟨a, b⟩ := x
    rintro ⟨h, rfl | rfl⟩
    · exact .inl ⟨a, h, rfl⟩
    · exact .inr ⟨a, h, rfl⟩
theorem allN_len (T : List Int) : (allN T).length = 2 * T.length := by
  unfold allN
  rw [List.length_append, List.length_map, List.length_map]
  omega
theorem allN_step {rows : List Row} {ft : Tab} {f : Str} {T : List Int} (c : StC rows T) {x : Nd} (h : x ∈ allN T) {r : Row} (hr : r ∈ rows) (e : r.1 = x.1) : stepN ft f x r ∈ allN T := by
  rw [allN_mem] at h ⊢
  refine ⟨c.cl x.1 h.1 r hr e, ?_⟩
  unfold stepN
  by_cases q : lk ft r.2.1 = some f
  · simp [q]
  · simp [q, h.2]
theorem CloN.all {rows : List Row} {ft tab : Tab} {f : Str} {T : List Int} (c : StC rows T) {I : Nd → Prop} (h : ∀ x, I x → x ∈ allN T) {x : Nd} (r : CloN rows ft tab f I x) : x ∈ allN T := Reach.closed (C := fun x => x ∈ allN T) h (fun p q hp hq => by
  obtain ⟨r, hr, e1, _, rfl⟩ := mem_succN.mp hq
  exact allN_step c hp hr e1) r
/-- what an item tells -/
def initN (hs ls : List Int) (x : Nd) : Prop := (x.2 = 0 ∧ x.1 ∈ hs) ∨ (x.2 = 1 ∧ x.1 ∈ ls)
structure PartsIs (rows : List Row) (ft tab : Tab) (f : Str) (I : Nd → Prop) (x : It2) : Prop where
  s1 : SrtBy .num x.1
  s2 : SrtBy .num x.2
  m1 : ∀ s, s ∈ x.1 ↔ CloN rows ft tab f I (s, 0)
  m2 : ∀ s, s ∈ x.2 ↔ CloN rows ft tab f I (s, 1)
theorem PartsIs.ext {rows : List Row} {ft tab : Tab} {f : Str} {I : Nd → Prop} {x y : It2} (h : PartsIs rows ft tab f I x) (g : PartsIs rows ft tab f I y) : x = y := by
  obtain ⟨x1, x2⟩ := x
  obtain ⟨y1, y2⟩ := y
  have e1 := SrtBy.ext num_inj h.s1 g.s1 fun s => by rw [h.m1, g.m1]
  have e2 := SrtBy.ext num_inj h.s2 g.s2 fun s => by rw [h.m2, g.m2]
  simp only at e1 e2
  rw [e1, e2]
/-- the two parts of the nodes met -/
def part (b : Int) (Ms : List Nd) : List Int := (Ms.filter fun x => decide (x.2 = b)).map (·.1)
theorem part_mem {b : Int} {Ms : List Nd} {s : Int} : s ∈ part b Ms ↔ (s, b) ∈ Ms := by
  unfold part
  rw [List.mem_map]
  constructor
  · rintro ⟨⟨a, c⟩, h, rfl⟩
    obtain ⟨h1, h2⟩ := List.mem_filter.mp h
    rw [decide_eq_true_eq] at h2
    simp only at h2
    rw [← h2]
    exact h1
  · intro h
    exact ⟨(s, b), List.mem_filter.mpr ⟨h, by simp⟩, rfl⟩
theorem part_nd {b : Int} {Ms : List Nd} (n : Ms.Nodup) : (part b Ms).Nodup := by
  unfold part List.Nodup
  rw [List.pairwise_map]
  have h := n.filter fun x => decide (x.2 = b)
  refine List.Pairwise.imp_of_mem ?_ h
  intro x y hx hy ne e
  have h1 := ofT (List.mem_filter.mp hx).2
  have h2 := ofT (List.mem_filter.mp hy).2
  exact ne (Prod.ext e (h1.trans h2.symm))
theorem part_snoc_y {b : Int} {Ms : List Nd} {x : Nd} (h : x.2 = b) : part b (Ms ++ [x]) = part b Ms ++ [x.1] := by
  unfold part
  rw [List.filter_append]
  simp [h]
theorem part_snoc_n {b : Int} {Ms : List Nd} {x : Nd} (h : x.2 ≠ b) : part b (Ms ++ [x]) = part b Ms := by
  unfold part
  rw [List.filter_append]
  simp [h]
theorem part_len (b : Int) (Ms : List Nd) : (part b Ms).length ≤ Ms.length := by
  unfold part
  rw [List.length_map]
  exact List.length_filter_le _ _
theorem parts_is {rows : List Row} {ft tab : Tab} {f : Str} {I : Nd → Prop} {Ms : List Nd} (n : Ms.Nodup) (h : ∀ x, x ∈ Ms ↔ CloN rows ft tab f I x) : PartsIs rows ft tab f I (srtBy .num (part 0 Ms), srtBy .num (part 1 Ms)) where
  s1 := srtBy_srt num_inj (alk_nums _) (part_nd n)
  s2 := srtBy_srt num_inj (alk_nums _) (part_nd n)
  m1 := fun s => by rw [srtBy_mem, part_mem, h]
  m2 := fun s => by rw [srtBy_mem, part_mem, h]
/-- of the steps js from x, the unseen ones' ends -/
noncomputable def seenN (rows : List Row) (ft tab : Tab) (f : Str) (x : Nd) (js : List Nat) : List Nd := js.filterMap fun j => match rows[j]? with
  | some r => if lk tab r.2.1 = none then some (stepN ft f x r) else none
  | none => none
theorem seenN_snoc_u {rows : List Row} {ft tab : Tab} {f : Str} {x : Nd} {js : List Nat} {j : Nat} {r : Row} (hr : rows[j]? = some r) (hu : lk tab r.2.1 = none) : seenN rows ft tab f x (js ++ [j]) = seenN rows ft tab f x js ++ [stepN ft f x r] := by
  unfold seenN
  rw [List.filterMap_append]
  simp [hr, hu]
theorem seenN_snoc_s {rows : List Row} {ft tab : Tab} {f : Str} {x : Nd} {js : List Nat} {j : Nat} {r : Row} (hr : rows[j]? = some r) (hu : lk tab r.2.1 ≠ none) : seenN rows ft tab f x (js ++ [j]) = seenN rows ft tab f x js := by
  unfold seenN
  rw [List.filterMap_append]
  simp [hr, hu]
theorem seenN_all {rows : List Row} {ft tab : Tab} {f : Str} {x y : Nd} (h : y ∈ succN rows ft tab f x) : y ∈ seenN rows ft tab f x (idx rows x.1) := by
  obtain ⟨r, hr, e1, e2, rfl⟩ := mem_succN.mp h
  obtain ⟨i, hi, e⟩ := List.getElem_of_mem hr
  have hg : rows[i]? = some r := by rw [List.getElem?_eq_getElem hi, e]
  unfold seenN
  rw [List.mem_filterMap]
  exact ⟨i, idx_mem.mpr ⟨r, hg, e1⟩, by simp [hg, e2]⟩
end K25
/-! closed_parts -/
namespace K25
open PySem PySem.Spec PyProof.Rows L2
section
variable {P : Program} {w : World} {K : PySem.W.Frag} {mg : Str → Option Value} {base : Heap}
def sp_closed_parts (K : PySem.W.Frag) : Sp := fun vs H Q _ => ∃ m wt S tab, ∃ f : Str, ∃ a b, ∃ hs ls : List Int, vs = [.ref m, .ref wt, .str f, .ref a, .ref b] ∧ MacO K H m S ∧ WatO K H wt tab ∧ SqL K H a (hs.map V.int) ∧ SqL K H b (ls.map V.int) ∧
  StC S.rows S.met ∧ (∀ s ∈ hs, s ∈ S.met) ∧ (∀ s ∈ ls, s ∈ S.met) ∧ hs.length < 1000 ∧ ls.length < 1000 ∧ Ret H Q fun v H' => ∃ c x, v = .ref c ∧ Nk K H' v (kIt x) ∧ PartsIs S.rows S.ft tab f (initN hs ls) x
theorem sc_closed_parts : FnScope ["machine", "watch", "fault", "having", "lacking", "met", "state", "waiting", "first", "second", "number", "side", "row", "end", "pair"] ["machine", "watch", "fault", "having", "lacking"] d_closed_parts.scope := ⟨rfl, rfl, rfl, by decide +kernel, rfl, by decide +kernel, by decide +kernel⟩
theorem ok_closed_parts (T : Tp K mg) : Cal P w K mg base "closed_parts" 2 ["machine", "watch", "fault", "having", "lacking"] (sp_closed_parts K) := by
  refine ⟨_, T.glo 48, ?_⟩
  show Df P w K mg base (d_closed_parts.path K) 2 ["machine", "watch", "fault", "having", "lacking"] (sp_closed_parts K)
  refine T.df 45 (d := d_closed_parts) rfl rfl sc_closed_parts (fun vs H Q E h => by obtain ⟨_, _, _, _, _, _, _, _, _, e, _⟩ := h; rw [e]; rfl) (fun _ _ _ _ _ _ us hl => match us, hl with | [_, _, _, _, _], _ => rfl) (fun cdv A outer s H vs Q E hr h => ?_)

  obtain ⟨m, wt, S, tab, f, a, b, hs, ls, rfl, hM, hW, ha, hb, sc, hhs, hls, lh, ll, q⟩ := h
  refine ⟨_, PSs.nox (pss_cons (ps_setDcN hr (i := 5) (own := [("state", 6)]) rfl sc_closed_parts.nd rfl rfl (sw_trueD rfl rfl rfl (by decide +kernel)) (pi_list (pv 3)) (blkOk_by (N := ["machine", "watch", "fault", "having", "lacking", "met", "state", "waiting", "first", "second", "number", "side", "row", "end", "pair"]) (sc := d_closed_parts.scope) (by decide +kernel)) (fun _ _ _ _ _ => (pg_name (i := 6) sc_closed_parts.nd rfl (Or.inl rfl))) (fun _ _ _ _ _ => pts_nil) (fun _ _ _ _ _ => (pe_tup (pa_cons (pv 6) (pa_cons pe_int pa_nil)))) (fun _ _ _ _ _ => pe_bl))
      (pss_cons (ps_for PassesOwn.never rfl (pi_list (pv 4)) (pg_name (i := 6) sc_closed_parts.nd rfl (Or.inl rfl))
      (pss_one (ps_asg pe_bl (pg_sub (pv 5) (pe_tup (pa_cons (pv 6) (pa_cons pe_int pa_nil))) (set_N hr)))))
      (pss_cons (ps_set (i := 7) sc_closed_parts.nd rfl (Or.inl rfl) (pe_callTy (call_listN rfl) rfl (T.free 77) boot_list (pa_cons (pv 5) pa_nil)))
      (pss_cons (ps_while PassesOwn.never (pt_truth (pv 7) (fun _ => rfl)) (pss_cons (ps_asg (pe_bm0 PySem.F.plainAttrs_list PySem.F.slot_list_pop PySem.F.type_list_pop mt_pop (pv 7)) (pg_tup rfl (pgs_cons (pg_name (i := 6) sc_closed_parts.nd rfl (Or.inl rfl)) (pgs_cons (pg_name (i := 11) sc_closed_parts.nd rfl (Or.inl rfl)) pgs_nil))))
      (pss_one (ps_for PassesOwn.never rfl (pi_list (pe_cal (ok_steps_from T) hr (by decide) rfl (pa_cons (pv 0) (pa_cons (pv 6) pa_nil)))) (pg_name (i := 10) sc_closed_parts.nd rfl (Or.inl rfl))
      (pss_cons (ps_set (i := 12) sc_closed_parts.nd rfl (Or.inl rfl) (pe_ix ix_list (pe_fld (pv 0) rfl) (pv 10) (fun _ _ => rfl)))
      (pss_one (ps_if (pt_cmpR op_isN (pe_cal (ok_sight_of T) hr (by decide) rfl (pa_cons (pv 1) (pa_cons (pe_ix ix_tup (pv 12) pe_int (fun _ _ => rfl)) pa_nil))) pe_non (nomark _))
      (pss_cons (ps_set (i := 13) sc_closed_parts.nd rfl (Or.inl rfl) (pe_tup (pa_cons (pe_ix ix_tup (pv 12) pe_int (fun _ _ => rfl)) (pa_cons (pv 11) pa_nil))))
      (pss_cons (ps_if (pt_val (pe_cal (ok_is_fault_step T) hr (by decide) rfl (pa_cons (pv 0) (pa_cons (pv 10) (pa_cons (pv 2) pa_nil)))))
      (pss_one (ps_set (i := 13) sc_closed_parts.nd rfl (Or.inl rfl) (pe_tup (pa_cons (pe_ix ix_tup (pv 12) pe_int (fun _ _ => rfl)) (pa_cons pe_int pa_nil))))) pss_nil)
      (pss_one (ps_if (pt_cmpR (op_notInN hr) (pv 13) (pv 5) (by with_unfolding_all rfl))
      (pss_cons (ps_asg pe_bl (pg_sub (pv 5) (pv 13) (set_N hr)))
      (pss_one (ps_expr (pe_bm PySem.F.plainAttrs_list PySem.F.slot_list_append PySem.F.type_list_append mt_append (pv 7) (pa_cons (pv 13) pa_nil))))) pss_nil)))) pss_nil)))))))
      (pss_cons (ps_set (i := 8) sc_closed_parts.nd rfl (Or.inl rfl) (pe_callB (call_sortedK rfl hr) rfl (T.free 76) boot_sorted (pa_cons (pe_lc (own := [("pair", 14)]) rfl sc_closed_parts.nd (pi_keysN (pv 5)) (blkOk_by (N := ["machine", "watch", "fault", "having", "lacking", "met", "state", "waiting", "first", "second", "number", "side", "row", "end", "pair"]) (sc := d_closed_parts.scope) (by decide +kernel)) (fun _ _ _ _ _ => (pg_name (i := 14) sc_closed_parts.nd rfl (Or.inl rfl))) (fun _ _ _ _ _ => pts_one (pt_cmpR op_eq (pe_ix (ix_tupB K rfl) (pv 14) pe_int (fun _ _ => rfl)) pe_int (nomark _))) (fun _ _ _ _ _ => (pe_ix (ix_tupB K rfl) (pv 14) pe_int (fun _ _ => rfl)))) pa_nil)))
      (pss_cons (ps_set (i := 9) sc_closed_parts.nd rfl (Or.inl rfl) (pe_callB (call_sortedK rfl hr) rfl (T.free 76) boot_sorted (pa_cons (pe_lc (own := [("pair", 14)]) rfl sc_closed_parts.nd (pi_keysN (pv 5)) (blkOk_by (N := ["machine", "watch", "fault", "having", "lacking", "met", "state", "waiting", "first", "second", "number", "side", "row", "end", "pair"]) (sc := d_closed_parts.scope) (by decide +kernel)) (fun _ _ _ _ _ => (pg_name (i := 14) sc_closed_parts.nd rfl (Or.inl rfl))) (fun _ _ _ _ _ => pts_one (pt_cmpR op_eq (pe_ix (ix_tupB K rfl) (pv 14) pe_int (fun _ _ => rfl)) pe_int (nomark _))) (fun _ _ _ _ _ => (pe_ix (ix_tupB K rfl) (pv 14) pe_int (fun _ _ => rfl)))) pa_nil)))
      (pss_one (ps_ret (pe_tup (pa_cons (pe_callTy call_tuple_of rfl (T.free 80) boot_tuple (pa_cons (pv 8) pa_nil)) (pa_cons (pe_callTy call_tuple_of rfl (T.free 80) boot_tuple (pa_cons (pv 9) pa_nil)) pa_nil))))))))))), ?_⟩
  refine ⟨_, rfl, a, rfl, ⟨_, ha⟩, fun D hD => ?_⟩
  refine cc_it (walk_list (xs := hs.map V.int)) (fun i H1 => Ex H H1 ∧ ∃ xs, MetD P w K H1 D ((insAll [] ((hs.take i).map fun s => ((s, 0) : Nd))).map kNd) xs) ⟨Ex.new hD, [], MetD.new⟩ (fun i H1 _ p => p.1.sqL ha) (fun i x H1 H2 hi p y => ?_) (fun H1 p => ?_)
  · obtain ⟨rfl, hx⟩ := y
    obtain ⟨e, xs, M⟩ := p
    rw [List.getElem?_map] at hx
    obtain ⟨s, hs0, rfl⟩ := Option.map_eq_some_iff.mp hx
    refine ⟨rfl, ?_⟩
    refine ⟨_, rfl, by show 2 ≤ sizeLine; decide, fun t ht => ?_⟩
    have Mt := M.mono (Ex.new (o := .tup [.int s, .int 0]) ht)
    have nt : Nk K (upd H2 t (.tup [.int s, .int 0])) (.ref t) (kNd (s, 0)) := Nk.ofNode (SqT.of upd_same)
    refine ⟨t, _, xs, rfl, ⟨Mt.at_, Mt.key⟩, nt, kNd_depth _, ?_, ?_⟩
    · have h1 := M.len
      have h2 := insAll_len ((hs.take i).map fun s => ((s, 0) : Nd)) []
      rw [List.length_map, List.length_take] at h2
      rw [List.length_map] at h1
      refine Nat.lt_of_le_of_lt (show xs.length ≤ 1000 from ?_) (by decide)
      simp only [List.length_nil] at h2
      omega
    · refine ⟨(e.to ht).mut hD, ?_⟩
      rw [take_next hs0, map_snoc, insAll_snoc]
      have q := Mt.putI nt (kNd_depth _)
      have e2 : insK ((insAll [] ((hs.take i).map fun s => ((s, 0) : Nd))).map kNd) (kNd (s, 0)) = (insK (insAll [] ((hs.take i).map fun s => ((s, 0) : Nd))) (s, 0)).map kNd := insAll_map kNd_inj [((s, 0) : Nd)] _
      rw [e2] at q
      exact ⟨_, q⟩
  obtain ⟨e1, xs, M⟩ := p
  rw [List.length_map, List.take_length] at M
  refine ⟨_, rfl, b, rfl, ⟨_, e1.sqL hb⟩, ?_⟩
  refine for_it (walk_list (xs := ls.map V.int)) (fun i σ H2 => ∃ v6, ∃ xs : List NE, σ = [some (.ref m), some (.ref wt), some (.str f), some (.ref a), some (.ref b), some (.ref D), v6, none, none, none, none, none, none, none, none] ∧ Ex H H2 ∧ MetD P w K H2 D ((insAll (insAll [] (hs.map fun s => ((s, 0) : Nd))) ((ls.take i).map fun s => ((s, 1) : Nd))).map kNd) xs)
    ⟨_, xs, rfl, e1, M⟩ (fun i σ H2 _ p => by obtain ⟨v6, xs, rfl, e, _⟩ := p; exact e.sqL hb) (fun i x σ H2 H3 hi p y => ?_) (fun σ H2 p => ?_)
  · obtain ⟨v6, xs, rfl, e, M⟩ := p
    obtain ⟨rfl, hx⟩ := y
    rw [List.getElem?_map] at hx
    obtain ⟨s, hs0, rfl⟩ := Option.map_eq_some_iff.mp hx
    refine ⟨_, rfl, _, rfl, by show 2 ≤ sizeLine; decide, fun t ht => ?_⟩
    have Mt := M.mono (Ex.new (o := .tup [.int s, .int 1]) ht)
    have nt : Nk K (upd H3 t (.tup [.int s, .int 1])) (.ref t) (kNd (s, 1)) := Nk.ofNode (SqT.of upd_same)
    refine ⟨D, t, _, xs, rfl, rfl, ⟨Mt.at_, Mt.key⟩, nt, kNd_depth _, ?_, ?_⟩
    · have h1 := M.len
      have h2 := insAll_len (hs.map fun s => ((s, 0) : Nd)) []
      have h3 := insAll_len ((ls.take i).map fun s => ((s, 1) : Nd)) (insAll [] (hs.map fun s => ((s, 0) : Nd)))
      rw [List.length_map, List.length_take] at h3
      rw [List.length_map] at h1 h2
      refine Nat.lt_of_le_of_lt (show xs.length ≤ 2000 from ?_) (by decide)
      simp only [List.length_nil] at h2
      omega
    · refine ⟨_, putN xs (kNd (s, 1)) t (.bl true), rfl, (e.to ht).mut hD, ?_⟩
      rw [take_next hs0, map_snoc, insAll_snoc]
      have q := Mt.putI nt (kNd_depth _)
      have e2 : insK ((insAll (insAll [] (hs.map fun s => ((s, 0) : Nd))) ((ls.take i).map fun s => ((s, 1) : Nd))).map kNd) (kNd (s, 1)) = (insK (insAll (insAll [] (hs.map fun s => ((s, 0) : Nd))) ((ls.take i).map fun s => ((s, 1) : Nd))) (s, 1)).map kNd := insAll_map kNd_inj [((s, 1) : Nd)] _
      rw [e2] at q
      exact q
  obtain ⟨v6, xs, rfl, e2, M⟩ := p
  rw [List.length_map, List.take_length] at M
  generalize hL : insAll (insAll [] (hs.map fun s => ((s, 0) : Nd))) (ls.map fun s => ((s, 1) : Nd)) = L at M
  have hLm : ∀ x : Nd, x ∈ L ↔ initN hs ls x := fun x => by
    obtain ⟨x1, x2⟩ := x
    rw [← hL, insAll_mem, insAll_mem, List.mem_map, List.mem_map]
    unfold initN
    constructor
    · rintro ((h | ⟨s, h, e⟩) | ⟨s, h, e⟩)
      · cases h
      · cases e; exact .inl ⟨rfl, h⟩
      · cases e; exact .inr ⟨rfl, h⟩
    · rintro (⟨e, h⟩ | ⟨e, h⟩)
      · simp only at e h; subst e; exact .inl (.inr ⟨_, h, rfl⟩)
      · simp only at e h; subst e; exact .inr ⟨_, h, rfl⟩
  have hLn : L.Nodup := by rw [← hL]; exact insAll_nodup (insAll_nodup List.nodup_nil)
  have hLa : ∀ x, initN hs ls x → x ∈ allN S.met := fun x h => by
    rw [allN_mem]
    rcases h with ⟨e, h⟩ | ⟨e, h⟩
    · exact ⟨hhs _ h, .inl e⟩
    · exact ⟨hls _ h, .inr e⟩
  refine ⟨_, rfl, D, xs, rfl, ⟨.inl M.at_, M.key⟩, fun Wl hWl => ?_⟩
  have e3 := e2.to (o := .lst (xs.map fun x => .ref x.2.1)) hWl
  have hWl0 : H Wl = none := e2.free hWl
  have d0 : Dfs (succN S.rows S.ft tab f) (initN hs ls) L L := Dfs.start hLn hLm
  have bound : ∀ {Ms : List Nd}, Ms.Nodup → (∀ x ∈ Ms, CloN S.rows S.ft tab f (initN hs ls) x) → Ms.length ≤ 40 := fun {Ms} n h => by
    have z := nodup_subP kNd_inj n (D := allN S.met) fun x hx => CloN.all sc hLa (h x hx)
    rw [allN_len] at z
    have := sc.few
    omega
  have hL40 := bound d0.nd d0.reach
  refine ⟨fun m' σ H1 => ∃ v6 v10 v11 v12 v13 v14, ∃ xs : List NE, ∃ Ms : List Nd, ∃ ws, ∃ Ws : List Nd, σ = [some (.ref m), some (.ref wt), some (.str f), some (.ref a), some (.ref b), some (.ref D), v6, some (.ref Wl), none, none, v10, v11, v12, v13, v14] ∧ Ex H H1 ∧ MetD P w K H1 D (Ms.map kNd) xs ∧ H1 Wl = some (.lst ws) ∧ NkA K H1 ws (Ws.map kNd) ∧
    Dfs (succN S.rows S.ft tab f) (initN hs ls) Ms Ws ∧ 2 * (40 - Ms.length) + Ws.length = m' ∧ m' ≤ 2000, ⟨_, _, none, none, none, none, none, xs, L, _, L, rfl, e3, M.mono (Ex.new hWl), upd_same, NkA.mono (Ex.new hWl) _ _ M.vals, d0, rfl, by omega⟩, fun m' σ H1 p => ?_⟩
  obtain ⟨v6, v10, v11, v12, v13, v14, xs, Ms, ws, Ws, rfl, e3, M, hws, nws, d, em, em2⟩ := p
  refine ⟨_, rfl, _, .inl ⟨ws, SqL.of hws, rfl⟩, ?_⟩
  rcases List.eq_nil_or_concat Ws with rfl | ⟨Ws', p, rfl⟩
  · obtain rfl : ws = [] := by cases nws; rfl
    refine itF rfl ?_
    have lx := M.len
    have lM := bound d.nd d.reach
    rw [List.length_map] at lx
    refine ⟨_, rfl, D, xs, rfl, .inl M.at_, fun od l1 hl1 => ?_⟩
    have nth : ∀ {i : Nat} {e : NE}, xs[i]? = some e → ∃ x, Ms[i]? = some x ∧ Nk K (upd H1 D (.frz od (DNO P w D xs))) (.ref e.2.1) (kNd x) := fun {i e} he => by
      have q := (M.key e (List.mem_of_getElem? he)).1
      have h : (xs.map (·.1))[i]? = some e.1 := by rw [List.getElem?_map, he]; rfl
      rw [M.keys, List.getElem?_map] at h
      obtain ⟨x, hx, ex⟩ := Option.map_eq_some_iff.mp h
      exact ⟨x, hx, Nk.upd M.at_ ext_ne _ _ (by rw [ex]; exact q)⟩
    have eF : Ex H (upd H1 D (.frz od (DNO P w D xs))) := e3.mut hD
    refine lc_keysN (fun i H2 => Ex (upd H1 D (.frz od (DNO P w D xs))) H2 ∧ H2 l1 = some (.lst ((part 0 (Ms.take i)).map V.int))) ⟨Ex.new hl1, upd_same⟩ (fun i H2 p => p.1 _ _ upd_same) (fun i e H2 he p => ?_) (fun H2 p => ?_)
    · obtain ⟨e5, hd⟩ := p
      obtain ⟨x, hx, nk⟩ := nth he
      have nk := Nk.mono (Ex.refl _) _ _ nk
      obtain ⟨pa, epa, hpa⟩ := Nk.node nk
      have iM : i < Ms.length := (List.getElem?_eq_some_iff.mp hx).1
      refine ⟨rfl, ?_⟩
      rw [epa]
      refine ⟨_, rfl, _, _, _, _, rfl, rfl, e5.sqT hpa, rfl, rfl, _, rfl, ?_⟩
      have ed : decide (V.int x.2 = V.int 0) = decide (x.2 = 0) := by
        rw [Bool.eq_iff_iff, decide_eq_true_eq, decide_eq_true_eq]
        exact ⟨fun z => by injection z, fun z => by rw [z]⟩
      rw [ed]
      refine itE (fun c => ?_) fun c => ?_
      · refine ⟨_, rfl, _, _, _, _, rfl, rfl, e5.sqT hpa, rfl, _, hd, ?_, e5.mut hl1, ?_⟩
        · rw [List.length_map]
          have h := part_len 0 (Ms.take i)
          rw [List.length_take] at h
          exact Nat.lt_of_le_of_lt (show _ ≤ 1000 by omega) (by decide)
        · rw [take_next hx, part_snoc_y (ofT c), map_snoc]
          exact upd_same
      · refine ⟨e5, ?_⟩
        rw [take_next hx, part_snoc_n (ofF c)]
        exact hd
    obtain ⟨eA, hd1⟩ := p
    rw [lx, List.take_length] at hd1
    refine ⟨l1, _, _, rfl, SqL.of hd1, NkA.ints _, alk_nums _, fun k hk => ?_, fun us1 p1 hus1 hp1 => ?_⟩
    · obtain ⟨y, _, rfl⟩ := List.mem_map.mp hk
      exact Nat.zero_le _
    rw [srt_map] at hus1
    obtain rfl := NkA.toInts hus1
    have eB := eA.to (o := .lst ((srtBy .num (part 0 Ms)).map V.int)) hp1
    have hD3 := eB _ _ (upd_same (H := H1) (a := D) (o := .frz od (DNO P w D xs)))
    have hp1s := upd_same (H := H2) (a := p1) (o := .lst ((srtBy .num (part 0 Ms)).map V.int))
    refine ⟨_, rfl, D, xs, rfl, .inr ⟨od, hD3⟩, fun od2 l2 hl2 => ?_⟩
    have hl2' := hl2
    have eC0 := eB.trans (Ex.refl _)
    have nth2 : ∀ {i : Nat} {e : NE}, xs[i]? = some e → ∃ x, Ms[i]? = some x ∧ Nk K (upd (upd H2 p1 (.lst ((srtBy .num (part 0 Ms)).map V.int))) D (.frz od2 (DNO P w D xs))) (.ref e.2.1) (kNd x) := fun {i e} he => by
      obtain ⟨x, hx, nk⟩ := nth he
      exact ⟨x, hx, Nk.upd hD3 frz_ne _ _ (Nk.mono eB _ _ nk)⟩
    have dp1 : p1 ≠ D := fun z => by rw [z, upd_same] at hD3; cases hD3
    have hp1C := (upd_ne (o := .frz od2 (DNO P w D xs)) dp1).trans hp1s
    have eC : Ex H (upd (upd H2 p1 (.lst ((srtBy .num (part 0 Ms)).map V.int))) D (.frz od2 (DNO P w D xs))) := (eF.trans eB).mut hD
    refine lc_keysN (fun i H2 => Ex _ H2 ∧ H2 l2 = some (.lst ((part 1 (Ms.take i)).map V.int))) ⟨Ex.new hl2, upd_same⟩ (fun i H2 p => p.1 _ _ upd_same) (fun i e H2 he p => ?_) (fun H2 p => ?_)
    · obtain ⟨e5, hd⟩ := p
      obtain ⟨x, hx, nk⟩ := nth2 he
      have nk := Nk.mono (Ex.refl _) _ _ nk
      obtain ⟨pa, epa, hpa⟩ := Nk.node nk
      have iM : i < Ms.length := (List.getElem?_eq_some_iff.mp hx).1
      refine ⟨rfl, ?_⟩
      rw [epa]
      refine ⟨_, rfl, _, _, _, _, rfl, rfl, e5.sqT hpa, rfl, rfl, _, rfl, ?_⟩
      have ed : decide (V.int x.2 = V.int 1) = decide (x.2 = 1) := by
        rw [Bool.eq_iff_iff, decide_eq_true_eq, decide_eq_true_eq]
        exact ⟨fun z => by injection z, fun z => by rw [z]⟩
      rw [ed]
      refine itE (fun c => ?_) fun c => ?_
      · refine ⟨_, rfl, _, _, _, _, rfl, rfl, e5.sqT hpa, rfl, _, hd, ?_, e5.mut hl2, ?_⟩
        · rw [List.length_map]
          have h := part_len 1 (Ms.take i)
          rw [List.length_take] at h
          exact Nat.lt_of_le_of_lt (show _ ≤ 1000 by omega) (by decide)
        · rw [take_next hx, part_snoc_y (ofT c), map_snoc]
          exact upd_same
      · refine ⟨e5, ?_⟩
        rw [take_next hx, part_snoc_n (ofF c)]
        exact hd
    obtain ⟨eD, hd2⟩ := p
    rw [lx, List.take_length] at hd2
    refine ⟨l2, _, _, rfl, SqL.of hd2, NkA.ints _, alk_nums _, fun k hk => ?_, fun us2 p2 hus2 hp2 => ?_⟩
    · obtain ⟨y, _, rfl⟩ := List.mem_map.mp hk
      exact Nat.zero_le _
    rw [srt_map] at hus2
    obtain rfl := NkA.toInts hus2
    have eE := eD.to (o := .lst ((srtBy .num (part 1 Ms)).map V.int)) hp2
    have hp1E := eE _ _ hp1C
    refine ⟨_, rfl, p1, _, rfl, .inl ⟨SqL.of hp1E, fun t1 ht1 => ?_⟩⟩
    refine ⟨_, rfl, p2, _, rfl, .inl ⟨(Ex.new ht1).sqL (SqL.of upd_same), fun t2 ht2 => ?_⟩⟩
    refine ⟨by show 2 ≤ sizeLine; decide, fun t3 ht3 => ?_⟩
    refine q.of (((((eC.trans eE).to ht1).to ht2).to ht3)) ⟨t3, (srtBy .num (part 0 Ms), srtBy .num (part 1 Ms)), rfl, ?_, parts_is d.nd d.ends⟩
    exact Nk.ofItem (SqT.of upd_same) (((Ex.new ht2).to ht3).sqT (SqT.of upd_same)) ((Ex.new ht3).sqT (SqT.of upd_same))
  rw [List.concat_eq_append] at *
  rw [List.map_append, List.map_cons, List.map_nil] at nws
  obtain ⟨us, v, rfl, nus, nv⟩ := NkA.last nws
  refine itT (by simp) ⟨_, fun _ _ h => h, ?_⟩
  obtain ⟨pa, rfl, hpa⟩ := Nk.node nv
  have dl : (us ++ [V.ref pa]).dropLast = us := by simp
  have gl : (us ++ [V.ref pa])[(us ++ [V.ref pa]).length - 1]? = some (V.ref pa) := by simp
  refine ⟨_, rfl, .inl ⟨rfl, _, SqL.of hws⟩, Wl, _, _, rfl, rfl, hws, gl, ?_⟩
  rw [dl]
  have e4 : Ex H (upd H1 Wl (.lst us)) := e3.mut hWl0
  have M4 : MetD P w K (upd H1 Wl (.lst us)) D (Ms.map kNd) xs := M.other hws
  have hpa4 := sqT_upd (o := .lst us) hpa hws lst_ne
  have nus4 := NkA.other (zs := us) nus hws
  refine ⟨pa, _, rfl, hpa4, rfl, _, _, rfl, _, _, rfl, rfl, ?_⟩
  refine ⟨_, rfl, _, rfl, m, S, p.1, rfl, hM.mono e4, fun v5 H5 e5 ⟨l5, ev5, hl5, _⟩ => ?_⟩
  subst ev5
  refine ⟨l5, rfl, ⟨_, SqL.of hl5⟩, ?_⟩
  have IV : ∀ {Hx : Hp} {ws : List V} {Ws : List Nd} {i : Nat} {j : Nat}, Hx Wl = some (.lst ws) → NkA K Hx ws (Ws.map kNd) → Hx l5 = some (.lst ((idx S.rows p.1).map fun i => V.int (i : Nat))) → (idx S.rows p.1)[i]? = some j → l5 ≠ Wl := by
    intro Hx ws Ws i j h1 h2 h3 h4 h5
    rw [h5, h1] at h3
    injection h3 with h3
    injection h3 with h3
    have h6 : ws[i]? = some (V.int (j : Nat)) := by rw [h3, List.getElem?_map, h4]; rfl
    obtain ⟨k, hk, nk⟩ := NkA.get h2 h6
    rw [List.getElem?_map] at hk
    obtain ⟨z, hz, rfl⟩ := Option.map_eq_some_iff.mp hk
    obtain ⟨a, ez, _⟩ := Nk.node nk
    cases ez
  refine for_it (walk_list (xs := (idx S.rows p.1).map fun i => V.int (i : Nat))) (fun i σ H1' => ∃ v10 v12 v13 v14, ∃ xs : List NE, ∃ Ms : List Nd, ∃ ws, ∃ Ws : List Nd, σ = [some (.ref m), some (.ref wt), some (.str f), some (.ref a), some (.ref b), some (.ref D), some (.int p.1), some (.ref Wl), none, none, v10, some (.int p.2), v12, v13, v14] ∧ Ex H H1' ∧ MetD P w K H1' D (Ms.map kNd) xs ∧ H1' Wl = some (.lst ws) ∧ NkA K H1' ws (Ws.map kNd) ∧ H1' l5 = some (.lst ((idx S.rows p.1).map fun i => V.int (i : Nat))) ∧
     DfsIn (succN S.rows S.ft tab f) (initN hs ls) p (seenN S.rows S.ft tab f p ((idx S.rows p.1).take i)) Ms Ws ∧ 2 * (40 - Ms.length) + Ws.length < m')
     ⟨v10, v12, v13, v14, xs, Ms, us, Ws', rfl, e4.trans e5, M4.mono e5, e5 _ _ upd_same, NkA.mono e5 _ _ nus4, hl5, d.pop, by rw [← em, List.length_append]; exact Nat.lt_succ_of_le (Nat.le_refl _)⟩ (fun i σ H1' _ p => ?_) (fun i x σ Ha Hb hi p y => ?_) (fun σ H1' p => ?_)
  · obtain ⟨v10, v12, v13, v14, xs, Ms, ws, Ws, rfl, a1, a2, a3, a4, a6, a7⟩ := p
    exact SqL.of a6
  · obtain ⟨v10, v12, v13, v14, xs, Ms, ws, Ws, rfl, a1, a2, a3, a4, a6, a7, a8⟩ := p
    obtain ⟨rfl, hx⟩ := y
    rw [List.getElem?_map] at hx
    obtain ⟨j, hj, rfl⟩ := Option.map_eq_some_iff.mp hx
    have hlw := IV a3 a4 a6 hj
    obtain ⟨r, hr0, hr1⟩ := idx_mem.mp (List.mem_of_getElem? hj)
    obtain ⟨MA, M⟩ := hM.mono a1
    obtain ⟨rvs, hR, nR⟩ := M.rows
    obtain ⟨rv, hrv, nrv⟩ := NkA.get' nR (show (S.rows.map kRow)[j]? = some (kRow r) by rw [List.getElem?_map, hr0]; rfl)
    obtain ⟨ra, rfl, hra⟩ := Nk.row nrv
    refine ⟨_, rfl, _, _, _, _, _, rfl, M.at_, T.clsM, T.noM.2.1, rfl, _, rfl, _, _, _, _, rfl, rfl, hR, atI_nat hrv, ?_⟩
    refine ⟨_, rfl, _, rfl, _, _, _, _, rfl, rfl, hra, rfl, wt, tab, r.2.1, rfl, hW.mono a1, fun v6 H6 e6 ev6 => ?_⟩
    subst ev6
    refine ⟨rfl, _, rfl, itE (fun c => ?_) fun c => ?_⟩
    · have hu : lk tab r.2.1 = none := by
        cases hl : lk tab r.2.1 with
        | none => rfl
        | some z => rw [hl] at c; exact absurd (ofT c) (fun z => nomatch z)
      have hs : stepN S.ft f p r ∈ succN S.rows S.ft tab f p := mem_succN.mpr ⟨r, List.mem_of_getElem? hr0, hr1, hu, rfl⟩
      have es := seenN_snoc_u (f := f) (js := (idx S.rows p.1).take i) hr0 hu (ft := S.ft) (x := p)
      rw [← take_next hj] at es
      refine ⟨_, rfl, _, _, _, _, rfl, rfl, e6.sqT hra, rfl, _, rfl, by show 2 ≤ sizeLine; decide, fun t1 ht1 => ?_⟩
      refine ⟨_, rfl, _, rfl, _, rfl, m, S, j, r, f, rfl, hM.mono ((a1.trans e6).to ht1), hr0, fun v7 H7 e7 ev7 => ?_⟩
      subst ev7
      have e67 := (e6.to (o := .tup [.int r.2.2, .int p.2]) ht1).trans e7
      refine ⟨_, rfl, itE (fun cf => ?_) fun cf => ?_⟩
      · refine ⟨_, rfl, _, _, _, _, rfl, rfl, e67.sqT hra, rfl, by show 2 ≤ sizeLine; decide, fun t2 ht2 => ?_⟩
        have ex := e67.to (o := .tup [.int r.2.2, .int 0]) ht2
        have n7 : Nk K (upd H7 t2 (.tup [.int r.2.2, .int 0])) (.ref t2) (kNd (stepN S.ft f p r)) := by
          unfold stepN
          rw [if_pos (ofT cf)]
          exact Nk.ofNode (SqT.of upd_same)
        have b1 := a1.trans ex
        have b2 := a2.mono ex
        have b3 := ex _ _ a3
        have b4 := NkA.mono ex _ _ a4
        have b6 := ex _ _ a6
        refine ⟨_, rfl, _, rfl, D, t2, _, xs, rfl, rfl, ⟨.inl b2.at_, b2.key⟩, n7, kNd_depth _, ?_⟩
        rw [b2.keys]
        refine ⟨_, rfl, itE (fun c => ?_) fun c => ?_⟩
        · have hn : stepN S.ft f p r ∉ Ms := fun z => ofnT c ((mem_map_inj kNd_inj).mpr z)
          have a9 := a7.new hn hs
          have nl := bound a9.nd a9.reach
          rw [List.length_append, List.length_singleton] at nl
          have b2l := b2.len
          rw [List.length_map] at b2l
          have lw := b4.length
          rw [List.length_map] at lw
          refine ⟨_, rfl, _, rfl, D, t2, _, xs, rfl, rfl, b2.dw (X := _), n7, kNd_depth _, ?_, ?_⟩
          · refine Nat.lt_of_le_of_lt (show xs.length ≤ 1000 from ?_) (by decide)
            omega
          have c2 := b2.put n7 (kNd_depth _) (fun z => hn ((mem_map_inj kNd_inj).mp z))
          have wD : Wl ≠ D := ne_of b3 b2.at_ (fun z => nomatch z)
          have lD : l5 ≠ D := ne_of b6 b2.at_ (fun z => nomatch z)
          have c4 := (upd_ne (o := DNO P w D (putN xs (kNd (stepN S.ft f p r)) t2 (.bl true))) wD).trans b3
          have c6 := (upd_ne (o := DNO P w D (putN xs (kNd (stepN S.ft f p r)) t2 (.bl true))) lD).trans b6
          refine ⟨_, rfl, .inl ⟨rfl, _, SqL.of c4⟩, _, rfl, Wl, ws, _, rfl, rfl, c4, Nat.lt_of_le_of_lt (show ws.length ≤ 5000 by omega) (by decide), ?_⟩
          have d1 := NkA.append (NkA.other (zs := ws ++ [V.ref t2]) (NkA.put (o := DNO P w D (putN xs (kNd (stepN S.ft f p r)) t2 (.bl true))) b4 b2.at_) c4) (NkA.cons (Nk.upd (o := .lst (ws ++ [V.ref t2])) c4 lst_ne _ _ (Nk.upd (o := DNO P w D (putN xs (kNd (stepN S.ft f p r)) t2 (.bl true))) b2.at_ ext_ne _ _ n7)) NkA.nil)
          rw [show Ws.map kNd ++ [kNd (stepN S.ft f p r)] = (Ws ++ [stepN S.ft f p r]).map kNd by rw [List.map_append]; rfl] at d1
          refine ⟨_, _, _, _, putN xs (kNd (stepN S.ft f p r)) t2 (.bl true), Ms ++ [stepN S.ft f p r], _, Ws ++ [stepN S.ft f p r], rfl, (b1.mut hD).mut hWl0, ?_, upd_same, d1, (upd_ne hlw).trans c6, ?_, ?_⟩
          · rw [List.map_append]
            exact c2.other c4
          · rw [es]
            exact a9
          · rw [List.length_append, List.length_append, List.length_singleton]
            omega
        · have hn : stepN S.ft f p r ∈ Ms := (mem_map_inj kNd_inj).mp (ofnF c)
          refine ⟨_, _, _, _, xs, Ms, ws, Ws, rfl, b1, b2, b3, b4, b6, ?_, a8⟩
          rw [es]
          exact a7.old hn
      · have ex := e67
        have n7 : Nk K H7 (.ref t1) (kNd (stepN S.ft f p r)) := by
          unfold stepN
          rw [if_neg (ofF cf)]
          exact Nk.ofNode (e7.sqT (SqT.of upd_same))
        have b1 := a1.trans ex
        have b2 := a2.mono ex
        have b3 := ex _ _ a3
        have b4 := NkA.mono ex _ _ a4
        have b6 := ex _ _ a6
        refine ⟨_, rfl, _, rfl, D, t1, _, xs, rfl, rfl, ⟨.inl b2.at_, b2.key⟩, n7, kNd_depth _, ?_⟩
        rw [b2.keys]
        refine ⟨_, rfl, itE (fun c => ?_) fun c => ?_⟩
        · have hn : stepN S.ft f p r ∉ Ms := fun z => ofnT c ((mem_map_inj kNd_inj).mpr z)
          have a9 := a7.new hn hs
          have nl := bound a9.nd a9.reach
          rw [List.length_append, List.length_singleton] at nl
          have b2l := b2.len
          rw [List.length_map] at b2l
          have lw := b4.length
          rw [List.length_map] at lw
          refine ⟨_, rfl, _, rfl, D, t1, _, xs, rfl, rfl, b2.dw (X := _), n7, kNd_depth _, ?_, ?_⟩
          · refine Nat.lt_of_le_of_lt (show xs.length ≤ 1000 from ?_) (by decide)
            omega
          have c2 := b2.put n7 (kNd_depth _) (fun z => hn ((mem_map_inj kNd_inj).mp z))
          have wD : Wl ≠ D := ne_of b3 b2.at_ (fun z => nomatch z)
          have lD : l5 ≠ D := ne_of b6 b2.at_ (fun z => nomatch z)
          have c4 := (upd_ne (o := DNO P w D (putN xs (kNd (stepN S.ft f p r)) t1 (.bl true))) wD).trans b3
          have c6 := (upd_ne (o := DNO P w D (putN xs (kNd (stepN S.ft f p r)) t1 (.bl true))) lD).trans b6
          refine ⟨_, rfl, .inl ⟨rfl, _, SqL.of c4⟩, _, rfl, Wl, ws, _, rfl, rfl, c4, Nat.lt_of_le_of_lt (show ws.length ≤ 5000 by omega) (by decide), ?_⟩
          have d1 := NkA.append (NkA.other (zs := ws ++ [V.ref t1]) (NkA.put (o := DNO P w D (putN xs (kNd (stepN S.ft f p r)) t1 (.bl true))) b4 b2.at_) c4) (NkA.cons (Nk.upd (o := .lst (ws ++ [V.ref t1])) c4 lst_ne _ _ (Nk.upd (o := DNO P w D (putN xs (kNd (stepN S.ft f p r)) t1 (.bl true))) b2.at_ ext_ne _ _ n7)) NkA.nil)
          rw [show Ws.map kNd ++ [kNd (stepN S.ft f p r)] = (Ws ++ [stepN S.ft f p r]).map kNd by rw [List.map_append]; rfl] at d1
          refine ⟨_, _, _, _, putN xs (kNd (stepN S.ft f p r)) t1 (.bl true), Ms ++ [stepN S.ft f p r], _, Ws ++ [stepN S.ft f p r], rfl, (b1.mut hD).mut hWl0, ?_, upd_same, d1, (upd_ne hlw).trans c6, ?_, ?_⟩
          · rw [List.map_append]
            exact c2.other c4
          · rw [es]
            exact a9
          · rw [List.length_append, List.length_append, List.length_singleton]
            omega
        · have hn : stepN S.ft f p r ∈ Ms := (mem_map_inj kNd_inj).mp (ofnF c)
          refine ⟨_, _, _, _, xs, Ms, ws, Ws, rfl, b1, b2, b3, b4, b6, ?_, a8⟩
          rw [es]
          exact a7.old hn
    · have hu : lk tab r.2.1 ≠ none := fun z => ofF c (by rw [z]; rfl)
      refine ⟨_, _, _, _, xs, Ms, ws, Ws, rfl, a1.trans e6, a2.mono e6, e6 _ _ a3, NkA.mono e6 _ _ a4, e6 _ _ a6, ?_, a8⟩
      have es := seenN_snoc_s (f := f) (js := (idx S.rows p.1).take i) hr0 hu (ft := S.ft) (x := p)
      rw [← take_next hj] at es
      rw [es]
      exact a7
  · obtain ⟨v10, v12, v13, v14, xs, Ms, ws, Ws, rfl, a1, a2, a3, a4, a6, a7, a8⟩ := p
    rw [List.length_map, List.take_length] at a7
    exact ⟨_, a8, _, _, _, _, _, _, xs, Ms, ws, Ws, rfl, a1, a2, a3, a4, a7.fin fun q hq => seenN_all hq, rfl, Nat.le_trans (Nat.le_of_lt a8) em2⟩
end
end K25
/-! the two parts behind a sight -/
namespace K25
open PySem PySem.Spec PyProof.Rows L2
noncomputable def hitsN (rows : List Row) (ft tab : Tab) (f s : Str) (x : Nd) (js : List Nat) : List Nd := js.filterMap fun j => match rows[j]? with
  | some r => if lk tab r.2.1 = some s then some (stepN ft f x r) else none
  | none => none
theorem hitsN_snoc_y {rows : List Row} {ft tab : Tab} {f s : Str} {x : Nd} {js : List Nat} {j : Nat} {r : Row} (hr : rows[j]? = some r) (hu : lk tab r.2.1 = some s) : hitsN rows ft tab f s x (js ++ [j]) = hitsN rows ft tab f s x js ++ [stepN ft f x r] := by
  unfold hitsN
  rw [List.filterMap_append]
  simp [hr, hu]
theorem hitsN_snoc_n {rows : List Row} {ft tab : Tab} {f s : Str} {x : Nd} {js : List Nat} {j : Nat} {r : Row} (hr : rows[j]? = some r) (hu : lk tab r.2.1 ≠ some s) : hitsN rows ft tab f s x (js ++ [j]) = hitsN rows ft tab f s x js := by
  unfold hitsN
  rw [List.filterMap_append]
  simp [hr, hu]
theorem hitsN_len (rows : List Row) (ft tab : Tab) (f s : Str) (x : Nd) (js : List Nat) : (hitsN rows ft tab f s x js).length ≤ js.length := List.length_filterMap_le _ _
noncomputable def endsN (rows : List Row) (ft tab : Tab) (f s : Str) (E : List Nd) : List Nd := E.flatMap fun p => hitsN rows ft tab f s p (idx rows p.1)
theorem endsN_snoc {rows : List Row} {ft tab : Tab} {f s : Str} {E : List Nd} {p : Nd} : endsN rows ft tab f s (E ++ [p]) = endsN rows ft tab f s E ++ hitsN rows ft tab f s p (idx rows p.1) := by
  unfold endsN
  rw [List.flatMap_append]
  simp
theorem endsN_len (rows : List Row) (ft tab : Tab) (f s : Str) : ∀ E : List Nd, (endsN rows ft tab f s E).length ≤ rows.length * E.length
  | [] => Nat.zero_le _
  | p :: E => by
    have h1 := endsN_len rows ft tab f s E
    have h2 := hitsN_len rows ft tab f s p (idx rows p.1)
    have h3 := idx_len rows p.1
    have e : endsN rows ft tab f s (p :: E) = hitsN rows ft tab f s p (idx rows p.1) ++ endsN rows ft tab f s E := rfl
    rw [e, List.length_append, List.length_cons, Nat.mul_succ]
    omega
/-- the nodes behind a sight -/
def EndN (rows : List Row) (ft tab : Tab) (f s : Str) (I : Nd → Prop) (y : Nd) : Prop := ∃ n, I n ∧ ∃ r ∈ rows, r.1 = n.1 ∧ lk tab r.2.1 = some s ∧ y = stepN ft f n r
theorem endsN_mem {rows : List Row} {ft tab : Tab} {f s : Str} {E : List Nd} {p : Nd} : p ∈ endsN rows ft tab f s E ↔ EndN rows ft tab f s (fun n => n ∈ E) p := by
  unfold endsN hitsN EndN
  rw [List.mem_flatMap]
  constructor
  · rintro ⟨q, hq, h⟩
    obtain ⟨j, hj, e⟩ := List.mem_filterMap.mp h
    obtain ⟨r, hr, e1⟩ := idx_mem.mp hj
    rw [hr] at e
    by_cases c : lk tab r.2.1 = some s
    · simp only [c, if_true] at e
      exact ⟨q, hq, r, List.mem_of_getElem? hr, e1, c, (Option.some.inj e).symm⟩
    · simp only [c, if_false] at e
      cases e
  · rintro ⟨q, hq, r, hr, e1, e2, rfl⟩
    obtain ⟨i, hi, e⟩ := List.getElem_of_mem hr
    have hg : rows[i]? = some r := by rw [List.getElem?_eq_getElem hi, e]
    exact ⟨q, hq, List.mem_filterMap.mpr ⟨i, idx_mem.mpr ⟨r, hg, e1⟩, by simp [hg, e2]⟩⟩
/-- the nodes of an item's first sides -/
def ndU (x : It2) : Nat → List Nd
  | 0 => []
  | 1 => x.1.map fun s => (s, 0)
  | _ => (x.1.map fun s => (s, 0)) ++ x.2.map fun s => (s, 1)
theorem ndU_mem {x : It2} {n : Nd} : n ∈ ndU x 2 ↔ initN x.1 x.2 n := by
  obtain ⟨a, b⟩ := n
  unfold initN
  show (a, b) ∈ (x.1.map fun s => ((s, 0) : Nd)) ++ (x.2.map fun s => ((s, 1) : Nd)) ↔ _
  rw [List.mem_append, List.mem_map, List.mem_map]
  constructor
  · rintro (⟨s, h, e⟩ | ⟨s, h, e⟩)
    · cases e; exact .inl ⟨rfl, h⟩
    · cases e; exact .inr ⟨rfl, h⟩
  · rintro (⟨e, h⟩ | ⟨e, h⟩)
    · simp only at e h; subst e; exact .inl ⟨_, h, rfl⟩
    · simp only at e h; subst e; exact .inr ⟨_, h, rfl⟩
/-- two lists hold what is done -/
structure TwoL (ds : List Nd) (hs ls : List Int) : Prop where
  h : ∀ t, t ∈ hs ↔ (t, 0) ∈ ds
  l : ∀ t, t ∈ ls ↔ (t, 1) ∈ ds
  n : hs.length + ls.length = ds.length
theorem TwoL.addH {ds : List Nd} {hs ls : List Int} (d : TwoL ds hs ls) {y : Nd} (e : y.2 = 0) : TwoL (ds ++ [y]) (hs ++ [y.1]) ls := by
  obtain ⟨y1, y2⟩ := y
  simp only at e
  subst e
  exact ⟨fun t => by simp [d.h], fun t => by simp [d.l], by have := d.n; simp; omega⟩
theorem TwoL.addL {ds : List Nd} {hs ls : List Int} (d : TwoL ds hs ls) {y : Nd} (e : y.2 = 1) : TwoL (ds ++ [y]) hs (ls ++ [y.1]) := by
  obtain ⟨y1, y2⟩ := y
  simp only at e
  subst e
  exact ⟨fun t => by simp [d.h], fun t => by simp [d.l], by have := d.n; simp; omega⟩
theorem TwoL.nil : TwoL [] [] [] := ⟨fun t => by simp, fun t => by simp, rfl⟩
end K25
/-! later_parts -/
namespace K25
open PySem PySem.Spec PyProof.Rows L2
theorem ints_snoc (xs : List Int) (x : Int) : (xs.map V.int) ++ [V.int x] = (xs ++ [x]).map V.int := by rw [List.map_append]; rfl
section
variable {P : Program} {w : World} {K : PySem.W.Frag} {mg : Str → Option Value} {base : Heap}
def sp_later_parts (K : PySem.W.Frag) : Sp := fun vs H Q _ => ∃ m wt S tab, ∃ f : Str, ∃ v, ∃ x : It2, ∃ s : Str, vs = [.ref m, .ref wt, .str f, v, .str s] ∧ MacO K H m S ∧ WatO K H wt tab ∧ Nk K H v (kIt x) ∧
  StC S.rows S.met ∧ (∀ s ∈ x.1, s ∈ S.met) ∧ (∀ s ∈ x.2, s ∈ S.met) ∧ x.1.length ≤ 20 ∧ x.2.length ≤ 20 ∧ Ret H Q fun v H' => ∃ c y, v = .ref c ∧ Nk K H' v (kIt y) ∧ PartsIs S.rows S.ft tab f (EndN S.rows S.ft tab f s (initN x.1 x.2)) y
theorem sc_later_parts : FnScope ["machine", "watch", "fault", "item", "sight", "having", "lacking", "side", "state", "number", "row"] ["machine", "watch", "fault", "item", "sight"] d_later_parts.scope := ⟨rfl, rfl, rfl, by decide +kernel, rfl, by decide +kernel, by decide +kernel⟩
theorem ok_later_parts (T : Tp K mg) : Cal P w K mg base "later_parts" 3 ["machine", "watch", "fault", "item", "sight"] (sp_later_parts K) := by
  refine ⟨_, T.glo 47, ?_⟩
  show Df P w K mg base (d_later_parts.path K) 3 ["machine", "watch", "fault", "item", "sight"] (sp_later_parts K)
  refine T.df 44 (d := d_later_parts) rfl rfl sc_later_parts (fun vs H Q E h => by obtain ⟨_, _, _, _, _, _, _, _, e, _⟩ := h; rw [e]; rfl) (fun _ _ _ _ _ _ us hl => match us, hl with | [_, _, _, _, _], _ => rfl) (fun cdv A outer s H vs Q E hr h => ?_)

  obtain ⟨m, wt, S, tab, f, v, x, s, rfl, hM, hW, hv, sc, h1s, h2s, l1, l2, q⟩ := h
  refine ⟨_, PSs.nox (pss_cons (ps_set (i := 5) sc_later_parts.nd rfl (Or.inl rfl) (pe_lst pa_nil))
      (pss_cons (ps_set (i := 6) sc_later_parts.nd rfl (Or.inl rfl) (pe_lst pa_nil))
      (pss_cons (ps_for PassesOwn.never rfl (pi_tup (pe_tup (pa_cons pe_int (pa_cons pe_int pa_nil)))) (pg_name (i := 7) sc_later_parts.nd rfl (Or.inl rfl))
      (pss_one (ps_for PassesOwn.never rfl (pi_tup (pe_ix ix_tup (pv 3) (pv 7) (fun _ _ => rfl))) (pg_name (i := 8) sc_later_parts.nd rfl (Or.inl rfl))
      (pss_one (ps_for PassesOwn.never rfl (pi_list (pe_cal (ok_steps_from T) hr (by decide) rfl (pa_cons (pv 0) (pa_cons (pv 8) pa_nil)))) (pg_name (i := 9) sc_later_parts.nd rfl (Or.inl rfl))
      (pss_cons (ps_set (i := 10) sc_later_parts.nd rfl (Or.inl rfl) (pe_ix ix_list (pe_fld (pv 0) rfl) (pv 9) (fun _ _ => rfl)))
      (pss_one (ps_if (pt_cmpR op_eq (pe_cal (ok_sight_of T) hr (by decide) rfl (pa_cons (pv 1) (pa_cons (pe_ix ix_tup (pv 10) pe_int (fun _ _ => rfl)) pa_nil))) (pv 4) (nomark _))
      (pss_one (ps_if (PW.pt (pw_or (pt_cmpR op_eq (pv 7) pe_int (nomark _)) (pw_or1 (pt_val (pe_cal (ok_is_fault_step T) hr (by decide) rfl (pa_cons (pv 0) (pa_cons (pv 9) (pa_cons (pv 2) pa_nil))))))))
      (pss_one (ps_expr (pe_bm PySem.F.plainAttrs_list PySem.F.slot_list_append PySem.F.type_list_append mt_append (pv 5) (pa_cons (pe_ix ix_tup (pv 10) pe_int (fun _ _ => rfl)) pa_nil)))) (pss_one (ps_expr (pe_bm PySem.F.plainAttrs_list PySem.F.slot_list_append PySem.F.type_list_append mt_append (pv 6) (pa_cons (pe_ix ix_tup (pv 10) pe_int (fun _ _ => rfl)) pa_nil)))))) pss_nil))))))))
      (pss_one (ps_ret (pe_cal (ok_closed_parts T) hr (by decide) rfl (pa_cons (pv 0) (pa_cons (pv 1) (pa_cons (pv 2) (pa_cons (pv 5) (pa_cons (pv 6) pa_nil))))))))))), ?_⟩
  obtain ⟨ia, ib, ic, rfl, hia, hib, hic⟩ := Nk.item hv
  have few : S.rows.length ≤ 16 := by obtain ⟨A, M⟩ := hM; exact M.ok.few
  refine ⟨by show 0 ≤ sizeLine; decide, fun ah hah => ?_⟩
  refine ⟨by show 0 ≤ sizeLine; decide, fun al hal => ?_⟩
  have n_ah : H ah = none := hah
  have n_al : H al = none := (Ex.new (o := .lst []) hah).free hal
  have dhl : ah ≠ al := ne_of_none (upd_same (H := H) (a := ah) (o := .lst [])) hal
  refine ⟨by show 2 ≤ sizeLine; decide, fun at_ hat => ?_⟩
  have e0 := ((Ex.new (o := .lst []) hah).to (o := .lst []) hal).to (o := .tup [.int 0, .int 1]) hat
  have k1 := ((Ex.new (o := .lst []) hal).to (o := .tup [.int 0, .int 1]) hat) _ _ (upd_same (H := H) (a := ah) (o := .lst []))
  have k2 := (Ex.new (o := .tup [.int 0, .int 1]) hat) _ _ (upd_same (H := upd H ah (.lst [])) (a := al) (o := .lst []))
  have kt := upd_same (H := upd (upd H ah (.lst [])) al (.lst [])) (a := at_) (o := .tup [.int 0, .int 1])
  have dth : at_ ≠ ah := ne_of kt k1 (fun z => nomatch z)
  have dtl : at_ ≠ al := ne_of kt k2 (fun z => nomatch z)
  refine ⟨at_, rfl, ⟨[.int 0, .int 1], SqT.of kt⟩, ?_⟩
  refine for_it (walk_tup (xs := [.int 0, .int 1])) (fun i σ H1 => ∃ v7 v8 v9 v10, ∃ hs ls : List Int, σ = [some (.ref m), some (.ref wt), some (.str f), some (.ref ia), some (.str s), some (.ref ah), some (.ref al), v7, v8, v9, v10] ∧ Ex H H1 ∧ H1 at_ = some (.tup [.int 0, .int 1]) ∧ H1 ah = some (.lst (hs.map V.int)) ∧ H1 al = some (.lst (ls.map V.int)) ∧ TwoL (endsN S.rows S.ft tab f s (ndU x i)) hs ls)
    ⟨_, _, _, _, [], [], rfl, e0, kt, k1, k2, TwoL.nil⟩ (fun i σ H1 _ p => by obtain ⟨v7, v8, v9, v10, hs, ls, rfl, _, h, _⟩ := p; exact SqT.of h) (fun i y σ H1 H2 hi p y' => ?_) (fun σ H1 p => ?_)
  · obtain ⟨v7, v8, v9, v10, hs, ls, rfl, p0, pt, ph, pl, pd⟩ := p
    obtain ⟨rfl, hx⟩ := y'
    have side : ∃ (k : Int) (z : Addr) (L : List Int), y = .int k ∧ k = (i : Nat) ∧ [V.ref ib, V.ref ic][i]? = some (.ref z) ∧ SqT K H z (L.map V.int) ∧ ndU x (i + 1) = ndU x i ++ L.map (fun t => ((t, k) : Nd)) ∧ (k = 0 ∨ k = 1) ∧ L.length ≤ 20 ∧ (ndU x i).length ≤ 20 ∧ ∀ t ∈ L, t ∈ S.met := by
      have hi2 : i < 2 := hi
      rcases i with _ | _ | i
      · cases hx
        exact ⟨0, ib, x.1, rfl, rfl, rfl, hib, rfl, .inl rfl, l1, Nat.zero_le _, h1s⟩
      · cases hx
        exact ⟨1, ic, x.2, rfl, rfl, rfl, hic, rfl, .inr rfl, l2, by show (x.1.map _).length ≤ 20; rw [List.length_map]; exact l1, h2s⟩
      · omega
    obtain ⟨k, z, L, rfl, hk, hz, hzL, hnd, hk01, hL20, hn20, hLm⟩ := side
    refine ⟨_, rfl, _, rfl, _, _, _, _, rfl, rfl, p0.sqT hia, by rw [hk]; exact atI_nat hz, ?_⟩
    refine ⟨z, rfl, ⟨_, p0.sqT hzL⟩, ?_⟩
    refine for_it (walk_tup (xs := L.map V.int)) (fun j σ H1 => ∃ v8 v9 v10, ∃ hs ls : List Int, σ = [some (.ref m), some (.ref wt), some (.str f), some (.ref ia), some (.str s), some (.ref ah), some (.ref al), some (.int k), v8, v9, v10] ∧ Ex H H1 ∧ H1 at_ = some (.tup [.int 0, .int 1]) ∧ H1 ah = some (.lst (hs.map V.int)) ∧ H1 al = some (.lst (ls.map V.int)) ∧ TwoL (endsN S.rows S.ft tab f s (ndU x i ++ (L.take j).map fun t => ((t, k) : Nd))) hs ls)
      ⟨_, _, _, hs, ls, rfl, p0, pt, ph, pl, by rw [List.take_zero, List.map_nil, List.append_nil]; exact pd⟩ (fun j σ H1 _ p => by obtain ⟨v8, v9, v10, hs, ls, rfl, e, _⟩ := p; exact e.sqT hzL) (fun j y σ H1 H3 hj p y' => ?_) (fun σ H1 p => ?_)
    · obtain ⟨v8, v9, v10, hs, ls, rfl, p0, pt, ph, pl, pd⟩ := p
      obtain ⟨rfl, hx⟩ := y'
      rw [List.getElem?_map] at hx
      obtain ⟨t, ht, rfl⟩ := Option.map_eq_some_iff.mp hx
      have jL : j < L.length := (List.getElem?_eq_some_iff.mp ht).1
      refine ⟨_, rfl, _, rfl, m, S, t, rfl, hM.mono p0, fun v5 H5 e5 ⟨l5, ev5, hl5, hf5⟩ => ?_⟩
      subst ev5
      refine ⟨l5, rfl, ⟨_, SqL.of hl5⟩, ?_⟩
      have d5h : l5 ≠ ah := fun z => by rw [z, ph] at hf5; cases hf5
      have d5l : l5 ≠ al := fun z => by rw [z, pl] at hf5; cases hf5
      refine for_it (walk_list (xs := (idx S.rows t).map fun i => V.int (i : Nat))) (fun n σ H1 => ∃ v9 v10, ∃ hs ls : List Int, σ = [some (.ref m), some (.ref wt), some (.str f), some (.ref ia), some (.str s), some (.ref ah), some (.ref al), some (.int k), some (.int t), v9, v10] ∧ Ex H H1 ∧ H1 at_ = some (.tup [.int 0, .int 1]) ∧ H1 ah = some (.lst (hs.map V.int)) ∧ H1 al = some (.lst (ls.map V.int)) ∧ H1 l5 = some (.lst ((idx S.rows t).map fun i => V.int (i : Nat))) ∧ TwoL (endsN S.rows S.ft tab f s (ndU x i ++ (L.take j).map fun t => ((t, k) : Nd)) ++ hitsN S.rows S.ft tab f s (t, k) ((idx S.rows t).take n)) hs ls)
        ⟨_, _, hs, ls, rfl, p0.trans e5, e5 _ _ pt, e5 _ _ ph, e5 _ _ pl, hl5, by rw [List.take_zero]; show TwoL (_ ++ []) hs ls; rw [List.append_nil]; exact pd⟩ (fun n σ H1 _ p => by obtain ⟨v9, v10, hs, ls, rfl, e, _, _, _, h, _⟩ := p; exact SqL.of h) (fun n y σ H1 H4 hn p y' => ?_) (fun σ H1 p => ?_)
      · obtain ⟨v9, v10, hs, ls, rfl, p0, pt, ph, pl, p5, pd⟩ := p
        obtain ⟨rfl, hx⟩ := y'
        rw [List.getElem?_map] at hx
        obtain ⟨j2, hj2, rfl⟩ := Option.map_eq_some_iff.mp hx
        obtain ⟨r, hr0, hr1⟩ := idx_mem.mp (List.mem_of_getElem? hj2)
        obtain ⟨MA, M⟩ := hM.mono p0
        obtain ⟨rvs, hR, nR⟩ := M.rows
        obtain ⟨rv, hrv, nrv⟩ := NkA.get' nR (show (S.rows.map kRow)[j2]? = some (kRow r) by rw [List.getElem?_map, hr0]; rfl)
        obtain ⟨ra, rfl, hra⟩ := Nk.row nrv
        have bnd : hs.length + ls.length ≤ 1000 := by
          have h1 := pd.n
          rw [List.length_append] at h1
          have h2 := endsN_len S.rows S.ft tab f s (ndU x i ++ (L.take j).map fun t => ((t, k) : Nd))
          have h3 := hitsN_len S.rows S.ft tab f s (t, k) ((idx S.rows t).take n)
          have h4 := idx_len S.rows t
          rw [List.length_append, List.length_map, List.length_take] at h2
          rw [List.length_take] at h3
          have h5 : S.rows.length * ((ndU x i).length + min j L.length) ≤ 16 * 40 := Nat.mul_le_mul few (by omega)
          omega
        refine ⟨_, rfl, _, _, _, _, _, rfl, M.at_, T.clsM, T.noM.2.1, rfl, _, rfl, _, _, _, _, rfl, rfl, hR, atI_nat hrv, ?_⟩
        refine ⟨_, rfl, _, rfl, _, _, _, _, rfl, rfl, hra, rfl, wt, tab, r.2.1, rfl, hW.mono p0, fun v8 H8 e8 ev8 => ?_⟩
        subst ev8
        refine ⟨_, rfl, optV_scal _ _, ?_⟩
        rw [optV_dec]
        refine ⟨_, rfl, itE (fun c => ?_) fun c => ?_⟩
        · have hu := ofT c
          have es := hitsN_snoc_y (f := f) (js := (idx S.rows t).take n) hr0 hu (ft := S.ft) (x := (t, k))
          rw [← take_next hj2] at es
          refine ⟨_, rfl, rfl, _, rfl, itE (fun c1 => ?_) fun c1 => ?_⟩
          · have ex := e8
            have hy : (stepN S.ft f (t, k) r).2 = 0 := by
              have h0 : k = 0 := by have h := ofT c1; injection h
              unfold stepN
              simp [h0]
            refine ⟨_, rfl, .inl ⟨rfl, _, SqL.of (ex _ _ ph)⟩, _, rfl, _, _, _, _, rfl, rfl, ex.sqT hra, rfl, ah, _, _, rfl, rfl, ex _ _ ph, Nat.lt_of_le_of_lt (show _ ≤ 2000 by rw [List.length_map]; omega) (by decide), ?_⟩
            refine ⟨_, _, (hs ++ [r.2.2]), ls, rfl, (p0.trans ex).mut n_ah, (upd_ne dth).trans (ex _ _ pt), ?_, (upd_ne dhl.symm).trans (ex _ _ pl), (upd_ne d5h).trans (ex _ _ p5), ?_⟩
            · rw [ints_snoc]
              exact upd_same
            · rw [es, ← List.append_assoc]
              exact pd.addH (y := stepN S.ft f (t, k) r) hy
          · refine ⟨_, rfl, _, rfl, _, rfl, m, S, j2, r, f, rfl, hM.mono (p0.trans e8), hr0, fun v9 H9 e9 ev9 => ?_⟩
            subst ev9
            have ex := e8.trans e9
            refine ⟨_, rfl, itE (fun cf => ?_) fun cf => ?_⟩
            · have hy : (stepN S.ft f (t, k) r).2 = 0 := by
                unfold stepN
                rw [if_pos (ofT cf)]
              refine ⟨_, rfl, .inl ⟨rfl, _, SqL.of (ex _ _ ph)⟩, _, rfl, _, _, _, _, rfl, rfl, ex.sqT hra, rfl, ah, _, _, rfl, rfl, ex _ _ ph, Nat.lt_of_le_of_lt (show _ ≤ 2000 by rw [List.length_map]; omega) (by decide), ?_⟩
              refine ⟨_, _, (hs ++ [r.2.2]), ls, rfl, (p0.trans ex).mut n_ah, (upd_ne dth).trans (ex _ _ pt), ?_, (upd_ne dhl.symm).trans (ex _ _ pl), (upd_ne d5h).trans (ex _ _ p5), ?_⟩
              · rw [ints_snoc]
                exact upd_same
              · rw [es, ← List.append_assoc]
                exact pd.addH (y := stepN S.ft f (t, k) r) hy
            · have hy : (stepN S.ft f (t, k) r).2 = 1 := by
                unfold stepN
                rw [if_neg (ofF cf)]
                rcases hk01 with h | h
                · exact absurd (congrArg V.int h) (ofF c1)
                · exact h
              refine ⟨_, rfl, .inl ⟨rfl, _, SqL.of (ex _ _ pl)⟩, _, rfl, _, _, _, _, rfl, rfl, ex.sqT hra, rfl, al, _, _, rfl, rfl, ex _ _ pl, Nat.lt_of_le_of_lt (show _ ≤ 2000 by rw [List.length_map]; omega) (by decide), ?_⟩
              refine ⟨_, _, hs, (ls ++ [r.2.2]), rfl, (p0.trans ex).mut n_al, (upd_ne dtl).trans (ex _ _ pt), (upd_ne dhl).trans (ex _ _ ph), ?_, (upd_ne d5l).trans (ex _ _ p5), ?_⟩
              · rw [ints_snoc]
                exact upd_same
              · rw [es, ← List.append_assoc]
                exact pd.addL (y := stepN S.ft f (t, k) r) hy
        · refine ⟨_, _, hs, ls, rfl, p0.trans e8, e8 _ _ pt, e8 _ _ ph, e8 _ _ pl, e8 _ _ p5, ?_⟩
          rw [take_next hj2, hitsN_snoc_n hr0 (ofF c)]
          exact pd
      · obtain ⟨v9, v10, hs, ls, rfl, p0, pt, ph, pl, p5, pd⟩ := p
        rw [List.length_map, List.take_length] at pd
        refine ⟨_, _, _, hs, ls, rfl, p0, pt, ph, pl, ?_⟩
        rw [take_next ht, map_snoc, ← List.append_assoc, endsN_snoc]
        exact pd
    · obtain ⟨v8, v9, v10, hs, ls, rfl, p0, pt, ph, pl, pd⟩ := p
      rw [List.length_map, List.take_length, ← hnd] at pd
      exact ⟨_, _, _, _, hs, ls, rfl, p0, pt, ph, pl, pd⟩
  · obtain ⟨v7, v8, v9, v10, hs, ls, rfl, p0, pt, ph, pl, pd⟩ := p
    have pd : TwoL (endsN S.rows S.ft tab f s (ndU x 2)) hs ls := pd
    have bnd : hs.length + ls.length ≤ 900 := by
      have h1 := pd.n
      have h2 := endsN_len S.rows S.ft tab f s (ndU x 2)
      have h3 : (ndU x 2).length = x.1.length + x.2.length := by
        show ((x.1.map fun s => ((s, 0) : Nd)) ++ (x.2.map fun s => ((s, 1) : Nd))).length = _
        rw [List.length_append, List.length_map, List.length_map]
      have h5 : S.rows.length * (ndU x 2).length ≤ 16 * 40 := Nat.mul_le_mul few (by omega)
      omega
    have inM : ∀ y, y ∈ endsN S.rows S.ft tab f s (ndU x 2) → y.1 ∈ S.met := fun y hy => by
      obtain ⟨n, hn, r, hr, e1, _, rfl⟩ := endsN_mem.mp hy
      have hn := ndU_mem.mp hn
      refine sc.cl n.1 ?_ r hr e1
      rcases hn with ⟨_, h⟩ | ⟨_, h⟩
      · exact h1s _ h
      · exact h2s _ h
    refine ⟨_, rfl, _, rfl, _, rfl, _, rfl, _, rfl, m, wt, S, tab, f, ah, al, hs, ls, rfl, hM.mono p0, hW.mono p0, SqL.of ph, SqL.of pl, sc, fun t ht => inM _ ((pd.h t).mp ht), fun t ht => inM _ ((pd.l t).mp ht), by omega, by omega, fun v3 H3 e3 ⟨c, y, ev, ny, py⟩ => ?_⟩
    refine q v3 H3 (p0.trans e3) ⟨c, y, ev, ny, ?_⟩
    have hI : initN hs ls = EndN S.rows S.ft tab f s (initN x.1 x.2) := by
      funext n
      apply propext
      have h0 : EndN S.rows S.ft tab f s (initN x.1 x.2) n ↔ n ∈ endsN S.rows S.ft tab f s (ndU x 2) := by
        rw [endsN_mem]
        unfold EndN
        constructor
        · rintro ⟨n', h, r⟩
          exact ⟨n', ndU_mem.mpr h, r⟩
        · rintro ⟨n', h, r⟩
          exact ⟨n', ndU_mem.mp h, r⟩
      rw [h0]
      obtain ⟨n1, n2⟩ := n
      constructor
      · rintro (⟨e, h⟩ | ⟨e, h⟩)
        · simp only at e h; subst e; exact (pd.h _).mp h
        · simp only at e h; subst e; exact (pd.l _).mp h
      · intro h
        have h2 : n2 = 0 ∨ n2 = 1 := by
          obtain ⟨n', hn', r, _, _, _, e⟩ := endsN_mem.mp h
          have hn' := ndU_mem.mp hn'
          have e2 : n2 = (stepN S.ft f n' r).2 := congrArg Prod.snd e
          rw [e2]
          unfold stepN
          by_cases c : lk S.ft r.2.1 = some f
          · simp [c]
          · simp only [c, if_false]
            exact hn'.imp (fun z => z.1) fun z => z.1
        rcases h2 with rfl | rfl
        · exact .inl ⟨rfl, (pd.h _).mpr h⟩
        · exact .inr ⟨rfl, (pd.l _).mpr h⟩
    rw [← hI]
    exact py
end
end K25
/-! is_veil -/
namespace K25
open PySem PySem.Spec PyProof.Rows L2
theorem srt_lt {xs : List Int} (h : SrtBy .num xs) : xs.Pairwise (· < ·) := by
  unfold SrtBy Srt at h
  rw [List.pairwise_map] at h
  refine h.imp fun {a b} q => ?_
  have q : PySem.W.dataLt (.int a) (.int b) = true := q
  rw [PySem.W.dataLt_int] at q
  exact of_decide_eq_true q
theorem lt_srt {xs : List Int} (h : xs.Pairwise (· < ·)) : SrtBy .num xs := by
  unfold SrtBy Srt
  rw [List.pairwise_map]
  refine h.imp fun {a b} q => ?_
  show PySem.W.dataLt (.int a) (.int b) = true
  rw [PySem.W.dataLt_int]
  exact decide_eq_true q
structure ItOk (S : Sy) (x : It2) : Prop where
  s1 : SrtBy .num x.1
  s2 : SrtBy .num x.2
  m1 : ∀ s ∈ x.1, s ∈ S.met
  m2 : ∀ s ∈ x.2, s ∈ S.met
theorem len_in {xs ys : List Int} (h : SrtBy .num xs) (hm : ∀ x ∈ xs, x ∈ ys) : xs.length ≤ ys.length := nodup_subP num_inj h.nodup hm
section
variable {P : Program} {w : World} {K : PySem.W.Frag} {mg : Str → Option Value} {base : Heap}
def sp_is_veil_item (K : PySem.W.Frag) : Sp := fun vs H Q _ => ∃ m S v x, vs = [.ref m, v] ∧ MacO K H m S ∧ Nk K H v (kIt x) ∧ ItOk S x ∧ S.met.length ≤ 20 ∧ Ret H Q fun v' H' => v' = .bl (decide (0 < x.2.length))
theorem sc_is_veil_item : FnScope ["machine", "item", "states", "part", "state"] ["machine", "item"] d_is_veil_item.scope := ⟨rfl, rfl, rfl, by decide +kernel, rfl, by decide +kernel, by decide +kernel⟩
theorem ok_is_veil_item (T : Tp K mg) : Cal P w K mg base "is_veil_item" 3 ["machine", "item"] (sp_is_veil_item K) := by
  refine ⟨_, T.glo 46, ?_⟩
  show Df P w K mg base (d_is_veil_item.path K) 3 ["machine", "item"] (sp_is_veil_item K)
  refine T.df 43 (d := d_is_veil_item) rfl rfl sc_is_veil_item (fun vs H Q E h => by obtain ⟨_, _, _, _, e, _⟩ := h; rw [e]; rfl) (fun _ _ _ _ _ _ us hl => match us, hl with | [_, _], _ => rfl) (fun cdv A outer s H vs Q E hr h => ?_)

  obtain ⟨m, S, v, x, rfl, hM, hv, ok, hz, q⟩ := h
  refine ⟨_, PSs.nox (pss_cons (ps_if (PW.pt (pw_or (pt_not (pt_val (pe_callB call_isi rfl (T.free 75) boot_isinstance (pa_cons (pv 1) (pa_cons (pe_bltn (v := .ty "tuple") rfl (T.free 80) boot_tuple rfl) pa_nil))))) (pw_or1 (pt_cmpR op_ne (pe_callB call_len_seq rfl (T.free 74) boot_len (pa_cons (pv 1) pa_nil)) pe_int (nomark _)))))
      (pss_one (ps_ret pe_bl)) pss_nil)
      (pss_cons (ps_set (i := 2) sc_is_veil_item.nd rfl (Or.inl rfl) (pe_prp (pv 0) T.clsM T.p_Machine_states (ok_Machine_states T) hr (by decide)))
      (pss_cons (ps_for PassesOwn.never rfl (pi_tup (pv 1)) (pg_name (i := 3) sc_is_veil_item.nd rfl (Or.inl rfl))
      (pss_cons (ps_if (pt_not (pt_val (pe_callB call_isi rfl (T.free 75) boot_isinstance (pa_cons (pv 3) (pa_cons (pe_bltn (v := .ty "tuple") rfl (T.free 80) boot_tuple rfl) pa_nil)))))
      (pss_one (ps_ret pe_bl)) pss_nil)
      (pss_cons (ps_for PassesOwn.never rfl (pi_tup (pv 3)) (pg_name (i := 4) sc_is_veil_item.nd rfl (Or.inl rfl))
      (pss_one (ps_if (PW.pt (pw_or (pt_not (pt_val (pe_cal (ok_is_integer T) hr (by decide) rfl (pa_cons (pv 4) pa_nil)))) (pw_or1 (pt_cmpR (op_notInK hr) (pv 4) (pv 2) (by with_unfolding_all rfl)))))
      (pss_one (ps_ret pe_bl)) pss_nil)))
      (pss_one (ps_if (pt_not (pt_val (pe_cal (ok_is_ascending T) hr (by decide) rfl (pa_cons (pv 3) pa_nil))))
      (pss_one (ps_ret pe_bl)) pss_nil)))))
      (pss_one (ps_ret (pe_cmpR op_gt (pe_callB call_len_seq rfl (T.free 74) boot_len (pa_cons (pe_ix ix_tup (pv 1) pe_int (fun _ _ => rfl)) pa_nil)) pe_int (nomark _))))))), ?_⟩
  obtain ⟨ia, ib, ic, rfl, hia, hib, hic⟩ := Nk.item hv
  have L1 := len_in ok.s1 ok.m1
  have L2 := len_in ok.s2 ok.m2
  refine ⟨_, rfl, .ref ia, .ty "tuple", _, _, true, rfl, .ty _, tyx_T hia, kit_ty (by decide +kernel), true, rfl, ?_⟩
  refine iteF ?_
  refine ⟨_, rfl, ia, _, rfl, .inr hia, rfl, _, rfl, ?_⟩
  refine itF rfl ?_
  obtain ⟨MA0, M0⟩ := id hM
  refine ⟨_, rfl, m, _, _, rfl, M0.at_, m, S, rfl, hM, fun v1 H1 e1 ⟨lm, ev, hlm⟩ => ?_⟩
  subst ev
  refine ⟨_, rfl, ia, rfl, ⟨_, e1.sqT hia⟩, ?_⟩
  refine for_it (walk_tup (xs := [.ref ib, .ref ic])) (fun i σ H2 => ∃ v3 v4, σ = [some (.ref m), some (.ref ia), some (.ref lm), v3, v4] ∧ Ex H1 H2) ⟨_, _, rfl, Ex.refl _⟩ (fun i σ H2 _ p => by obtain ⟨v3, v4, rfl, e⟩ := p; exact (e1.trans e).sqT hia) (fun i y σ H2 H3 hi p y' => ?_) (fun σ H2 p => ?_)
  · obtain ⟨v3, v4, rfl, e2⟩ := p
    obtain ⟨rfl, hx⟩ := y'
    have side : ∃ (z : Addr) (L : List Int), y = .ref z ∧ SqT K H z (L.map V.int) ∧ L.Pairwise (· < ·) ∧ (∀ t ∈ L, t ∈ S.met) ∧ L.length ≤ S.met.length := by
      have hi2 : i < 2 := hi
      rcases i with _ | _ | i
      · cases hx
        exact ⟨ib, x.1, rfl, hib, srt_lt ok.s1, ok.m1, L1⟩
      · cases hx
        exact ⟨ic, x.2, rfl, hic, srt_lt ok.s2, ok.m2, L2⟩
      · omega
    obtain ⟨z, L, rfl, hzL, hp, hm, hl⟩ := side
    have e12 := e1.trans e2
    refine ⟨_, rfl, .ref z, .ty "tuple", _, _, true, rfl, .ty _, tyx_T (e12.sqT hzL), kit_ty (by decide +kernel), true, rfl, ?_⟩
    refine iteF ?_
    refine ⟨_, rfl, z, rfl, ⟨_, e12.sqT hzL⟩, ?_⟩
    refine for_it (walk_tup (xs := L.map V.int)) (fun j σ H4 => ∃ v4, σ = [some (.ref m), some (.ref ia), some (.ref lm), some (.ref z), v4] ∧ Ex H1 H4) ⟨_, rfl, e2⟩ (fun j σ H4 _ p => by obtain ⟨v4, rfl, e⟩ := p; exact (e1.trans e).sqT hzL) (fun j y σ H4 H5 hj p y' => ?_) (fun σ H4 p => ?_)
    · obtain ⟨v4, rfl, e4⟩ := p
      obtain ⟨rfl, hx⟩ := y'
      rw [List.getElem?_map] at hx
      obtain ⟨t, ht, rfl⟩ := Option.map_eq_some_iff.mp hx
      refine ⟨_, rfl, t, rfl, fun v5 H6 e6 ev => ?_⟩
      subst ev
      refine ⟨_, rfl, iteF ?_⟩
      refine ⟨_, rfl, _, rfl, lm, .num t, S.met.map .num, rfl, .num t, SqK.l (SqL.of ((e4.trans e6) _ _ hlm)) (NkA.ints _), Nat.zero_le _, _, rfl, ?_⟩
      refine itF (nF ((mem_map_inj num_inj).mpr (hm t (List.mem_of_getElem? ht)))) ?_
      exact ⟨_, rfl, e4.trans e6⟩
    · obtain ⟨v4, rfl, e4⟩ := p
      refine ⟨_, rfl, z, L, rfl, (e1.trans e4).sqT hzL, hp, by omega, fun v5 H6 e6 ev => ?_⟩
      subst ev
      refine ⟨_, rfl, iteF ?_⟩
      exact ⟨_, _, rfl, e4.trans e6⟩
  · obtain ⟨v3, v4, rfl, e2⟩ := p
    have e12 := e1.trans e2
    refine ⟨_, rfl, _, _, _, _, rfl, rfl, e12.sqT hia, rfl, ic, _, rfl, .inr (e12.sqT hic), ?_⟩
    refine ⟨_, _, rfl, rfl, ?_⟩
    refine q.of e12 (congrArg V.bl ?_)
    rw [List.length_map, Bool.eq_iff_iff, decide_eq_true_eq, decide_eq_true_eq]
    omega
/-- what is_veil asks -/
def IsVeil (S : Sy) (tab : Tab) (f : Str) (X : List It2) : Prop := (∀ x ∈ X, x.2 ≠ []) ∧ (∀ y, PartsIs S.rows S.ft tab f (initN [] [S.st]) y → y ∈ X) ∧
  ∀ x ∈ X, ∀ s ∈ nmsOf tab, ∀ y, PartsIs S.rows S.ft tab f (EndN S.rows S.ft tab f s (initN x.1 x.2)) y → y = ([], []) ∨ y ∈ X
def sp_is_veil (K : PySem.W.Frag) : Sp := fun vs H Q _ => ∃ m wt S tab, ∃ f : Str, ∃ a us, ∃ X : List It2, vs = [.ref m, .ref wt, .str f, .ref a] ∧ MacO K H m S ∧ WatO K H wt tab ∧ SqL K H a us ∧ NkA K H us (X.map kIt) ∧ (∀ x ∈ X, ItOk S x) ∧
  StC S.rows S.met ∧ S.st ∈ S.met ∧ X.length < 1000 ∧ f ∈ nmsOf S.ft ∧ Ret H Q fun v H' => ∃ b, v = .bl b ∧ (b = true ↔ IsVeil S tab f X)
theorem sc_is_veil : FnScope ["machine", "watch", "fault", "thing", "listed", "item", "sights", "sight", "later"] ["machine", "watch", "fault", "thing"] d_is_veil.scope := ⟨rfl, rfl, rfl, by decide +kernel, rfl, by decide +kernel, by decide +kernel⟩
theorem ok_is_veil (T : Tp K mg) : Cal P w K mg base "is_veil" 4 ["machine", "watch", "fault", "thing"] (sp_is_veil K) := by
  refine ⟨_, T.glo 45, ?_⟩
  show Df P w K mg base (d_is_veil.path K) 4 ["machine", "watch", "fault", "thing"] (sp_is_veil K)
  refine T.df 42 (d := d_is_veil) rfl rfl sc_is_veil (fun vs H Q E h => by obtain ⟨_, _, _, _, _, _, _, _, e, _⟩ := h; rw [e]; rfl) (fun _ _ _ _ _ _ us hl => match us, hl with | [_, _, _, _], _ => rfl) (fun cdv A outer s H vs Q E hr h => ?_)

  obtain ⟨m, wt, S, tab, f, a, us, X, rfl, hM, hW, ha, na, ok, sc, hst, hz, hf, q⟩ := h
  refine ⟨_, PSs.nox (pss_cons (ps_expr (pe_cal (ok_check_watch T) hr (by decide) rfl (pa_cons (pv 1) pa_nil)))
      (pss_cons (ps_expr (pe_cal (ok_check_fault T) hr (by decide) rfl (pa_cons (pv 0) (pa_cons (pv 2) pa_nil))))
      (pss_cons (ps_if (pt_not (pt_val (pe_callB call_isi rfl (T.free 75) boot_isinstance (pa_cons (pv 3) (pa_cons (pe_bltn (v := .ty "list") rfl (T.free 77) boot_list rfl) pa_nil)))))
      (pss_one (ps_ret pe_bl)) pss_nil)
      (pss_cons (ps_set (i := 4) sc_is_veil.nd rfl (Or.inl rfl) pe_newN)
      (pss_cons (ps_for PassesOwn.never rfl (pi_list (pv 3)) (pg_name (i := 5) sc_is_veil.nd rfl (Or.inl rfl))
      (pss_cons (ps_if (pt_not (pt_val (pe_cal (ok_is_veil_item T) hr (by decide) rfl (pa_cons (pv 0) (pa_cons (pv 5) pa_nil)))))
      (pss_one (ps_ret pe_bl)) pss_nil)
      (pss_one (ps_asg pe_bl (pg_sub (pv 4) (pv 5) (set_N hr))))))
      (pss_cons (ps_if (pt_cmpR (op_notInN hr) (pe_cal (ok_closed_parts T) hr (by decide) rfl (pa_cons (pv 0) (pa_cons (pv 1) (pa_cons (pv 2) (pa_cons (pe_lst pa_nil) (pa_cons (pe_lst (pa_cons (pe_prp (pv 0) T.clsM T.p_Machine_start (ok_Machine_start T) hr (by decide)) pa_nil)) pa_nil)))))) (pv 4) (by with_unfolding_all rfl))
      (pss_one (ps_ret pe_bl)) pss_nil)
      (pss_cons (ps_set (i := 6) sc_is_veil.nd rfl (Or.inl rfl) (pe_prp (pv 1) T.clsW T.p_Watch_sights (ok_Watch_sights T) hr (by decide)))
      (pss_cons (ps_for PassesOwn.never rfl (pi_keysN (pv 4)) (pg_name (i := 5) sc_is_veil.nd rfl (Or.inl rfl))
      (pss_one (ps_for PassesOwn.never rfl (pi_list (pv 6)) (pg_name (i := 7) sc_is_veil.nd rfl (Or.inl rfl))
      (pss_cons (ps_set (i := 8) sc_is_veil.nd rfl (Or.inl rfl) (pe_cal (ok_later_parts T) hr (by decide) rfl (pa_cons (pv 0) (pa_cons (pv 1) (pa_cons (pv 2) (pa_cons (pv 5) (pa_cons (pv 7) pa_nil)))))))
      (pss_one (ps_if (PW.pt (pw_and (pt_cmpR (op_neK hr) (pv 8) (pe_tup (pa_cons (pe_tup pa_nil) (pa_cons (pe_tup pa_nil) pa_nil))) (nomark _)) (pw_and1 (pt_cmpR (op_notInN hr) (pv 8) (pv 4) (by with_unfolding_all rfl)))))
      (pss_one (ps_ret pe_bl)) pss_nil))))))
      (pss_one (ps_ret pe_bl)))))))))), ?_⟩
  refine ⟨_, rfl, wt, tab, rfl, hW, fun v1 H1 e1 _ => ?_⟩
  refine ⟨_, rfl, _, rfl, m, S, f, rfl, hM.mono e1, hf, fun v2 H2 e2 _ => ?_⟩
  have e12 := e1.trans e2
  refine ⟨_, rfl, .ref a, .ty "list", _, _, true, rfl, .ty _, tyx_L (e12.sqL ha), kit_ty (by decide +kernel), true, rfl, ?_⟩
  refine iteF ?_
  refine fun D hD => ?_
  have hD0 := e12.free hD
  have e3 := e12.to (o := DNO P w D []) hD
  refine ⟨_, rfl, a, rfl, ⟨_, e3.sqL ha⟩, ?_⟩
  refine for_it (walk_list (xs := us)) (fun i σ H3 => ∃ v5, ∃ xs : List NE, σ = [some (.ref m), some (.ref wt), some (.str f), some (.ref a), some (.ref D), v5, none, none, none] ∧ Ex H H3 ∧ MetD P w K H3 D ((insAll [] (X.take i)).map kIt) xs ∧ ∀ x ∈ X.take i, x.2 ≠ [])
    ⟨_, [], rfl, e3, MetD.new, fun x h => by simp at h⟩ (fun i σ H3 _ p => by obtain ⟨v5, xs, rfl, e, _⟩ := p; exact e.sqL ha) (fun i y σ H3 H4 hi p y' => ?_) (fun σ H3 p => ?_)
  · obtain ⟨v5, xs, rfl, e3, M, hX⟩ := p
    obtain ⟨rfl, hx⟩ := y'
    obtain ⟨k, hk, nk⟩ := NkA.get na hx
    rw [List.getElem?_map] at hk
    obtain ⟨x, hxX, rfl⟩ := Option.map_eq_some_iff.mp hk
    have hmem := List.mem_of_getElem? hxX
    refine ⟨_, rfl, _, rfl, m, S, _, x, rfl, hM.mono e3, Nk.mono e3 _ _ nk, ok x hmem, sc.few, fun v6 H6 e6 ev => ?_⟩
    subst ev
    refine ⟨_, rfl, itE (fun c => ?_) fun c => ?_⟩
    · refine q.of (e3.trans e6) ⟨false, rfl, fun z => (nomatch z), fun z => ?_⟩
      have h0 := z.1 x hmem
      have h1 := ofnT c
      cases hx2 : x.2 with
      | nil => exact absurd hx2 h0
      | cons p r => rw [hx2] at h1; exact absurd (Nat.succ_pos _) h1
    · have h2 : x.2 ≠ [] := fun z => by have h := ofnF c; rw [z] at h; exact absurd h (Nat.lt_irrefl 0)
      have M6 := M.mono e6
      obtain ⟨ia, ib, ic, ei, _, _, _⟩ := Nk.item nk
      have nk6 := Nk.mono (e3.trans e6) _ _ nk
      rw [ei] at nk6
      have hlm := M6.len
      have l2 := insAll_len (X.take i) []
      rw [List.length_map] at hlm
      rw [List.length_take] at l2
      simp only [List.length_nil] at l2
      refine ⟨_, rfl, _, rfl, D, ia, _, xs, rfl, ei, ⟨M6.at_, M6.key⟩, nk6, kIt_depth _, Nat.lt_of_le_of_lt (show xs.length ≤ 1000 by omega) (by decide), ?_⟩
      have hM7 := M6.putI nk6 (kIt_depth _)
      have e7 : insK ((insAll [] (X.take i)).map kIt) (kIt x) = (insAll [] (X.take (i + 1))).map kIt := by
        rw [take_next hxX, insAll_snoc]
        exact insAll_map kIt_inj [x] _
      rw [e7] at hM7
      refine ⟨_, _, rfl, (e3.trans e6).mut hD0, hM7, fun z hz => ?_⟩
      rw [take_next hxX] at hz
      rcases List.mem_append.mp hz with hz | hz
      · exact hX z hz
      · rw [List.mem_singleton.mp hz]
        exact h2
  obtain ⟨v5, xs, rfl, e3, M, hX⟩ := p
  rw [na.length, List.length_map, List.take_length] at M hX
  have inX : ∀ y, y ∈ insAll [] X ↔ y ∈ X := fun y => by rw [insAll_mem]; simp
  have inD : ∀ y, kIt y ∈ xs.map (·.1) ↔ y ∈ X := fun y => by rw [M.keys, mem_map_inj kIt_inj, inX]
  refine ⟨_, rfl, _, rfl, _, rfl, by show 0 ≤ sizeLine; decide, fun lh hlh => ?_⟩
  have e4 := e3.to (o := .lst []) hlh
  obtain ⟨MA0, M0⟩ := hM.mono e4
  refine ⟨_, rfl, m, _, _, rfl, M0.at_, m, S, rfl, ⟨MA0, M0⟩, fun v5 H5 e5 ev => ?_⟩
  subst ev
  refine ⟨by show 1 ≤ sizeLine; decide, fun ll hll => ?_⟩
  have e6 := (e4.trans e5).to (o := .lst [.int S.st]) hll
  refine ⟨m, wt, S, tab, f, lh, ll, [], [S.st], rfl, hM.mono e6, hW.mono e6, SqL.of ((e5.to hll) _ _ upd_same), SqL.of upd_same, sc, fun s h => by simp at h, fun s h => by rw [List.mem_singleton.mp h]; exact hst, by show 0 < 1000; decide, by show 1 < 1000; decide, fun v7 H7 e7 ⟨c7, y7, ev, n7, p7⟩ => ?_⟩
  subst ev
  have eM := ((Ex.new (o := .lst []) hlh).trans e5).to (o := .lst [.int S.st]) hll
  have M7 := (M.mono eM).mono e7
  refine ⟨_, rfl, D, c7, _, xs, rfl, rfl, ⟨.inl M7.at_, M7.key⟩, n7, kIt_depth _, ?_⟩
  refine ⟨_, rfl, itE (fun c => ?_) fun c => ?_⟩
  · refine q.of (e6.trans e7) ⟨false, rfl, fun z => (nomatch z), fun z => ?_⟩
    exact absurd ((inD y7).mpr (z.2.1 y7 p7)) (ofnT c)
  have hfirst := (inD y7).mp (ofnF c)
  have e67 := e6.trans e7
  obtain ⟨dx0, t0, hW0, hW1, hW2⟩ := hW.mono e67
  refine ⟨_, rfl, wt, _, _, rfl, hW0, wt, tab, rfl, ⟨dx0, t0, hW0, hW1, hW2⟩, fun v8 H8 e8 ⟨lS, ev, hS⟩ => ?_⟩
  subst ev
  have M8 := M7.mono e8
  have e78 := e67.trans e8
  refine ⟨_, rfl, D, xs, rfl, .inl M8.at_, fun od => ?_⟩
  have dSD : lS ≠ D := ne_of hS M8.at_ (fun z => nomatch z)
  have hSF := (upd_ne (o := .frz od (DNO P w D xs)) dSD).trans hS
  have eF : Ex H (upd H8 D (.frz od (DNO P w D xs))) := e78.mut hD0
  have nth : ∀ {i : Nat} {e : NE}, xs[i]? = some e → ∃ x, x ∈ X ∧ (insAll [] X)[i]? = some x ∧ Nk K (upd H8 D (.frz od (DNO P w D xs))) (.ref e.2.1) (kIt x) := fun {i e} he => by
    have q := (M8.key e (List.mem_of_getElem? he)).1
    have h : (xs.map (·.1))[i]? = some e.1 := by rw [List.getElem?_map, he]; rfl
    rw [M8.keys, List.getElem?_map] at h
    obtain ⟨x, hx, ex⟩ := Option.map_eq_some_iff.mp h
    exact ⟨x, (inX x).mp (List.mem_of_getElem? hx), hx, Nk.upd M8.at_ ext_ne _ _ (by rw [ex]; exact q)⟩
  have keyF : ∀ x ∈ xs, Nk K (upd H8 D (.frz od (DNO P w D xs))) (.ref x.2.1) x.1 ∧ x.1.depth ≤ 8 := fun x hx => ⟨Nk.upd M8.at_ ext_ne _ _ (M8.key x hx).1, (M8.key x hx).2⟩
  let Cl := fun (x : It2) (s : Str) => ∀ y, PartsIs S.rows S.ft tab f (EndN S.rows S.ft tab f s (initN x.1 x.2)) y → y = ([], []) ∨ y ∈ X
  refine for_keysN (fun i σ H9 => ∃ v5 v7 v8, σ = [some (.ref m), some (.ref wt), some (.str f), some (.ref a), some (.ref D), v5, some (.ref lS), v7, v8] ∧ Ex (upd H8 D (.frz od (DNO P w D xs))) H9 ∧ ∀ x ∈ (insAll [] X).take i, ∀ s ∈ nmsOf tab, Cl x s)
    ⟨_, _, _, rfl, Ex.refl _, fun x h => by simp at h⟩ (fun i σ H9 p => by obtain ⟨v5, v7, v8, rfl, e, _⟩ := p; exact e _ _ upd_same) (fun i e σ H9 he p => ?_) (fun σ H9 p => ?_)
  · obtain ⟨v5, v7, v8, rfl, e9, hC⟩ := p
    obtain ⟨x, hxX, hxi, nk⟩ := nth he
    have okx := ok x hxX
    refine ⟨_, rfl, lS, rfl, ⟨_, SqL.of (e9 _ _ hSF)⟩, ?_⟩
    refine for_it (walk_list (xs := (nmsOf tab).map V.str)) (fun j σ H10 => ∃ v7 v8, σ = [some (.ref m), some (.ref wt), some (.str f), some (.ref a), some (.ref D), some (.ref e.2.1), some (.ref lS), v7, v8] ∧ Ex (upd H8 D (.frz od (DNO P w D xs))) H10 ∧ ∀ s ∈ (nmsOf tab).take j, Cl x s)
      ⟨_, _, rfl, e9, fun s h => by simp at h⟩ (fun j σ H10 _ p => by obtain ⟨v7, v8, rfl, e, _⟩ := p; exact SqL.of (e _ _ hSF)) (fun j y σ H10 H11 hj p y' => ?_) (fun σ H10 p => ?_)
    · obtain ⟨v7, v8, rfl, e10, hj2⟩ := p
      obtain ⟨rfl, hx⟩ := y'
      rw [List.getElem?_map] at hx
      obtain ⟨s, hs, rfl⟩ := Option.map_eq_some_iff.mp hx
      have hsm := List.mem_of_getElem? hs
      have ea := eF.trans e10
      refine ⟨_, rfl, _, rfl, _, rfl, _, rfl, _, rfl, m, wt, S, tab, f, _, x, s, rfl, hM.mono ea, hW.mono ea, Nk.mono e10 _ _ nk, sc, okx.m1, okx.m2, Nat.le_trans (len_in okx.s1 okx.m1) sc.few, Nat.le_trans (len_in okx.s2 okx.m2) sc.few, fun v12 H12 e12' ⟨c12, y12, ev, n12, p12⟩ => ?_⟩
      subst ev
      refine ⟨_, rfl, by show 0 ≤ sizeLine; decide, fun t1 ht1 => ?_⟩
      refine ⟨by show 0 ≤ sizeLine; decide, fun t2 ht2 => ?_⟩
      refine ⟨by show 2 ≤ sizeLine; decide, fun t3 ht3 => ?_⟩
      have eT := ((Ex.new (o := .tup []) ht1).to (o := .tup []) ht2).to (o := .tup [.ref t1, .ref t2]) ht3
      have nT : Nk K (upd (upd (upd H12 t1 (.tup [])) t2 (.tup [])) t3 (.tup [.ref t1, .ref t2])) (.ref t3) (kIt ([], [])) := Nk.ofItem (x := ([], [])) (SqT.of upd_same) (((Ex.new ht2).to ht3).sqT (SqT.of upd_same)) ((Ex.new ht3).sqT (SqT.of upd_same))
      refine ⟨_, _, Nk.mono eT _ _ n12, nT, Nat.le_trans (kIt_depth _) (by decide), ?_⟩
      have eb := (e10.trans e12').trans eT
      refine ⟨_, rfl, itE (fun c => ?_) fun c => ?_⟩
      · have hne : y12 ≠ ([], []) := fun z => ofnT c (by rw [z])
        refine ⟨_, rfl, _, rfl, D, c12, _, xs, rfl, rfl, ⟨.inr ⟨od, eb _ _ upd_same⟩, fun x hx => ⟨Nk.mono eb _ _ (keyF x hx).1, (keyF x hx).2⟩⟩, Nk.mono eT _ _ n12, kIt_depth _, ?_⟩
        refine ⟨_, rfl, itE (fun c2 => ?_) fun c2 => ?_⟩
        · refine q.of (eF.trans eb) ⟨false, rfl, fun z => (nomatch z), fun z => ?_⟩
          rcases z.2.2 x hxX s hsm y12 p12 with h | h
          · exact absurd h hne
          · exact absurd ((inD y12).mpr h) (ofnT c2)
        · refine ⟨_, _, rfl, eb, fun z hz y hy => ?_⟩
          rw [take_next hs] at hz
          rcases List.mem_append.mp hz with hz | hz
          · exact hj2 z hz y hy
          · rw [List.mem_singleton.mp hz] at hy
            rw [hy.ext p12]
            exact .inr ((inD y12).mp (ofnF c2))
      · have heq : y12 = ([], []) := kIt_inj _ _ (ofnF c)
        refine iteF ?_
        refine ⟨_, _, rfl, eb, fun z hz y hy => ?_⟩
        rw [take_next hs] at hz
        rcases List.mem_append.mp hz with hz | hz
        · exact hj2 z hz y hy
        · rw [List.mem_singleton.mp hz] at hy
          rw [hy.ext p12]
          exact .inl heq
    · obtain ⟨v7, v8, rfl, e10, hj2⟩ := p
      rw [List.length_map, List.take_length] at hj2
      refine ⟨_, _, _, rfl, e10, fun z hz => ?_⟩
      rw [take_next hxi] at hz
      rcases List.mem_append.mp hz with hz | hz
      · exact hC z hz
      · rw [List.mem_singleton.mp hz]
        exact hj2
  · obtain ⟨v5, v7, v8, rfl, e9, hC⟩ := p
    have hlen : xs.length = (insAll [] X).length := by have h := M.len; rw [List.length_map] at h; exact h
    rw [hlen, List.take_length] at hC
    refine q.of (eF.trans e9) ⟨true, rfl, fun _ => ⟨hX, fun y hy => by rw [hy.ext p7]; exact hfirst, fun x hx s hs y hy => hC x ((inX x).mpr hx) s hs y hy⟩, fun _ => rfl⟩
end
end K25
/-! pairs seen as nodes; veils -/
namespace K25
open PySem PySem.Spec PyProof.Rows L2
def prj (f : Str) (p : Pr) : Nd := (p.1, if f ∈ p.2 then 0 else 1)
/-- the nodes of pairs -/
def ImN (f : Str) (I : Pr → Prop) (y : Nd) : Prop := ∃ p, I p ∧ prj f p = y
theorem behind_mem {ft : Tab} {p : Pr} {r : Row} {f : Str} : f ∈ (behind ft p r).2 ↔ lk ft r.2.1 = some f ∨ f ∈ p.2 := by
  unfold behind
  cases h : lk ft r.2.1 with
  | none => simp
  | some n =>
    by_cases c : n ∈ p.2
    · simp only [c, if_true]
      constructor
      · exact .inr
      · rintro (e | e)
        · cases e; exact c
        · exact e
    · simp only [c, if_false]
      rw [srtBy_mem, List.mem_append, List.mem_singleton]
      constructor
      · rintro (e | e)
        · exact .inr e
        · subst e; exact .inl rfl
      · rintro (e | e)
        · cases e; exact .inr rfl
        · exact .inl e
theorem prj_behind {ft : Tab} {p : Pr} {r : Row} {f : Str} : prj f (behind ft p r) = stepN ft f (prj f p) r := by
  unfold prj stepN
  refine Prod.ext rfl ?_
  show (if f ∈ (behind ft p r).2 then (0 : Int) else 1) = if lk ft r.2.1 = some f then 0 else if f ∈ p.2 then 0 else 1
  by_cases c1 : lk ft r.2.1 = some f
  · rw [if_pos (behind_mem.mpr (.inl c1)), if_pos c1]
  · by_cases c2 : f ∈ p.2
    · rw [if_pos (behind_mem.mpr (.inr c2)), if_neg c1, if_pos c2]
    · rw [if_neg (fun z => (behind_mem.mp z).elim c1 c2), if_neg c1, if_neg c2]
section
variable {rows : List Row} {ft tab : Tab} {U : List Pr} {f s : Str} {I : Pr → Prop} {E : List Pr}
theorem prj_succ {p q : Pr} (h : q ∈ succP rows ft tab p) : prj f q ∈ succN rows ft tab f (prj f p) := by
  obtain ⟨r, hr, e1, e2, rfl⟩ := mem_succP.mp h
  exact mem_succN.mpr ⟨r, hr, e1, e2, prj_behind⟩
theorem succ_lift {p : Pr} {y : Nd} (h : y ∈ succN rows ft tab f (prj f p)) : ∃ q ∈ succP rows ft tab p, prj f q = y := by
  obtain ⟨r, hr, e1, e2, rfl⟩ := mem_succN.mp h
  exact ⟨behind ft p r, mem_succP.mpr ⟨r, hr, e1, e2, rfl⟩, prj_behind⟩
theorem clo_prj {p : Pr} (h : Clo rows ft tab I p) : CloN rows ft tab f (ImN f I) (prj f p) := by
  induction h with
  | base i => exact .base ⟨_, i, rfl⟩
  | step _ m ih => exact .step ih (prj_succ m)
theorem clo_lift {y : Nd} (h : CloN rows ft tab f (ImN f I) y) : ∃ p, Clo rows ft tab I p ∧ prj f p = y := by
  induction h with
  | base i => obtain ⟨p, hp, e⟩ := i; exact ⟨p, .base hp, e⟩
  | step _ m ih =>
    obtain ⟨p, hp, e⟩ := ih
    rw [← e] at m
    obtain ⟨q, hq, e2⟩ := succ_lift m
    exact ⟨q, .step hp hq, e2⟩
theorem split_mem1 {x : Int} : x ∈ (splitE f E).1 ↔ ∃ p ∈ E, prj f p = (x, 0) := by
  show x ∈ sset ((hav f E).map (·.1)) ↔ _
  rw [sset_mem, List.mem_map]
  unfold hav prj
  constructor
  · rintro ⟨p, hp, rfl⟩
    obtain ⟨h1, h2⟩ := List.mem_filter.mp hp
    exact ⟨p, h1, by rw [if_pos (ofT h2)]⟩
  · rintro ⟨p, hp, e⟩
    injection e with e1 e2
    by_cases c : f ∈ p.2
    · exact ⟨p, List.mem_filter.mpr ⟨hp, dT c⟩, e1⟩
    · rw [if_neg c] at e2; cases e2
theorem split_mem2 {x : Int} : x ∈ (splitE f E).2 ↔ ∃ p ∈ E, prj f p = (x, 1) := by
  show x ∈ sset ((lac f E).map (·.1)) ↔ _
  rw [sset_mem, List.mem_map]
  unfold lac prj
  constructor
  · rintro ⟨p, hp, rfl⟩
    obtain ⟨h1, h2⟩ := List.mem_filter.mp hp
    exact ⟨p, h1, by rw [if_neg (ofnT h2)]⟩
  · rintro ⟨p, hp, e⟩
    injection e with e1 e2
    by_cases c : f ∈ p.2
    · rw [if_pos c] at e2; cases e2
    · exact ⟨p, List.mem_filter.mpr ⟨hp, nT c⟩, e1⟩
theorem init_split (y : Nd) : initN (splitE f E).1 (splitE f E).2 y ↔ ImN f (fun p => p ∈ E) y := by
  obtain ⟨a, b⟩ := y
  unfold initN ImN
  constructor
  · rintro (⟨e, h⟩ | ⟨e, h⟩)
    · simp only at e h; subst e; exact split_mem1.mp h
    · simp only at e h; subst e; exact split_mem2.mp h
  · rintro ⟨p, hp, e⟩
    have e2 := e
    unfold prj at e2
    injection e2 with e1 e2
    by_cases c : f ∈ p.2
    · rw [if_pos c] at e2
      subst e2
      exact .inl ⟨rfl, split_mem1.mpr ⟨p, hp, e⟩⟩
    · rw [if_neg c] at e2
      subst e2
      exact .inr ⟨rfl, split_mem2.mpr ⟨p, hp, e⟩⟩
theorem PartsIs.congr {I J : Nd → Prop} (h : ∀ y, I y ↔ J y) {x : It2} (p : PartsIs rows ft tab f I x) : PartsIs rows ft tab f J x := by
  have e : I = J := funext fun y => propext (h y)
  rw [← e]
  exact p
theorem split_parts (u : Uni rows ft U) (h : ∀ p, I p → p ∈ U) : PartsIs rows ft tab f (ImN f I) (splitE f (cloL rows ft tab U I)) where
  s1 := sset_srt _
  s2 := sset_srt _
  m1 := fun x => by
    rw [split_mem1]
    constructor
    · rintro ⟨p, hp, e⟩; rw [← e]; exact clo_prj ((cloL_mem u h).mp hp)
    · intro c; obtain ⟨p, hp, e⟩ := clo_lift c; exact ⟨p, (cloL_mem u h).mpr hp, e⟩
  m2 := fun x => by
    rw [split_mem2]
    constructor
    · rintro ⟨p, hp, e⟩; rw [← e]; exact clo_prj ((cloL_mem u h).mp hp)
    · intro c; obtain ⟨p, hp, e⟩ := clo_lift c; exact ⟨p, (cloL_mem u h).mpr hp, e⟩
theorem ends_prj (y : Nd) : ImN f (Ends rows ft tab s E) y ↔ EndN rows ft tab f s (ImN f fun p => p ∈ E) y := by
  unfold ImN Ends EndN
  constructor
  · rintro ⟨p, ⟨q, hq, r, hr, e1, e2, rfl⟩, rfl⟩
    exact ⟨prj f q, ⟨q, hq, rfl⟩, r, hr, e1, e2, prj_behind⟩
  · rintro ⟨n, ⟨q, hq, rfl⟩, r, hr, e1, e2, rfl⟩
    exact ⟨_, ⟨q, hq, r, hr, e1, e2, rfl⟩, prj_behind⟩
theorem parts_later' {x : It2} (u : Uni rows ft U) (h : ∀ p ∈ E, p ∈ U) (hx : ∀ y, initN x.1 x.2 y ↔ ImN f (fun p => p ∈ E) y) : PartsIs rows ft tab f (EndN rows ft tab f s (initN x.1 x.2)) (splitE f (laterE rows ft tab U s E)) := by
  refine (split_parts u fun p => Ends.in_U u h).congr fun y => ?_
  rw [ends_prj, show initN x.1 x.2 = ImN f (fun p => p ∈ E) from funext fun y => propext (hx y)]
theorem parts_later (u : Uni rows ft U) (h : ∀ p ∈ E, p ∈ U) : PartsIs rows ft tab f (EndN rows ft tab f s (initN (splitE f E).1 (splitE f E).2)) (splitE f (laterE rows ft tab U s E)) := parts_later' u h init_split
theorem parts_first {st : Int} (u : Uni rows ft U) (h : (st, []) ∈ U) : PartsIs rows ft tab f (initN [] [st]) (splitE f (firstE rows ft tab U st)) := by
  refine (split_parts u fun p hp => by rw [hp]; exact h).congr fun y => ?_
  obtain ⟨a, b⟩ := y
  unfold ImN initN prj
  constructor
  · rintro ⟨p, rfl, e⟩
    injection e with e1 e2
    exact .inr ⟨e2.symm, by rw [← e1]; exact List.mem_singleton.mpr rfl⟩
  · rintro (⟨_, h⟩ | ⟨e, h⟩)
    · cases h
    · have h2 := List.mem_singleton.mp h
      simp only at e h2
      subst e h2
      exact ⟨_, rfl, rfl⟩
/-- another table with the same steps of a fault -/
theorem PartsIs.table {tb : Tab} {g : Str} (h : ∀ w, lk tb w = some g ↔ lk ft w = some f) {I : Nd → Prop} {x : It2} (p : PartsIs rows tb tab g I x) : PartsIs rows ft tab f I x := by
  have e1 : stepN tb g = stepN ft f := funext fun x => funext fun r => by
    unfold stepN
    by_cases c : lk ft r.2.1 = some f
    · rw [if_pos c, if_pos ((h _).mpr c)]
    · rw [if_neg c, if_neg (fun z => c ((h _).mp z))]
  have e2 : succN rows tb tab g = succN rows ft tab f := funext fun x => by
    unfold succN
    rw [e1]
  have e3 : CloN rows tb tab g I = CloN rows ft tab f I := by
    show Reach (succN rows tb tab g) I = _
    rw [e2]
  exact ⟨p.s1, p.s2, fun s => by rw [p.m1, e3], fun s => by rw [p.m2, e3]⟩
theorem EndN.table {tb : Tab} {g : Str} (h : ∀ w, lk tb w = some g ↔ lk ft w = some f) {I : Nd → Prop} : EndN rows tb tab g s I = EndN rows ft tab f s I := by
  have e1 : stepN tb g = stepN ft f := funext fun x => funext fun r => by
    unfold stepN
    by_cases c : lk ft r.2.1 = some f
    · rw [if_pos c, if_pos ((h _).mpr c)]
    · rw [if_neg c, if_neg (fun z => c ((h _).mp z))]
  unfold EndN
  rw [e1]
theorem split_nil {E : List Pr} (h : splitE f E = ([], [])) : E = [] := by
  cases E with
  | nil => rfl
  | cons p E =>
    have h1 : (splitE f (p :: E)).1 = [] := by rw [h]
    have h2 : (splitE f (p :: E)).2 = [] := by rw [h]
    by_cases c : f ∈ p.2
    · have z := (split_mem1 (E := p :: E)).mpr ⟨p, List.mem_cons_self, (by unfold prj; rw [if_pos c] : prj f p = (p.1, 0))⟩
      rw [h1] at z; cases z
    · have z := (split_mem2 (E := p :: E)).mpr ⟨p, List.mem_cons_self, (by unfold prj; rw [if_neg c] : prj f p = (p.1, 1))⟩
      rw [h2] at z; cases z
theorem split_empty : splitE f [] = ([], []) := by
  have h : ∀ xs : List Int, (∀ x, x ∉ xs) → xs = [] := fun xs h => by
    cases xs with
    | nil => rfl
    | cons x xs => exact absurd List.mem_cons_self (h x)
  exact Prod.ext (h _ fun x hx => by obtain ⟨p, hp, _⟩ := split_mem1.mp hx; cases hp) (h _ fun x hx => by obtain ⟨p, hp, _⟩ := split_mem2.mp hx; cases hp)
theorem sure_split {E : List Pr} : sureB f E = true ↔ (splitE f E).2 = [] := by
  unfold sureB
  rw [decide_eq_true_eq]
  constructor
  · intro h
    cases hx : (splitE f E).2 with
    | nil => rfl
    | cons x xs =>
      have h2 : x ∈ (splitE f E).2 := by rw [hx]; exact List.mem_cons_self
      obtain ⟨p, hp, e⟩ := split_mem2.mp h2
      unfold prj at e
      rw [if_pos (h p hp)] at e
      cases e
  · intro h p hp
    by_cases c : f ∈ p.2
    · exact c
    · have z := split_mem2.mpr ⟨p, hp, (by unfold prj; rw [if_neg c] : prj f p = (p.1, 1))⟩
      rw [h] at z; cases z
theorem unsure_split {E : List Pr} : sureB f E = false ↔ (splitE f E).2 ≠ [] := by
  rw [← Bool.not_eq_true, sure_split]
end
/-! ### veils of all splits -/
theorem veil_true {S : Sy} {tab : Tab} {f : Str} {U : List Pr} {X : List It2} (u : Uni S.rows S.ft U) (hU : (S.st, []) ∈ U) (hX : ∀ x, x ∈ X ↔ ∃ E, ReE S.rows S.ft tab U S.st (nmsOf tab) E ∧ x = splitE f E)
    (ns : ∀ E, ReE S.rows S.ft tab U S.st (nmsOf tab) E → sureB f E = false) : IsVeil S tab f X := by
  refine ⟨fun x hx => ?_, fun y hy => ?_, fun x hx s hs y hy => ?_⟩
  · obtain ⟨E, hE, rfl⟩ := (hX x).mp hx
    exact unsure_split.mp (ns E hE)
  · rw [hy.ext (parts_first u hU)]
    exact (hX _).mpr ⟨_, .base rfl, rfl⟩
  · obtain ⟨E, hE, rfl⟩ := (hX x).mp hx
    rw [hy.ext (parts_later u (ReE.sub hE))]
    rcases Classical.em (laterE S.rows S.ft tab U s E = []) with z | z
    · rw [z]
      exact .inl split_empty
    · exact .inr ((hX _).mpr ⟨_, .step hE (mem_succE.mpr ⟨s, hs, rfl, z⟩), rfl⟩)
theorem veil_false {S : Sy} {tab : Tab} {f : Str} {U : List Pr} {X : List It2} (hX : ∀ x, x ∈ X ↔ ∃ E, ReE S.rows S.ft tab U S.st (nmsOf tab) E ∧ x = splitE f E)
    {E : List Pr} (hE : ReE S.rows S.ft tab U S.st (nmsOf tab) E) (sE : sureB f E = true) : ¬ IsVeil S tab f X := fun h =>
  h.1 _ ((hX _).mpr ⟨E, hE, rfl⟩) (sure_split.mp sE)
theorem veil_nil {S : Sy} {tab : Tab} {f : Str} {U : List Pr} (u : Uni S.rows S.ft U) (hU : (S.st, []) ∈ U) : ¬ IsVeil S tab f [] := fun h => by
  have z := h.2.1 _ (parts_first u hU)
  cases z
/-- the law's pairs of an item -/
def prsOf (x : It2) : List Pr := x.1.map (fun s => (s, [("x" : Str)])) ++ x.2.map fun s => (s, [])
theorem prsOf_im (x : It2) (y : Nd) : initN x.1 x.2 y ↔ ImN "x" (fun p => p ∈ prsOf x) y := by
  obtain ⟨a, b⟩ := y
  unfold initN ImN prsOf prj
  constructor
  · rintro (⟨e, h⟩ | ⟨e, h⟩)
    · simp only at e h; subst e
      exact ⟨(a, ["x"]), List.mem_append_left _ (List.mem_map.mpr ⟨a, h, rfl⟩), by simp⟩
    · simp only at e h; subst e
      exact ⟨(a, []), List.mem_append_right _ (List.mem_map.mpr ⟨a, h, rfl⟩), by simp⟩
  · rintro ⟨p, hp, e⟩
    injection e with e1 e2
    rcases List.mem_append.mp hp with h | h
    · obtain ⟨t, ht, rfl⟩ := List.mem_map.mp h
      simp at e1 e2
      exact .inl ⟨e2.symm, by rw [← e1]; exact ht⟩
    · obtain ⟨t, ht, rfl⟩ := List.mem_map.mp h
      simp at e1 e2
      exact .inr ⟨e2.symm, by rw [← e1]; exact ht⟩
/-- what the law asks of a list of items -/
structure LawVeil (rows : List Row) (st : Int) (tb tab : Tab) (U : List Pr) (X : List It2) : Prop where
  ne : ∀ x ∈ X, x.2 ≠ []
  fst : splitE "x" (firstE rows tb tab U st) ∈ X
  nxt : ∀ x ∈ X, ∀ s ∈ nmsOf tab, laterE rows tb tab U s (prsOf x) = [] ∨ splitE "x" (laterE rows tb tab U s (prsOf x)) ∈ X
theorem lawVeil {S : Sy} {tb tab : Tab} {f : Str} {U : List Pr} {X : List It2} (u : Uni S.rows tb U) (hU : (S.st, []) ∈ U) (hP : ∀ x ∈ X, ∀ p ∈ prsOf x, p ∈ U) (h : ∀ w, lk tb w = some ("x" : Str) ↔ lk S.ft w = some f) (v : IsVeil S tab f X) : LawVeil S.rows S.st tb tab U X where
  ne := v.1
  fst := v.2.1 _ (PartsIs.table h (parts_first u hU))
  nxt := fun x hx s hs => by
    have p := PartsIs.table h (parts_later' (f := "x") (s := s) (tab := tab) u (hP x hx) (prsOf_im x))
    rw [EndN.table h] at p
    rcases v.2.2 x hx s hs _ p with z | z
    · exact .inl (split_nil z)
    · exact .inr z
end K25
set_option pp.maxSteps 4000
/-! watches are made and changed -/
namespace K25
open PySem PySem.Spec PyProof.Rows L2
/-- all but a stays -/
def ExB (a : Addr) (H H' : Hp) : Prop := ∀ b o, b ≠ a → H b = some o → H' b = some o
theorem Ex.b {a : Addr} {H H' : Hp} (e : Ex H H') : ExB a H H' := fun b o _ h => e b o h
theorem ExB.mut {a : Addr} {H H' : Hp} {o : HO} (e : ExB a H H') : ExB a H (upd H' a o) := fun b u n h => by rw [upd_ne n]; exact e b u n h
theorem ExB.trans {a : Addr} {H H1 H2 : Hp} (e : ExB a H H1) (g : Ex H1 H2) : ExB a H H2 := fun b o n h => g b o (e b o n h)
theorem ExB.ex {a : Addr} {H H' : Hp} (e : ExB a H H') (h : H a = none) : Ex H H' := fun b o q => e b o (ne_of_none q h) q
theorem sqL_upd {K : PySem.W.Frag} {H : Hp} {a d : Addr} {vs : List V} {o u : HO} (h : SqL K H a vs) (hd : H d = some u) (hu : (∀ ws, u ≠ .lst ws) ∧ ∀ q ws, u ≠ .frz q (.lst ws)) : SqL K (upd H d o) a vs := by
  rcases h with h | h
  · refine .inl ?_
    rcases h with h | ⟨q, h⟩
    · exact .inl (by rw [upd_ne (ne_of h hd (hu.1 vs).symm)]; exact h)
    · exact .inr ⟨q, by rw [upd_ne (ne_of h hd (hu.2 q vs).symm)]; exact h⟩
  · exact .inr h
theorem dk_ne {kvs : List (Key × V)} : (∀ ws, HO.dK kvs ≠ .lst ws) ∧ ∀ q ws, HO.dK kvs ≠ .frz q (.lst ws) := ⟨fun _ z => (nomatch z), fun _ _ z => (nomatch z)⟩
section
variable {P : Program} {w : World} {K : PySem.W.Frag} {mg : Str → Option Value} {base : Heap}
def sp_is_sight_table (K : PySem.W.Frag) : Sp := fun vs H Q _ => ∃ d tab, vs = [.ref d] ∧ H d = some (.dK (tD tab)) ∧ TbOk tab ∧ Ret H Q fun v H' => v = .bl true
theorem sc_is_sight_table : FnScope ["value", "word", "sight"] ["value"] d_is_sight_table.scope := ⟨rfl, rfl, rfl, by decide +kernel, rfl, by decide +kernel, by decide +kernel⟩
theorem ok_is_sight_table (T : Tp K mg) : Cal P w K mg base "is_sight_table" 2 ["value"] (sp_is_sight_table K) := by
  refine ⟨_, T.glo 27, ?_⟩
  show Df P w K mg base (d_is_sight_table.path K) 2 ["value"] (sp_is_sight_table K)
  refine T.df 24 (d := d_is_sight_table) rfl rfl sc_is_sight_table (fun vs H Q E h => by obtain ⟨_, _, e, _⟩ := h; rw [e]; rfl) (fun _ _ _ _ _ _ us hl => match us, hl with | [_], _ => rfl) (fun cdv A outer s H vs Q E hr h => ?_)

  obtain ⟨d, tab, rfl, hd, tk, q⟩ := h
  refine ⟨_, PSs.nox (pss_cons (ps_if (pt_not (pt_val (pe_callB call_isi rfl (T.free 75) boot_isinstance (pa_cons (pv 0) (pa_cons (pe_bltn (v := .ty "dict") rfl (T.free 78) boot_dict rfl) pa_nil)))))
      (pss_one (ps_ret pe_bl)) pss_nil)
      (pss_cons (ps_lock (ps_for PassesOwn.never rfl (pi_items (pv 0)) (pg_tup rfl (pgs_cons (pg_name (i := 1) sc_is_sight_table.nd rfl (Or.inl rfl)) (pgs_cons (pg_name (i := 2) sc_is_sight_table.nd rfl (Or.inl rfl)) pgs_nil)))
      (pss_one (ps_if (PW.pt (pw_or (pt_not (pt_val (pe_cal (ok_is_name T) hr (by decide) rfl (pa_cons (pv 1) pa_nil)))) (pw_or1 (pt_not (pt_val (pe_cal (ok_is_name T) hr (by decide) rfl (pa_cons (pv 2) pa_nil)))))))
      (pss_one (ps_ret pe_bl)) pss_nil))))
      (pss_one (ps_ret pe_bl)))), ?_⟩
  refine ⟨_, rfl, .ref d, .ty "dict", _, _, true, rfl, .ty _, tyx_D (.inl hd), kit_ty (by decide +kernel), true, rfl, ?_⟩
  refine iteF ?_
  refine ⟨d, _, hd, True.intro, fun od => ?_⟩
  refine ⟨_, rfl, d, od, _, rfl, upd_same, ?_⟩
  refine for_it walk_items (fun i σ H1 => ∃ v1 v2, σ = [some (.ref d), v1, v2] ∧ Ex (upd H d (.frz od (.dK (tD tab)))) H1) ⟨_, _, rfl, Ex.refl _⟩ (fun i σ H1 _ p => by obtain ⟨v1, v2, rfl, e⟩ := p; exact e _ _ upd_same) (fun i x σ H1 H2 hi p y => ?_) (fun σ H1 p => ?_)
  · obtain ⟨v1, v2, rfl, e⟩ := p
    obtain ⟨t, x1, x2, rfl, ht, rfl, hx1, hx2⟩ := y
    obtain ⟨⟨k, v⟩, hkv, rfl⟩ := Option.map_eq_some_iff.mp hx1
    obtain ⟨p, hp, rfl, rfl⟩ := tD_get hkv
    have hx3 : (tD tab)[i]?.map Prod.snd = some x2 := hx2
    rw [hkv] at hx3
    cases hx3
    have pm := tk.nm p (List.mem_of_getElem? hp)
    have e2 := e.to (o := .tup [.str p.1, .str p.2]) ht
    refine ⟨t, _, rfl, SqT.of upd_same, rfl, _, _, rfl, _, _, rfl, rfl, ?_⟩
    refine ⟨_, rfl, p.1, rfl, pm.1, fun v5 H5 e5 ev => ?_⟩
    subst ev
    refine ⟨_, rfl, iteF ?_⟩
    refine ⟨_, rfl, p.2, rfl, pm.2, fun v6 H6 e6 ev => ?_⟩
    subst ev
    refine ⟨_, rfl, iteF ?_⟩
    exact ⟨_, _, rfl, (e2.trans e5).trans e6⟩
  · obtain ⟨v1, v2, rfl, e⟩ := p
    refine ⟨e _ _ upd_same, ?_⟩
    exact q.of (Ex.back hd e) rfl
def sp_sight_table (K : PySem.W.Frag) : Sp := fun vs H Q _ => ∃ d tab, vs = [.ref d] ∧ H d = some (.dK (tD tab)) ∧ TbOk tab ∧ Ret H Q fun v H' => v = .ref d
theorem sc_sight_table : FnScope ["value"] ["value"] d_sight_table.scope := ⟨rfl, rfl, rfl, by decide +kernel, rfl, by decide +kernel, by decide +kernel⟩
theorem ok_sight_table (T : Tp K mg) : Cal P w K mg base "sight_table" 3 ["value"] (sp_sight_table K) := by
  refine ⟨_, T.glo 28, ?_⟩
  show Df P w K mg base (d_sight_table.path K) 3 ["value"] (sp_sight_table K)
  refine T.df 25 (d := d_sight_table) rfl rfl sc_sight_table (fun vs H Q E h => by obtain ⟨_, _, e, _⟩ := h; rw [e]; rfl) (fun _ _ _ _ _ _ us hl => match us, hl with | [_], _ => rfl) (fun cdv A outer s H vs Q E hr h => ?_)

  obtain ⟨d, tab, rfl, hd, tk, q⟩ := h
  refine ⟨_, PSs.nox (pss_cons (ps_if (pt_val (pe_callB call_isi rfl (T.free 75) boot_isinstance (pa_cons (pv 0) (pa_cons (pe_glob (v := .ref (cW K)) rfl (T.glo 23) rfl) pa_nil))))
      pss_never pss_nil)
      (pss_cons (ps_if (pt_not (pt_val (pe_cal (ok_is_sight_table T) hr (by decide) rfl (pa_cons (pv 0) pa_nil))))
      pss_never pss_nil)
      (pss_one (ps_ret (pv 0))))), ?_⟩
  refine ⟨_, rfl, .ref d, .ref (cW K), _, _, false, rfl, .own _, tyx_D (.inl hd), T.watch.2.1, ?_⟩
  refine ⟨_, rfl, iteF ?_⟩
  refine ⟨_, rfl, d, tab, rfl, hd, tk, fun v1 H1 e1 ev => ?_⟩
  subst ev
  refine ⟨_, rfl, iteF ?_⟩
  exact ⟨_, rfl, q.of e1 rfl⟩
def sp_joined_table (K : PySem.W.Frag) : Sp := fun vs H Q _ => ∃ a b s t, vs = [.ref a, .ref b] ∧ H a = some (.dK (tD s)) ∧ H b = some (.dK (tD t)) ∧ TbOk s ∧ TbOk t ∧ (∀ p ∈ t, lk s p.1 = none) ∧ s.length + t.length ≤ 50 ∧ Ret H Q fun v H' => ∃ d, v = .ref d ∧ H' d = some (.dK (tD (s ++ t))) ∧ H d = none
theorem sc_joined_table : FnScope ["first", "second", "word"] ["first", "second"] d_joined_table.scope := ⟨rfl, rfl, rfl, by decide +kernel, rfl, by decide +kernel, by decide +kernel⟩
theorem ok_joined_table (T : Tp K mg) : Cal P w K mg base "joined_table" 1 ["first", "second"] (sp_joined_table K) := by
  refine ⟨_, T.glo 29, ?_⟩
  show Df P w K mg base (d_joined_table.path K) 1 ["first", "second"] (sp_joined_table K)
  refine T.df 26 (d := d_joined_table) rfl rfl sc_joined_table (fun vs H Q E h => by obtain ⟨_, _, _, _, e, _⟩ := h; rw [e]; rfl) (fun _ _ _ _ _ _ us hl => match us, hl with | [_, _], _ => rfl) (fun cdv A outer s H vs Q E hr h => ?_)

  obtain ⟨a, b, s1, t1, rfl, ha, hb, sk, tk, hn, hz, q⟩ := h
  refine ⟨_, PSs.nox (pss_one (ps_ret (pe_dc (own := [("word", 2)]) rfl sc_joined_table.nd (pi_list (pe_lst (pa_starD rfl (pv 0) (pa_starD rfl (pv 1) pa_nil)))) (blkOk_by (N := ["first", "second", "word"]) (sc := d_joined_table.scope) (by decide +kernel)) (fun _ _ _ _ _ => (pg_name (i := 2) sc_joined_table.nd rfl (Or.inl rfl))) (fun _ _ _ _ _ => pts_nil) (fun _ _ _ _ _ => (pv 2)) (fun _ _ _ _ _ => (pe_ifExp (pt_cmp (pc_din (hu_of hr) (pv 2) (pv 0))) (pe_dget (by exact hu_of hr) (pv 0) (pv 2) (fun _ _ => rfl)) (pe_dget (by exact hu_of hr) (pv 1) (pv 2) (fun _ _ => rfl))))))), ?_⟩
  have keq : ((tD s1).map (fun kv => kV kv.1) ++ ((tD t1).map (fun kv => kV kv.1) ++ [])) = (s1 ++ t1).map fun (p : Str × Str) => V.str p.1 := by
    unfold tD
    rw [List.append_nil, List.map_map, List.map_map, List.map_append]
    rfl
  refine ⟨_, rfl, a, _, rfl, .inl ha, _, rfl, b, _, rfl, .inl hb, ?_⟩
  refine ⟨by rw [keq, List.length_map, List.length_append]; exact Nat.le_trans hz (by decide), fun l hl => ?_⟩
  refine ⟨l, rfl, ⟨_, SqL.of upd_same⟩, fun D hD => ?_⟩
  have hls : ∀ {H1 : Hp}, H1 = upd H l (.lst ((tD s1).map (fun kv => kV kv.1) ++ ((tD t1).map (fun kv => kV kv.1) ++ []))) → SqL K H1 l ((s1 ++ t1).map fun (p : Str × Str) => V.str p.1) := fun {H1} e => by
    rw [← keq, e]
    exact SqL.of upd_same
  have hD0 := (Ex.new hl).free hD
  refine cc_it (walk_list (xs := (s1 ++ t1).map fun (p : Str × Str) => V.str p.1)) (fun i H1 => Ex H H1 ∧ SqL K H1 l ((s1 ++ t1).map fun (p : Str × Str) => V.str p.1) ∧ H1 D = some (.dK (tD ((s1 ++ t1).take i)))) ⟨(Ex.new hl).to hD, (Ex.new hD).sqL (hls rfl), upd_same⟩ (fun i H1 _ p => p.2.1) (fun i x H1 H2 hi p y => ?_) (fun H1 p => ?_)
  · obtain ⟨rfl, hx⟩ := y
    obtain ⟨e, hl1, hd⟩ := p
    rw [List.getElem?_map] at hx
    obtain ⟨z, hz1, rfl⟩ := Option.map_eq_some_iff.mp hx
    have hzm := List.mem_of_getElem? hz1
    refine ⟨rfl, ?_⟩
    refine ⟨_, rfl, _, rfl, _, rfl, a, _, rfl, DGet.k (k := .inr z.1) (e _ _ ha), _, rfl, ?_⟩
    have fin : ∀ {v : V}, v = .str z.2 → ∃ kvs k, V.str z.1 = kV k ∧ H2 D = some (.dK kvs) ∧ kvs.length < sizeLine ∧ Ex H (upd H2 D (.dK (putK kvs k v))) ∧ SqL K (upd H2 D (.dK (putK kvs k v))) l ((s1 ++ t1).map fun (p : Str × Str) => V.str p.1) ∧ upd H2 D (.dK (putK kvs k v)) D = some (.dK (tD ((s1 ++ t1).take (i + 1)))) := fun {v} ev => by
      subst ev
      refine ⟨_, .inr z.1, rfl, hd, ?_, e.mut hD0, sqL_upd hl1 hd dk_ne, ?_⟩
      · rw [tD_len, List.length_take, List.length_append]
        exact Nat.lt_of_le_of_lt (show _ ≤ 50 by omega) (by decide)
      · have nd : ((s1 ++ t1).map (·.1)).Nodup := by
          rw [List.map_append, List.nodup_append]
          refine ⟨sk.nd, tk.nd, fun x hx y hy exy => ?_⟩
          obtain ⟨p, hp, rfl⟩ := List.mem_map.mp hy
          exact lk_none.mp (hn p hp) (exy ▸ hx)
        rw [tD_put _ (lk_none_take nd hz1), take_next hz1]
        exact upd_same
    rw [valV_tD]
    rcases List.mem_append.mp hzm with hm | hm
    · have hk := lk_mem sk.nd hm
      rw [hk]
      refine itT rfl ?_
      refine ⟨_, rfl, _, rfl, a, _, rfl, .inl ⟨_, .inr z.1, .inl (e _ _ ha), rfl, ?_⟩, fin rfl⟩
      rw [valV_tD, hk]
      rfl
    · rw [hn z hm]
      refine itF rfl ?_
      refine ⟨_, rfl, _, rfl, b, _, rfl, .inl ⟨_, .inr z.1, .inl (e _ _ hb), rfl, ?_⟩, fin rfl⟩
      rw [valV_tD, lk_mem tk.nd hm]
      rfl
  obtain ⟨e, hl1, hd⟩ := p
  rw [List.length_map, List.take_length] at hd
  exact q.of e ⟨D, rfl, hd, hD0⟩
def sp_table_without (K : PySem.W.Frag) : Sp := fun vs H Q _ => ∃ a b tab, ∃ ws : List Str, vs = [.ref a, .ref b] ∧ H a = some (.dK (tD tab)) ∧ SqL K H b (ws.map V.str) ∧ (∀ x ∈ ws, NmOk x) ∧ TbOk tab ∧ Ret H Q fun v H' => ∃ d, v = .ref d ∧ H' d = some (.dK (tD (tab.filter fun p => !decide (p.1 ∈ ws)))) ∧ H d = none
theorem sc_table_without : FnScope ["table", "words", "word"] ["table", "words"] d_table_without.scope := ⟨rfl, rfl, rfl, by decide +kernel, rfl, by decide +kernel, by decide +kernel⟩
theorem ok_table_without (T : Tp K mg) : Cal P w K mg base "table_without" 2 ["table", "words"] (sp_table_without K) := by
  refine ⟨_, T.glo 31, ?_⟩
  show Df P w K mg base (d_table_without.path K) 2 ["table", "words"] (sp_table_without K)
  refine T.df 28 (d := d_table_without) rfl rfl sc_table_without (fun vs H Q E h => by obtain ⟨_, _, _, _, e, _⟩ := h; rw [e]; rfl) (fun _ _ _ _ _ _ us hl => match us, hl with | [_, _], _ => rfl) (fun cdv A outer s H vs Q E hr h => ?_)

  obtain ⟨a, b, tab, ws, rfl, ha, hb, hn, tk, q⟩ := h
  refine ⟨_, PSs.nox (pss_cons (ps_if (pt_not (pt_val (pe_cal (ok_is_row T) hr (by decide) rfl (pa_cons (pv 1) pa_nil))))
      pss_never pss_nil)
      (pss_cons (ps_for PassesOwn.never rfl (pi_list (pv 1)) (pg_name (i := 2) sc_table_without.nd rfl (Or.inl rfl))
      (pss_one (ps_if (pt_not (pt_val (pe_cal (ok_is_name T) hr (by decide) rfl (pa_cons (pv 2) pa_nil))))
      pss_never pss_nil)))
      (pss_one (ps_ret (pe_lock (pe_dc (own := [("word", 2)]) rfl sc_table_without.nd (pi_keys (pv 0)) (blkOk_by (N := ["table", "words", "word"]) (sc := d_table_without.scope) (by decide +kernel)) (fun _ _ _ _ _ => (pg_name (i := 2) sc_table_without.nd rfl (Or.inl rfl))) (fun _ _ _ _ _ => pts_one (pt_cmpR (op_notInKB K rfl hr) (pv 2) (pv 1) (by with_unfolding_all rfl))) (fun _ _ _ _ _ => (pv 2)) (fun _ _ _ _ _ => (pe_dget (by exact hu_of hr) (pv 0) (pv 2) (fun _ _ => rfl))))))))), ?_⟩
  refine ⟨_, rfl, b, _, rfl, .inl hb, fun v1 H1 e1 ev => ?_⟩
  subst ev
  refine ⟨_, rfl, iteF ?_⟩
  refine ⟨_, rfl, b, rfl, ⟨_, e1.sqL hb⟩, ?_⟩
  refine for_it (walk_list (xs := ws.map V.str)) (fun i σ H2 => ∃ v2, σ = [some (.ref a), some (.ref b), v2] ∧ Ex H H2) ⟨_, rfl, e1⟩ (fun i σ H2 _ p => by obtain ⟨v2, rfl, e⟩ := p; exact e.sqL hb) (fun i x σ H2 H3 hi p y => ?_) (fun σ H2 p => ?_)
  · obtain ⟨v2, rfl, e2⟩ := p
    obtain ⟨rfl, hx⟩ := y
    rw [List.getElem?_map] at hx
    obtain ⟨z, hz1, rfl⟩ := Option.map_eq_some_iff.mp hx
    refine ⟨_, rfl, z, rfl, hn z (List.mem_of_getElem? hz1), fun v3 H4 e4 ev => ?_⟩
    subst ev
    exact ⟨_, rfl, iteF ⟨_, rfl, e2.trans e4⟩⟩
  obtain ⟨v2, rfl, e2⟩ := p
  refine ⟨a, _, e2 _ _ ha, True.intro, fun od => ?_⟩
  refine ⟨_, rfl, a, od, rfl, .inl ⟨_, upd_same, fun D hD => ?_⟩⟩
  have ndb : ∀ {H' : Hp}, Ex (upd H2 a (.frz od (.dK (tD tab)))) H' → SqL K H' b (ws.map V.str) := fun {H'} e => by
    exact e.sqL (sqL_upd (e2.sqL hb) (e2 _ _ ha) dk_ne)
  refine cc_it walk_keys (fun i H1 => Ex (upd H2 a (.frz od (.dK (tD tab)))) H1 ∧ H1 D = some (.dK (tD ((tab.take i).filter fun p => !decide (p.1 ∈ ws))))) ⟨Ex.new hD, upd_same⟩ (fun i H1 _ p => p.1 _ _ upd_same) (fun i x H1 H2 hi p y => ?_) (fun H1 p => ?_)
  · obtain ⟨rfl, k, v, hk, rfl⟩ := y
    obtain ⟨e, hd⟩ := p
    obtain ⟨z, hz, rfl, rfl⟩ := tD_get hk
    have snoc : ((tab.take (i + 1)).filter fun p => !decide (p.1 ∈ ws)) = ((tab.take i).filter fun p => !decide (p.1 ∈ ws)) ++ if z.1 ∈ ws then [] else [z] := by
      rw [take_next hz, List.filter_append]
      by_cases c : z.1 ∈ ws <;> simp [c]
    refine ⟨rfl, ?_⟩
    refine ⟨_, rfl, _, rfl, b, .text z.1, ws.map .text, rfl, .text _, SqK.l (ndb e) (NkA.strs _), Nat.zero_le _, _, rfl, ?_⟩
    refine itE (fun c => ?_) fun c => ?_
    · have hm : z.1 ∉ ws := fun h => ofnT c ((mem_map_inj text_inj).mpr h)
      rw [if_neg hm] at snoc
      refine ⟨_, rfl, _, rfl, _, rfl, a, .str z.2, rfl, .inl ⟨_, .inr z.1, .inr ⟨od, e _ _ upd_same⟩, rfl, ?_⟩, ?_⟩
      · rw [valV_tD, lk_mem tk.nd (List.mem_of_getElem? hz)]
        rfl
      · refine ⟨_, .inr z.1, rfl, hd, ?_, e.mut hD, ?_⟩
        · have h1 := List.length_filter_le (fun p : Str × Str => !decide (p.1 ∈ ws)) (tab.take i)
          have h2 := tk.few
          rw [tD_len]
          rw [List.length_take] at h1
          exact Nat.lt_of_le_of_lt (show _ ≤ 50 by omega) (by decide)
        · have nl : lk ((tab.take i).filter fun p => !decide (p.1 ∈ ws)) z.1 = none := by
            rw [lk_none]
            intro hm2
            obtain ⟨p, hp, ep⟩ := List.mem_map.mp hm2
            have h3 := lk_none.mp (lk_none_take tk.nd hz)
            exact h3 (List.mem_map.mpr ⟨p, (List.mem_filter.mp hp).1, ep⟩)
          rw [tD_put _ nl, snoc]
          exact upd_same
    · have hm : z.1 ∈ ws := (mem_map_inj text_inj).mp (ofnF c)
      rw [if_pos hm, List.append_nil] at snoc
      rw [snoc]
      exact ⟨e, hd⟩
  obtain ⟨e, hd⟩ := p
  rw [tD_len, List.take_length] at hd
  have ha2 := e2 _ _ ha
  have hD0 : D ≠ a := fun z => by rw [z, upd_same] at hD; cases hD
  have hDn : H D = none := e2.free (by rw [upd_ne hD0] at hD; exact hD)
  refine ⟨e _ _ upd_same, ?_⟩
  exact q.of (e2.trans (Ex.back ha2 e)) ⟨D, rfl, (upd_ne hD0).trans hd, hDn⟩
def sp_Watch_init (K : PySem.W.Frag) : Sp := fun vs H Q _ => ∃ a dx d tab, vs = [.ref a, .ref d] ∧ H a = some (.ins (cW K) dx []) ∧ H d = some (.dK (tD tab)) ∧ TbOk tab ∧ ∀ H', ExB a H H' → WatO K H' a tab → Q .non H'
theorem sc_Watch_init : FnScope ["self", "sights", "word"] ["self", "sights"] d_Watch_init.scope := ⟨rfl, rfl, rfl, by decide +kernel, rfl, by decide +kernel, by decide +kernel⟩
theorem ok_Watch_init (T : Tp K mg) : Df P w K mg base (d_Watch_init.path K) 3 ["self", "sights"] (sp_Watch_init K) := by
  refine T.dfD 20 (d := d_Watch_init) rfl (by intro z; cases z) sc_Watch_init (fun vs H Q E h => by obtain ⟨_, _, _, _, e, _⟩ := h; rw [e]; rfl) (fun _ _ _ _ _ _ _ us its hl hi => match us, its, hl, hi with | [_, _], [_], _, _ => ⟨_, rfl, rfl⟩) (fun cdv A outer s H vs Q E hr h => ?_)

  obtain ⟨a, dx, d, tab, rfl, ha, hd, tk, q⟩ := h
  refine ⟨_, PSs.nox (pss_cons (ps_if (PW.pt (pw_and (pt_cmpR op_notN (pv 1) pe_non (nomark _)) (pw_and1 (pt_not (pt_val (pe_cal (ok_is_sight_table T) hr (by decide) rfl (pa_cons (pv 1) pa_nil)))))))
      pss_never pss_nil)
      (pss_cons (ps_fld (pv 0) pe_dnewK rfl)
      (pss_one (ps_if (pt_cmpR op_notN (pv 1) pe_non (nomark _))
      (pss_one (ps_fld (pv 0) (pe_lock (pe_dc (own := [("word", 2)]) rfl sc_Watch_init.nd (pi_keys (pv 1)) (blkOk_by (N := ["self", "sights", "word"]) (sc := d_Watch_init.scope) (by decide +kernel)) (fun _ _ _ _ _ => (pg_name (i := 2) sc_Watch_init.nd rfl (Or.inl rfl))) (fun _ _ _ _ _ => pts_nil) (fun _ _ _ _ _ => (pv 2)) (fun _ _ _ _ _ => (pe_dget (by exact hu_of hr) (pv 1) (pv 2) (fun _ _ => rfl))))) rfl)) pss_nil)))), ?_⟩
  have nad : a ≠ d := ne_of ha hd (fun z => nomatch z)
  refine ⟨_, rfl, rfl, _, rfl, itT rfl ?_⟩
  refine ⟨_, rfl, d, tab, rfl, hd, tk, fun v1 H1 e1 ev => ?_⟩
  subst ev
  refine ⟨_, rfl, iteF ?_⟩
  refine fun p hp => ?_
  have e2 := e1.to (o := .dK []) hp
  refine ⟨_, rfl, a, _, dx, _, rfl, e2 _ _ ha, T.clsW, T.noW, by show 0 < 1000; decide, ?_⟩
  have b3 := e2.b.mut (a := a) (o := .ins (cW K) dx (putF "table" (.ref p) []))
  refine ⟨_, rfl, rfl, _, rfl, itT rfl ?_⟩
  have hd3 := b3 _ _ nad.symm hd
  refine ⟨d, _, hd3, True.intro, fun od => ?_⟩
  refine ⟨_, rfl, d, od, rfl, .inl ⟨_, upd_same, fun D hD => ?_⟩⟩
  generalize hHx : upd (upd H1 p (.dK [])) a (.ins (cW K) dx (putF "table" (.ref p) [])) = Hx at *
  refine cc_it walk_keys (fun i H1 => Ex (upd Hx d (.frz od (.dK (tD tab)))) H1 ∧ H1 D = some (.dK (tD (tab.take i)))) ⟨Ex.new hD, upd_same⟩ (fun i H1 _ p => p.1 _ _ upd_same) (fun i x H1 H2 hi p y => ?_) (fun H1 p => ?_)
  · obtain ⟨rfl, k, v, hk, rfl⟩ := y
    obtain ⟨e, hd⟩ := p
    obtain ⟨z, hz, rfl, rfl⟩ := tD_get hk
    refine ⟨rfl, ?_⟩
    refine ⟨_, rfl, _, rfl, _, rfl, d, .str z.2, rfl, .inl ⟨_, .inr z.1, .inr ⟨od, e _ _ upd_same⟩, rfl, ?_⟩, ?_⟩
    · rw [valV_tD, lk_mem tk.nd (List.mem_of_getElem? hz)]
      rfl
    · refine ⟨_, .inr z.1, rfl, hd, ?_, e.mut hD, ?_⟩
      · have h2 := tk.few
        rw [tD_len, List.length_take]
        exact Nat.lt_of_le_of_lt (show _ ≤ 50 by omega) (by decide)
      · rw [tD_put _ (lk_none_take tk.nd hz), take_next hz]
        exact upd_same
  obtain ⟨e, hd4⟩ := p
  rw [tD_len, List.take_length] at hd4
  have hDd : D ≠ d := fun z => by rw [z, upd_same] at hD; cases hD
  have e5 : Ex Hx (upd H1 d (.dK (tD tab))) := Ex.back hd3 e
  have hHa : Hx a = some (.ins (cW K) dx [("table", .ref p)]) := by rw [← hHx]; exact upd_same
  refine ⟨e _ _ upd_same, ?_⟩
  refine ⟨_, rfl, a, _, dx, _, rfl, e5 _ _ hHa, T.clsW, T.noW, by show 1 < 1000; decide, ?_⟩
  have hDa : D ≠ a := fun z => by
    rw [upd_ne hDd, z, hHa] at hD
    cases hD
  refine q _ (b3.trans e5).mut ⟨dx, D, upd_same, ?_, tk⟩
  rw [upd_ne hDa, upd_ne hDd]
  exact hd4
def sp_Watch_ior (K : PySem.W.Frag) : Sp := fun vs H Q _ => ∃ a d s t, vs = [.ref a, .ref d] ∧ WatO K H a s ∧ H d = some (.dK (tD t)) ∧ TbOk t ∧ (∀ p ∈ t, lk s p.1 = none) ∧ s.length + t.length ≤ 50 ∧ ∀ H', ExB a H H' → WatO K H' a (s ++ t) → Q (.ref a) H'
theorem sc_Watch_ior : FnScope ["self", "other"] ["self", "other"] d_Watch_ior.scope := ⟨rfl, rfl, rfl, by decide +kernel, rfl, by decide +kernel, by decide +kernel⟩
theorem ok_Watch_ior (T : Tp K mg) : Df P w K mg base (d_Watch_ior.path K) 4 ["self", "other"] (sp_Watch_ior K) := by
  refine T.df 22 (d := d_Watch_ior) rfl rfl sc_Watch_ior (fun vs H Q E h => by obtain ⟨_, _, _, _, e, _⟩ := h; rw [e]; rfl) (fun _ _ _ _ _ _ us hl => match us, hl with | [_, _], _ => rfl) (fun cdv A outer s H vs Q E hr h => ?_)

  obtain ⟨a, d, s1, t1, rfl, ⟨dx, t0, hW0, hW1, hW2⟩, hd, tk, hn, hz, q⟩ := h
  refine ⟨_, PSs.nox (pss_cons (ps_fld (pv 0) (pe_cal (ok_joined_table T) hr (by decide) rfl (pa_cons (pe_fld (pv 0) rfl) (pa_cons (pe_cal (ok_sight_table T) hr (by decide) rfl (pa_cons (pv 1) pa_nil)) pa_nil))) rfl)
      (pss_one (ps_ret (pv 0)))), ?_⟩
  refine ⟨_, rfl, a, _, dx, _, _, rfl, hW0, T.clsW, T.noW, rfl, ?_⟩
  refine ⟨_, rfl, d, t1, rfl, hd, tk, fun v1 H1 e1 ev => ?_⟩
  subst ev
  refine ⟨t0, d, s1, t1, rfl, e1 _ _ hW1, e1 _ _ hd, hW2, tk, hn, hz, fun v2 H2 e2 ⟨D, ev, hD, hDn⟩ => ?_⟩
  subst ev
  have e12 := e1.trans e2
  have ha2 := e12 _ _ hW0
  refine ⟨_, rfl, a, _, dx, _, rfl, ha2, T.clsW, T.noW, by show 1 < 1000; decide, ?_⟩
  refine ⟨_, rfl, q _ e12.b.mut ⟨dx, D, upd_same, ?_, ?_⟩⟩
  · exact (upd_ne (ne_of hD ha2 (fun z => nomatch z))).trans hD
  · refine ⟨?_, by rw [List.length_append]; exact hz, fun p hp => (List.mem_append.mp hp).elim (hW2.nm p) (tk.nm p)⟩
    rw [List.map_append, List.nodup_append]
    refine ⟨hW2.nd, tk.nd, fun x hx y hy exy => ?_⟩
    obtain ⟨p, hp, rfl⟩ := List.mem_map.mp hy
    exact lk_none.mp (hn p hp) (exy ▸ hx)
def sp_Watch_isub (K : PySem.W.Frag) : Sp := fun vs H Q _ => ∃ a b s, ∃ ws : List Str, vs = [.ref a, .ref b] ∧ WatO K H a s ∧ SqL K H b (ws.map V.str) ∧ (∀ x ∈ ws, NmOk x) ∧ ∀ H', ExB a H H' → WatO K H' a (s.filter fun p => !decide (p.1 ∈ ws)) → Q (.ref a) H'
theorem sc_Watch_isub : FnScope ["self", "words"] ["self", "words"] d_Watch_isub.scope := ⟨rfl, rfl, rfl, by decide +kernel, rfl, by decide +kernel, by decide +kernel⟩
theorem ok_Watch_isub (T : Tp K mg) : Df P w K mg base (d_Watch_isub.path K) 3 ["self", "words"] (sp_Watch_isub K) := by
  refine T.df 23 (d := d_Watch_isub) rfl rfl sc_Watch_isub (fun vs H Q E h => by obtain ⟨_, _, _, _, e, _⟩ := h; rw [e]; rfl) (fun _ _ _ _ _ _ us hl => match us, hl with | [_, _], _ => rfl) (fun cdv A outer s H vs Q E hr h => ?_)

  obtain ⟨a, b, s1, ws, rfl, ⟨dx, t0, hW0, hW1, hW2⟩, hb, hn, q⟩ := h
  refine ⟨_, PSs.nox (pss_cons (ps_fld (pv 0) (pe_cal (ok_table_without T) hr (by decide) rfl (pa_cons (pe_fld (pv 0) rfl) (pa_cons (pv 1) pa_nil))) rfl)
      (pss_one (ps_ret (pv 0)))), ?_⟩
  refine ⟨_, rfl, a, _, dx, _, _, rfl, hW0, T.clsW, T.noW, rfl, ?_⟩
  refine ⟨_, rfl, t0, b, s1, ws, rfl, hW1, hb, hn, hW2, fun v2 H2 e2 ⟨D, ev, hD, hDn⟩ => ?_⟩
  subst ev
  have ha2 := e2 _ _ hW0
  refine ⟨_, rfl, a, _, dx, _, rfl, ha2, T.clsW, T.noW, by show 1 < 1000; decide, ?_⟩
  refine ⟨_, rfl, q _ e2.b.mut ⟨dx, D, upd_same, ?_, ?_⟩⟩
  · exact (upd_ne (ne_of hD ha2 (fun z => nomatch z))).trans hD
  · refine ⟨?_, Nat.le_trans (List.length_filter_le _ _) hW2.few, fun p hp => hW2.nm p (List.mem_filter.mp hp).1⟩
    exact hW2.nd.sublist (List.filter_sublist.map _)
end
end K25
set_option pp.maxSteps 4000
/-! a machine is made: its steps, its faults -/
namespace K25
open PySem PySem.Spec PyProof.Rows L2
def RowOk (r : Row) : Prop := (0 ≤ r.1 ∧ r.1 ≤ 99) ∧ NmOk r.2.1 ∧ 0 ≤ r.2.2 ∧ r.2.2 ≤ 99
/-- how many rows leave s -/
def cnt (rows : List Row) (s : Int) : Nat := (rows.filter fun r => decide (r.1 = s)).length
theorem cnt_snoc (rows : List Row) (r : Row) (s : Int) : cnt (rows ++ [r]) s = cnt rows s + if s = r.1 then 1 else 0 := by
  unfold cnt
  rw [List.filter_append, List.length_append]
  by_cases c : r.1 = s
  · have c' : s = r.1 := c.symm
    simp [c]
  · have c' : ¬ s = r.1 := fun z => c z.symm
    simp [c, c']
theorem cnt_take (rows : List Row) (i : Nat) (s : Int) : cnt (rows.take i) s ≤ cnt rows s := by
  unfold cnt
  exact ((List.take_sublist i rows).filter _).length_le
/-- what the counts say -/
def CntD (kvs : List (Key × V)) (rows : List Row) : Prop := ∀ s : Int, (valV kvs (.inl s) = none ∧ cnt rows s = 0) ∨ valV kvs (.inl s) = some (.int (cnt rows s : Nat))
theorem CntD.get {kvs : List (Key × V)} {rows : List Row} (h : CntD kvs rows) (s : Int) : (valV kvs (.inl s)).getD (.int 0) = .int (cnt rows s : Nat) := by
  rcases h s with ⟨e, z⟩ | e
  · rw [e, z]; rfl
  · rw [e]; rfl
theorem key_inl {a b : Int} : ((Sum.inl a : Key) = Sum.inl b) ↔ a = b := ⟨fun e => by cases e; rfl, fun e => by rw [e]⟩
theorem CntD.put {kvs : List (Key × V)} {rows : List Row} (h : CntD kvs rows) (r : Row) : CntD (putK kvs (.inl r.1) (.int ((cnt rows r.1 : Nat) + 1))) (rows ++ [r]) := fun s => by
  rw [valV_put, cnt_snoc]
  by_cases c : s = r.1
  · subst c
    right
    rw [if_pos rfl, if_pos rfl]
    rfl
  · rw [if_neg (fun z => c (key_inl.mp z)), if_neg c]
    exact h s
theorem tup_dk {kvs : List (Key × V)} : (∀ ws, HO.dK kvs ≠ .tup ws) ∧ ∀ q ws, HO.dK kvs ≠ .frz q (.tup ws) := ⟨fun _ z => (nomatch z), fun _ _ z => (nomatch z)⟩
section
variable {P : Program} {w : World} {K : PySem.W.Frag} {mg : Str → Option Value} {base : Heap}
def sp_is_step (K : PySem.W.Frag) : Sp := fun vs H Q _ => ∃ v r, vs = [v] ∧ Nk K H v (kRow r) ∧ RowOk r ∧ Ret H Q fun v H' => v = .bl true
theorem sc_is_step : FnScope ["step"] ["step"] d_is_step.scope := ⟨rfl, rfl, rfl, by decide +kernel, rfl, by decide +kernel, by decide +kernel⟩
theorem ok_is_step (T : Tp K mg) : Cal P w K mg base "is_step" 4 ["step"] (sp_is_step K) := by
  refine ⟨_, T.glo 16, ?_⟩
  show Df P w K mg base (d_is_step.path K) 4 ["step"] (sp_is_step K)
  refine T.df 13 (d := d_is_step) rfl rfl sc_is_step (fun vs H Q E h => by obtain ⟨_, _, e, _⟩ := h; rw [e]; rfl) (fun _ _ _ _ _ _ us hl => match us, hl with | [_], _ => rfl) (fun cdv A outer s H vs Q E hr h => ?_)

  obtain ⟨v, r, rfl, hv, ⟨⟨r0, r1⟩, r2, r3, r4⟩, q⟩ := h
  refine ⟨_, PSs.nox (pss_cons (ps_if (PW.pt (pw_or (pt_not (pt_val (pe_callB call_isi rfl (T.free 75) boot_isinstance (pa_cons (pv 0) (pa_cons (pe_bltn (v := .ty "tuple") rfl (T.free 80) boot_tuple rfl) pa_nil))))) (pw_or1 (pt_cmpR op_ne (pe_callB call_len_seq rfl (T.free 74) boot_len (pa_cons (pv 0) pa_nil)) pe_int (nomark _)))))
      (pss_one (ps_ret pe_bl)) pss_nil)
      (pss_one (ps_ret (pe_and (pe_cal (ok_is_state T) hr (by decide) rfl (pa_cons (pe_ix ix_tup (pv 0) pe_int (fun _ _ => rfl)) pa_nil)) (pe_and (pe_cal (ok_is_name T) hr (by decide) rfl (pa_cons (pe_ix ix_tup (pv 0) pe_int (fun _ _ => rfl)) pa_nil)) (pe_one (pe_cal (ok_is_state T) hr (by decide) rfl (pa_cons (pe_ix ix_tup (pv 0) pe_int (fun _ _ => rfl)) pa_nil)))))))), ?_⟩
  obtain ⟨a, rfl, ha⟩ := Nk.row hv
  refine ⟨_, rfl, .ref a, .ty "tuple", _, _, true, rfl, .ty _, tyx_T ha, kit_ty (by decide +kernel), true, rfl, iteF ?_⟩
  refine ⟨_, rfl, a, _, rfl, .inr ha, rfl, _, rfl, ?_⟩
  refine itF rfl ?_
  refine ⟨_, rfl, _, _, _, _, rfl, rfl, ha, rfl, r.1, rfl, r0, r1, fun v1 H1 e1 ev => ?_⟩
  subst ev
  refine ⟨true, rfl, iteT ?_⟩
  refine ⟨_, rfl, _, _, _, _, rfl, rfl, e1.sqT ha, rfl, r.2.1, rfl, r2, fun v2 H2 e2 ev => ?_⟩
  subst ev
  refine ⟨true, rfl, iteT ?_⟩
  refine ⟨_, rfl, _, _, _, _, rfl, rfl, (e1.trans e2).sqT ha, rfl, r.2.2, rfl, r3, r4, fun v3 H3 e3 ev => ?_⟩
  subst ev
  exact q.of ((e1.trans e2).trans e3) rfl
def sp_checked_steps (K : PySem.W.Frag) : Sp := fun vs H Q _ => ∃ a us, ∃ rows : List Row, vs = [.ref a] ∧ SqL K H a us ∧ NkA K H us (rows.map kRow) ∧ rows.Nodup ∧ 1 ≤ rows.length ∧ rows.length ≤ 16 ∧ (∀ r ∈ rows, RowOk r) ∧ (∀ s, cnt rows s ≤ 8) ∧ Ret H Q fun v H' => ∃ l us, v = .ref l ∧ H' l = some (.lst us) ∧ NkA K H' us (rows.map kRow)
theorem sc_checked_steps : FnScope ["steps", "rows", "counts", "at", "step"] ["steps"] d_checked_steps.scope := ⟨rfl, rfl, rfl, by decide +kernel, rfl, by decide +kernel, by decide +kernel⟩
theorem ok_checked_steps (T : Tp K mg) : Cal P w K mg base "checked_steps" 5 ["steps"] (sp_checked_steps K) := by
  refine ⟨_, T.glo 15, ?_⟩
  show Df P w K mg base (d_checked_steps.path K) 5 ["steps"] (sp_checked_steps K)
  refine T.df 12 (d := d_checked_steps) rfl rfl sc_checked_steps (fun vs H Q E h => by obtain ⟨_, _, _, e, _⟩ := h; rw [e]; rfl) (fun _ _ _ _ _ _ us hl => match us, hl with | [_], _ => rfl) (fun cdv A outer s H vs Q E hr h => ?_)

  obtain ⟨a, us, rows, rfl, ha, na, nd, l1, l2, ok, hc, q⟩ := h
  refine ⟨_, PSs.nox (pss_cons (ps_if (PW.pt (pw_or (pt_not (pt_val (pe_cal (ok_is_row T) hr (by decide) rfl (pa_cons (pv 0) pa_nil)))) (pw_or1 (pt_not (pt_chain op_le op_le pe_int (pe_callB call_len_seq rfl (T.free 74) boot_len (pa_cons (pv 0) pa_nil)) (pe_mint rfl (T.int 88)))))))
      pss_never pss_nil)
      (pss_cons (ps_set (i := 1) sc_checked_steps.nd rfl (Or.inl rfl) (pe_lst pa_nil))
      (pss_cons (ps_set (i := 2) sc_checked_steps.nd rfl (Or.inl rfl) pe_dnewK)
      (pss_cons (ps_for PassesOwn.never rfl (pi_enum rfl (T.free 82) (pa_cons (pv 0) pa_nil)) (pg_tup rfl (pgs_cons (pg_name (i := 3) sc_checked_steps.nd rfl (Or.inl rfl)) (pgs_cons (pg_name (i := 4) sc_checked_steps.nd rfl (Or.inl rfl)) pgs_nil)))
      (pss_cons (ps_if (PW.pt (pw_or (pt_not (pt_val (pe_cal (ok_is_step T) hr (by decide) rfl (pa_cons (pv 4) pa_nil)))) (pw_or1 (pt_cmpR (op_inK hr) (pv 4) (pv 1) (by with_unfolding_all rfl)))))
      pss_never pss_nil)
      (pss_cons (ps_dput (hu_of hr) (pv 2) (pe_ix ix_tup (pv 4) pe_int (fun _ _ => rfl)) (pe_op op_add (pe_dget2 (by exact hu_of hr) (pv 2) (pe_ix ix_tup (pv 4) pe_int (fun _ _ => rfl)) pe_int ⟨rfl, rfl, rfl, rfl⟩) pe_int) rfl)
      (pss_cons (ps_if (pt_cmpR op_gt (pe_dget (by exact hu_of hr) (pv 2) (pe_ix ix_tup (pv 4) pe_int (fun _ _ => rfl)) (fun _ _ => rfl)) (pe_mint rfl (T.int 89)) (nomark _))
      pss_never pss_nil)
      (pss_one (ps_expr (pe_bm PySem.F.plainAttrs_list PySem.F.slot_list_append PySem.F.type_list_append mt_append (pv 1) (pa_cons (pv 4) pa_nil))))))))
      (pss_one (ps_ret (pv 1))))))), ?_⟩
  have hlen := na.length
  rw [List.length_map] at hlen
  refine ⟨_, rfl, a, _, rfl, .inl ha, fun v1 H1 e1 ev => ?_⟩
  subst ev
  refine ⟨_, rfl, iteF ?_⟩
  refine ⟨_, rfl, a, us, rfl, .inl (e1.sqL ha), ?_⟩
  refine ⟨_, _, rfl, rfl, _, rfl, ?_⟩
  refine itT (dT (show (1 : Int) ≤ ((us.length : Nat) : Int) by omega)) ?_
  refine ⟨_, _, rfl, rfl, _, rfl, ?_⟩
  refine itF (nF (show ((us.length : Nat) : Int) ≤ 80 by omega)) ?_
  refine ⟨by show 0 ≤ sizeLine; decide, fun R hR => ?_⟩
  refine fun D hD => ?_
  have e2 := (e1.to (o := .lst []) hR).to (o := .dK []) hD
  refine ⟨_, rfl, a, us, rfl, e2.sqL ha, ?_⟩
  have hR0 := e1.free hR
  have hD0 := (e1.to (o := .lst []) hR).free hD
  refine for_it (walk_enum (xs := us)) (fun i σ H3 => ∃ v3 v4, ∃ ks : List V, ∃ kvs : List (Key × V), σ = [some (.ref a), some (.ref R), some (.ref D), v3, v4] ∧ Ex H H3 ∧ H3 R = some (.lst ks) ∧ NkA K H3 ks ((rows.take i).map kRow) ∧ H3 D = some (.dK kvs) ∧ CntD kvs (rows.take i) ∧ kvs.length ≤ i)
    ⟨_, _, [], [], rfl, e2, (Ex.new hD) _ _ upd_same, .nil, upd_same, fun s => .inl ⟨rfl, rfl⟩, Nat.zero_le _⟩ (fun i σ H3 _ p => by obtain ⟨v3, v4, ks, kvs, rfl, e, _⟩ := p; exact e.sqL ha) (fun i x σ H3 H4 hi p y => ?_) (fun σ H3 p => ?_)
  · obtain ⟨v3, v4, ks, kvs, rfl, e3, hks, nks, hkv, cd, lk⟩ := p
    obtain ⟨t, x1, x2, rfl, ht, rfl, hx1, hx2⟩ := y
    cases hx1
    have hx2 : us[i]? = some x2 := hx2
    obtain ⟨k, hk, nk⟩ := NkA.get na hx2
    rw [List.getElem?_map] at hk
    obtain ⟨r, hr0, rfl⟩ := Option.map_eq_some_iff.mp hk
    have hrm := List.mem_of_getElem? hr0
    have hir : i < rows.length := (List.getElem?_eq_some_iff.mp hr0).1
    have e4 := e3.to (o := .tup [.int (i : Nat), x2]) ht
    refine ⟨t, _, rfl, SqT.of upd_same, rfl, _, _, rfl, _, _, rfl, rfl, ?_⟩
    refine ⟨_, rfl, x2, r, rfl, Nk.mono e4 _ _ nk, ok r hrm, fun v5 H5 e5 ev => ?_⟩
    subst ev
    have e35 := (Ex.new (o := .tup [.int (i : Nat), x2]) ht).trans e5
    have e5' := e4.trans e5
    refine ⟨_, rfl, iteF ?_⟩
    have hks5 := e35 _ _ hks
    have nks5 := NkA.mono e35 _ _ nks
    refine ⟨_, rfl, _, rfl, R, kRow r, (rows.take i).map kRow, rfl, Nk.mono e5' _ _ nk, SqK.l (SqL.of hks5) nks5, Nat.le_trans (kRow_depth r) (by decide), _, rfl, ?_⟩
    have hnot : r ∉ rows.take i := fun hm => by
      obtain ⟨j, hj, e⟩ := List.getElem_of_mem hm
      rw [List.length_take] at hj
      rw [List.getElem_take] at e
      have e2 : rows[i]'hir = r := (List.getElem?_eq_some_iff.mp hr0).2
      have := (List.getElem_inj nd).mp (e.trans e2.symm)
      omega
    refine itF (dF fun z => hnot ((mem_map_inj kRow_inj).mp z)) ?_
    obtain ⟨ra, rfl, hra⟩ := Nk.row nk
    have hra5 := e5'.sqT hra
    have hkv5 := e35 _ _ hkv
    have nk5 := Nk.mono e5' _ _ nk
    refine ⟨_, rfl, D, rfl, .inl ⟨_, .inl hkv5⟩, _, rfl, _, _, _, _, rfl, rfl, hra5, rfl, _, DGet.k (k := .inl r.1) hkv5, ?_⟩
    rw [cd.get]
    have lkv : kvs.length < sizeLine := Nat.lt_of_le_of_lt (show kvs.length ≤ 100 by omega) (by decide)
    refine ⟨_, _, rfl, rfl, ?_⟩
    refine ⟨_, rfl, _, rfl, _, _, _, _, rfl, rfl, hra5, rfl, D, _, rfl, DPut.k (k := .inl r.1) hkv5 lkv, ?_⟩
    have cd2 := cd.put r
    rw [← take_next hr0] at cd2
    have hRD : R ≠ D := ne_of hks5 hkv5 (fun z => nomatch z)
    have hks6 := (upd_ne (o := .dK (putK kvs (.inl r.1) (.int ((cnt (rows.take i) r.1 : Nat) + 1)))) hRD).trans hks5
    have nks6 := NkA.upd (o := .dK (putK kvs (.inl r.1) (.int ((cnt (rows.take i) r.1 : Nat) + 1)))) hkv5 tup_dk _ _ nks5
    have nk6 := Nk.upd (o := .dK (putK kvs (.inl r.1) (.int ((cnt (rows.take i) r.1 : Nat) + 1)))) hkv5 tup_dk _ _ nk5
    have hra6 := sqT_upd (o := .dK (putK kvs (.inl r.1) (.int ((cnt (rows.take i) r.1 : Nat) + 1)))) hra5 hkv5 tup_dk
    have hget : valV (putK kvs (.inl r.1) (.int ((cnt (rows.take i) r.1 : Nat) + 1))) (.inl r.1) = some (.int ((cnt (rows.take i) r.1 : Nat) + 1)) := by rw [valV_put, if_pos rfl]
    refine ⟨_, rfl, _, rfl, _, _, _, _, rfl, rfl, hra6, rfl, D, _, rfl, .inl ⟨_, .inl r.1, .inl upd_same, rfl, hget.symm⟩, ?_⟩
    have c8 : cnt (rows.take i) r.1 + 1 ≤ 8 := by
      have h1 := hc r.1
      have h2 := cnt_take rows (i + 1) r.1
      rw [take_next hr0, cnt_snoc, if_pos rfl] at h2
      omega
    refine ⟨_, _, rfl, rfl, _, rfl, ?_⟩
    refine itF (dF (by omega)) ?_
    have lks := nks.length
    rw [List.length_map, List.length_take] at lks
    refine ⟨_, rfl, .inl ⟨rfl, _, SqL.of hks6⟩, _, rfl, R, _, _, rfl, rfl, hks6, Nat.lt_of_le_of_lt (show ks.length ≤ 100 by omega) (by decide), ?_⟩
    refine ⟨_, _, ks ++ [.ref ra], _, rfl, (e5'.mut hD0).mut hR0, upd_same, ?_, (upd_ne hRD.symm).trans upd_same, cd2, ?_⟩
    · rw [take_next hr0, map_snoc]
      exact NkA.append (NkA.other nks6 hks6) (.cons (Nk.upd hks6 lst_ne _ _ nk6) .nil)
    · exact Nat.le_trans (length_putK _ _ _) (by omega)
  · obtain ⟨v3, v4, ks, kvs, rfl, e3, hks, nks, hkv, cd, lk⟩ := p
    rw [hlen, List.take_length] at nks
    exact ⟨_, rfl, q.of e3 ⟨R, ks, rfl, hks, nks⟩⟩
def sp_checked_faults (K : PySem.W.Frag) : Sp := fun vs H Q _ => ∃ a b, ∃ ft : Tab, ∃ ws : List Str, vs = [.ref a, .ref b] ∧ H a = some (.dK (tD ft)) ∧ SqL K H b (ws.map V.str) ∧ TbOk ft ∧ ft.length ≤ 3 ∧ (∀ p ∈ ft, p.1 ∈ ws) ∧ ws.Nodup ∧ ws.length ≤ 50 ∧ Ret H Q fun v H' => ∃ d, v = .ref d ∧ H' d = some (.dK (tD (tabAt ft ws)))
theorem sc_checked_faults : FnScope ["faults", "words", "names", "word", "name"] ["faults", "words"] d_checked_faults.scope := ⟨rfl, rfl, rfl, by decide +kernel, rfl, by decide +kernel, by decide +kernel⟩
theorem ok_checked_faults (T : Tp K mg) : Cal P w K mg base "checked_faults" 2 ["faults", "words"] (sp_checked_faults K) := by
  refine ⟨_, T.glo 17, ?_⟩
  show Df P w K mg base (d_checked_faults.path K) 2 ["faults", "words"] (sp_checked_faults K)
  refine T.df 14 (d := d_checked_faults) rfl rfl sc_checked_faults (fun vs H Q E h => by obtain ⟨_, _, _, _, e, _⟩ := h; rw [e]; rfl) (fun _ _ _ _ _ _ us hl => match us, hl with | [_, _], _ => rfl) (fun cdv A outer s H vs Q E hr h => ?_)

  obtain ⟨a, b, ft, ws, rfl, ha, hb, tk, l3, hw, nd, lw, q⟩ := h
  refine ⟨_, PSs.nox (pss_cons (ps_if (pt_cmpR op_isN (pv 0) pe_non (nomark _))
      pss_never pss_nil)
      (pss_cons (ps_if (pt_not (pt_val (pe_callB call_isi rfl (T.free 75) boot_isinstance (pa_cons (pv 0) (pa_cons (pe_bltn (v := .ty "dict") rfl (T.free 78) boot_dict rfl) pa_nil)))))
      pss_never pss_nil)
      (pss_cons (ps_set (i := 2) sc_checked_faults.nd rfl (Or.inl rfl) (pe_lst pa_nil))
      (pss_cons (ps_lock (ps_for PassesOwn.never rfl (pi_items (pv 0)) (pg_tup rfl (pgs_cons (pg_name (i := 3) sc_checked_faults.nd rfl (Or.inl rfl)) (pgs_cons (pg_name (i := 4) sc_checked_faults.nd rfl (Or.inl rfl)) pgs_nil)))
      (pss_cons (ps_if (PW.pt (pw_or (pt_not (pt_val (pe_cal (ok_is_name T) hr (by decide) rfl (pa_cons (pv 3) pa_nil)))) (pw_or (pt_cmpR (op_notInK hr) (pv 3) (pv 1) (by with_unfolding_all rfl)) (pw_or1 (pt_not (pt_val (pe_cal (ok_is_name T) hr (by decide) rfl (pa_cons (pv 4) pa_nil))))))))
      pss_never pss_nil)
      (pss_cons (ps_if (pt_cmpR (op_notInK hr) (pv 4) (pv 2) (by with_unfolding_all rfl))
      (pss_one (ps_expr (pe_bm PySem.F.plainAttrs_list PySem.F.slot_list_append PySem.F.type_list_append mt_append (pv 2) (pa_cons (pv 4) pa_nil)))) pss_nil)
      (pss_one (ps_if (pt_cmpR op_gt (pe_callB call_len_seq rfl (T.free 74) boot_len (pa_cons (pv 2) pa_nil)) (pe_mint rfl (T.int 91)) (nomark _))
      pss_never pss_nil))))))
      (pss_one (ps_ret (pe_dc (own := [("word", 3)]) rfl sc_checked_faults.nd (pi_list (pv 1)) (blkOk_by (N := ["faults", "words", "names", "word", "name"]) (sc := d_checked_faults.scope) (by decide +kernel)) (fun _ _ _ _ _ => (pg_name (i := 3) sc_checked_faults.nd rfl (Or.inl rfl))) (fun _ _ _ _ _ => pts_one (pt_cmp (pc_din (hu_of hr) (pv 3) (pv 0)))) (fun _ _ _ _ _ => (pv 3)) (fun _ _ _ _ _ => (pe_dget (by exact hu_of hr) (pv 0) (pv 3) (fun _ _ => rfl)))))))))), ?_⟩
  refine ⟨_, rfl, rfl, _, rfl, itF rfl ?_⟩
  refine ⟨_, rfl, .ref a, .ty "dict", _, _, true, rfl, .ty _, tyx_D (.inl ha), kit_ty (by decide +kernel), true, rfl, iteF ?_⟩
  refine ⟨by show 0 ≤ sizeLine; decide, fun R hR => ?_⟩
  have e1 := Ex.new (o := .lst []) hR
  refine ⟨a, _, e1 _ _ ha, True.intro, fun od => ?_⟩
  refine ⟨_, rfl, a, od, _, rfl, upd_same, ?_⟩
  have nRa : R ≠ a := (ne_of_none ha hR).symm
  have hR2 : (upd (upd H R (.lst [])) a (.frz od (.dK (tD ft)))) R = some (.lst []) := (upd_ne nRa).trans upd_same
  have hRf : (upd H a (.frz od (.dK (tD ft)))) R = none := (upd_ne nRa).trans hR
  have e0 : Ex (upd H a (.frz od (.dK (tD ft)))) (upd (upd H R (.lst [])) a (.frz od (.dK (tD ft)))) := fun c o h => by
    by_cases ca : c = a
    · subst ca
      rw [upd_same] at h ⊢
      exact h
    · rw [upd_ne ca] at h ⊢
      exact Ex.new hR _ _ h
  have hbf : SqL K (upd H a (.frz od (.dK (tD ft)))) b (ws.map V.str) := sqL_upd hb ha dk_ne
  refine for_it walk_items (fun i σ H1 => ∃ v3 v4, ∃ ks : List Str, σ = [some (.ref a), some (.ref b), some (.ref R), v3, v4] ∧ Ex (upd H a (.frz od (.dK (tD ft)))) H1 ∧ H1 R = some (.lst (ks.map V.str)) ∧ ks.length ≤ i) ⟨_, _, [], rfl, e0, hR2, Nat.zero_le _⟩ (fun i σ H1 _ p => by obtain ⟨v1, v2, ks, rfl, e, _⟩ := p; exact e _ _ upd_same) (fun i x σ H1 H2 hi p y => ?_) (fun σ H1 p => ?_)
  · obtain ⟨v1, v2, ks, rfl, e, hks, lks⟩ := p
    obtain ⟨t, x1, x2, rfl, ht, rfl, hx1, hx2⟩ := y
    obtain ⟨⟨k, v⟩, hkv, rfl⟩ := Option.map_eq_some_iff.mp hx1
    obtain ⟨p, hp, rfl, rfl⟩ := tD_get hkv
    have hx3 : (tD ft)[i]?.map Prod.snd = some x2 := hx2
    rw [hkv] at hx3
    cases hx3
    have hpm := List.mem_of_getElem? hp
    have pm := tk.nm p hpm
    have iF : i < ft.length := (List.getElem?_eq_some_iff.mp hp).1
    have e2 := Ex.new (o := .tup [.str p.1, .str p.2]) ht
    refine ⟨t, _, rfl, SqT.of upd_same, rfl, _, _, rfl, _, _, rfl, rfl, ?_⟩
    refine ⟨_, rfl, p.1, rfl, pm.1, fun v5 H5 e5 ev => ?_⟩
    subst ev
    have e25 := e2.trans e5
    refine ⟨_, rfl, iteF ?_⟩
    refine ⟨_, rfl, _, rfl, b, .text p.1, ws.map .text, rfl, .text _, SqK.l ((e.trans e25).sqL hbf) (NkA.strs _), Nat.zero_le _, _, rfl, ?_⟩
    refine itF (nF ((mem_map_inj text_inj).mpr (hw p hpm))) ?_
    refine ⟨_, rfl, p.2, rfl, pm.2, fun v6 H6 e6 ev => ?_⟩
    subst ev
    have e26 := e25.trans e6
    have hks6 := e26 _ _ hks
    refine ⟨_, rfl, iteF ?_⟩
    refine ⟨_, rfl, _, rfl, R, .text p.2, ks.map .text, rfl, .text _, SqK.l (SqL.of hks6) (NkA.strs _), Nat.zero_le _, _, rfl, ?_⟩
    refine itE (fun c => ?_) fun c => ?_
    · refine ⟨_, rfl, .inl ⟨rfl, _, SqL.of hks6⟩, _, rfl, R, _, _, rfl, rfl, hks6, Nat.lt_of_le_of_lt (show (ks.map V.str).length ≤ 100 by rw [List.length_map]; omega) (by decide), ?_⟩
      refine ⟨_, rfl, R, _, rfl, .inl (SqL.of upd_same), _, _, rfl, rfl, _, rfl, ?_⟩
      refine itF (dF (by rw [List.length_append, List.length_map, List.length_singleton]; omega)) ?_
      refine ⟨_, _, ks ++ [p.2], rfl, (e.trans e26).mut hRf, ?_, by rw [List.length_append, List.length_singleton]; omega⟩
      rw [map_snoc]
      exact upd_same
    · refine ⟨_, rfl, R, _, rfl, .inl (SqL.of hks6), _, _, rfl, rfl, _, rfl, ?_⟩
      refine itF (dF (by rw [List.length_map]; omega)) ?_
      exact ⟨_, _, ks, rfl, e.trans e26, hks6, by omega⟩
  · obtain ⟨v1, v2, ks, rfl, e, hks, lks⟩ := p
    refine ⟨e _ _ upd_same, ?_⟩
    have eH : Ex H (upd H1 a (.dK (tD ft))) := Ex.back ha e
    generalize upd H1 a (.dK (tD ft)) = Hc at eH ⊢
    have hbc := eH.sqL hb
    have hac := eH _ _ ha
    refine ⟨_, rfl, b, rfl, ⟨_, hbc⟩, fun D hD => ?_⟩
    refine cc_it (walk_list (xs := ws.map V.str)) (fun i H1 => Ex Hc H1 ∧ H1 D = some (.dK (tD (tabAt ft (ws.take i))))) ⟨Ex.new hD, upd_same⟩ (fun i H1 _ p => p.1.sqL hbc) (fun i x H1 H2 hi p y => ?_) (fun H1 p => ?_)
    · obtain ⟨rfl, hx⟩ := y
      obtain ⟨e, hd⟩ := p
      rw [List.getElem?_map] at hx
      obtain ⟨z, hz, rfl⟩ := Option.map_eq_some_iff.mp hx
      refine ⟨rfl, ?_⟩
      refine ⟨_, rfl, _, rfl, a, _, rfl, DGet.k (k := .inr z) (e _ _ hac), _, rfl, ?_⟩
      rw [valV_tD]
      cases hl : lk ft z with
      | none =>
        refine itF rfl ?_
        rw [take_next hz, tabAt_snoc_n hl]
        exact ⟨e, hd⟩
      | some x =>
        refine itT rfl ?_
        refine ⟨_, rfl, _, rfl, _, rfl, a, .str x, rfl, .inl ⟨_, .inr z, .inl (e _ _ hac), rfl, ?_⟩, ?_⟩
        · rw [valV_tD, hl]
          rfl
        · refine ⟨_, .inr z, rfl, hd, ?_, e.mut hD, ?_⟩
          · have h2 := tabAt_len ft (ws.take i)
            rw [List.length_take] at h2
            rw [tD_len]
            exact Nat.lt_of_le_of_lt (show _ ≤ 50 by omega) (by decide)
          · have hn : z ∉ ws.take i := fun hm => by
              obtain ⟨j, hj, e⟩ := List.getElem_of_mem hm
              rw [List.length_take] at hj
              rw [List.getElem_take] at e
              obtain ⟨hi2, e2⟩ := List.getElem?_eq_some_iff.mp hz
              have := (List.getElem_inj nd).mp (e.trans e2.symm)
              omega
            rw [tD_put _ (tabAt_key hn), take_next hz, tabAt_snoc_s hl]
            exact upd_same
    obtain ⟨e, hd⟩ := p
    rw [List.length_map, List.take_length] at hd
    exact q.of (eH.trans e) ⟨D, rfl, hd⟩
end
end K25
set_option pp.maxSteps 4000
/-! a machine is made: the leaving table, the reached states -/
namespace K25
open PySem PySem.Spec PyProof.Rows L2
theorem idx_snoc (xs : List Row) (x : Row) (s : Int) : idx (xs ++ [x]) s = idx xs s ++ if x.1 = s then [xs.length] else [] := by
  unfold idx
  rw [List.length_append, List.length_singleton, List.range_succ, List.filter_append]
  have h1 : (List.range xs.length).filter (fun i => decide (((xs ++ [x])[i]?.map (·.1)) = some s)) = (List.range xs.length).filter (fun i => decide ((xs[i]?.map (·.1)) = some s)) := by
    refine List.filter_congr fun i hi => ?_
    rw [List.getElem?_append_left (List.mem_range.mp hi)]
  rw [h1]
  have h2 : (xs ++ [x])[xs.length]? = some x := by simp
  by_cases c : x.1 = s
  · simp [h2, c]
  · simp [h2, c]
abbrev ixV (rows : List Row) (s : Int) : List V := (idx rows s).map fun i => V.int (i : Nat)
theorem ixV_y {rows : List Row} {r : Row} {s : Int} (h : r.1 = s) : ixV (rows ++ [r]) s = ixV rows s ++ [V.int (rows.length : Nat)] := by
  unfold ixV
  rw [idx_snoc, if_pos h, List.map_append]
  rfl
theorem idx_n {rows : List Row} {r : Row} {s : Int} (h : ¬ r.1 = s) : idx (rows ++ [r]) s = idx rows s := by rw [idx_snoc, if_neg h, List.append_nil]
theorem ixV_n {rows : List Row} {r : Row} {s : Int} (h : ¬ r.1 = s) : ixV (rows ++ [r]) s = ixV rows s := by unfold ixV; rw [idx_n h]
structure LvD (H0 H : Hp) (kvs : List (Key × V)) (rows : List Row) : Prop where
  ix : ∀ s : Int, (valV kvs (.inl s) = none ∧ idx rows s = []) ∨ ∃ l, valV kvs (.inl s) = some (.ref l) ∧ H l = some (.lst (ixV rows s)) ∧ H0 l = none
  inj : ∀ (s s' : Int) (l : Addr), valV kvs (.inl s) = some (.ref l) → valV kvs (.inl s') = some (.ref l) → s = s'
theorem LvD.mono {H0 H H' : Hp} {kvs : List (Key × V)} {rows : List Row} (h : LvD H0 H kvs rows) (e : Ex H H') : LvD H0 H' kvs rows := ⟨fun s => (h.ix s).imp id fun ⟨l, a, b, c⟩ => ⟨l, a, e _ _ b, c⟩, h.inj⟩
/-- one row more, its state met already -/
theorem LvD.old {H0 H : Hp} {kvs : List (Key × V)} {rows : List Row} (h : LvD H0 H kvs rows) {r : Row} {l : Addr} (hl : valV kvs (.inl r.1) = some (.ref l)) : LvD H0 (upd H l (.lst (ixV rows r.1 ++ [V.int (rows.length : Nat)]))) kvs (rows ++ [r]) := by
  refine ⟨fun s => ?_, h.inj⟩
  by_cases c : s = r.1
  · subst c
    rcases h.ix r.1 with ⟨e, _⟩ | ⟨l', e, hl', h0⟩
    · rw [e] at hl; cases hl
    · rw [e] at hl
      cases hl
      refine .inr ⟨l, e, ?_, h0⟩
      rw [ixV_y rfl]
      exact upd_same
  · rw [ixV_n (fun z => c z.symm), idx_n (fun z => c z.symm)]
    rcases h.ix s with ⟨e, z⟩ | ⟨l', e, hl', h0⟩
    · exact .inl ⟨e, z⟩
    · refine .inr ⟨l', e, ?_, h0⟩
      have hne : l' ≠ l := fun z => c (h.inj s r.1 l (by rw [← z]; exact e) hl)
      exact (upd_ne hne).trans hl'
theorem LvD.new {H0 H : Hp} {kvs : List (Key × V)} {rows : List Row} (h : LvD H0 H kvs rows) {r : Row} {p D : Addr} {o : HO} (hn : valV kvs (.inl r.1) = none) (hp : H p = none) (hp0 : H0 p = none) (hD : H D = some (.dK kvs)) :
    LvD H0 (upd (upd (upd H p (.lst [])) D o) p (.lst [V.int (rows.length : Nat)])) (putK kvs (.inl r.1) (.ref p)) (rows ++ [r]) := by
  have hnp : ∀ s : Int, valV kvs (.inl s) ≠ some (.ref p) := fun s e => by
    rcases h.ix s with ⟨e2, _⟩ | ⟨l, e2, hl, _⟩
    · rw [e] at e2; cases e2
    · rw [e] at e2
      cases e2
      rw [hp] at hl
      cases hl
  refine ⟨fun s => ?_, fun s s' l h1 h2 => ?_⟩
  · rw [valV_put]
    by_cases c : s = r.1
    · subst c
      have hi : idx rows r.1 = [] := by
        rcases h.ix r.1 with ⟨_, z⟩ | ⟨l, e, _⟩
        · exact z
        · rw [hn] at e; cases e
      refine .inr ⟨p, by rw [if_pos rfl], ?_, hp0⟩
      rw [ixV_y rfl]
      unfold ixV
      rw [hi]
      exact upd_same
    · rw [if_neg (fun z => c (key_inl.mp z)), ixV_n (fun z => c z.symm), idx_n (fun z => c z.symm)]
      rcases h.ix s with ⟨e, z⟩ | ⟨l, e, hl, h0⟩
      · exact .inl ⟨e, z⟩
      · refine .inr ⟨l, e, ?_, h0⟩
        have n1 : l ≠ p := fun z => hnp s (by rw [← z]; exact e)
        have n2 : l ≠ D := ne_of hl hD (fun z => nomatch z)
        exact (upd_ne n1).trans ((upd_ne n2).trans ((upd_ne n1).trans hl))
  · rw [valV_put] at h1 h2
    by_cases c1 : s = r.1
    · by_cases c2 : s' = r.1
      · rw [c1, c2]
      · rw [if_neg (fun z => c2 (key_inl.mp z))] at h2
        rw [if_pos (by rw [c1])] at h1
        cases h1
        exact absurd h2 (hnp s')
    · rw [if_neg (fun z => c1 (key_inl.mp z))] at h1
      by_cases c2 : s' = r.1
      · rw [if_pos (by rw [c2])] at h2
        cases h2
        exact absurd h1 (hnp s)
      · rw [if_neg (fun z => c2 (key_inl.mp z))] at h2
        exact h.inj s s' l h1 h2
theorem LvD.nil {H0 H : Hp} : LvD H0 H [] [] := ⟨fun s => .inl ⟨rfl, rfl⟩, fun s s' l h => nomatch h⟩
/-- states behind a step -/
def succS (rows : List Row) (s : Int) : List Int := (rows.filter fun r => decide (r.1 = s)).map (·.2.2)
theorem mem_succS {rows : List Row} {s t : Int} : t ∈ succS rows s ↔ ∃ r ∈ rows, r.1 = s ∧ r.2.2 = t := by
  unfold succS
  rw [List.mem_map]
  constructor
  · rintro ⟨r, hr, e⟩
    exact ⟨r, (List.mem_filter.mp hr).1, ofT (List.mem_filter.mp hr).2, e⟩
  · rintro ⟨r, hr, e, e2⟩
    exact ⟨r, List.mem_filter.mpr ⟨hr, dT e⟩, e2⟩
abbrev RchS (rows : List Row) (st : Int) : Int → Prop := Reach (succS rows) fun s => s = st
def seenS (rows : List Row) (js : List Nat) : List Int := js.filterMap fun j => rows[j]?.map (·.2.2)
theorem seenS_snoc {rows : List Row} {js : List Nat} {j : Nat} {r : Row} (h : rows[j]? = some r) : seenS rows (js ++ [j]) = seenS rows js ++ [r.2.2] := by
  unfold seenS
  rw [List.filterMap_append]
  simp [h]
theorem seenS_all {rows : List Row} {s t : Int} (h : t ∈ succS rows s) : t ∈ seenS rows (idx rows s) := by
  obtain ⟨r, hr, e1, e2⟩ := mem_succS.mp h
  obtain ⟨i, hi, e⟩ := List.getElem_of_mem hr
  have hg : rows[i]? = some r := by rw [List.getElem?_eq_getElem hi, e]
  unfold seenS
  rw [List.mem_filterMap]
  exact ⟨i, idx_mem.mpr ⟨r, hg, e1⟩, by rw [hg, ← e2]; rfl⟩
theorem RchS.sub {rows : List Row} {st : Int} {T : List Int} (h0 : st ∈ T) (hc : ∀ r ∈ rows, r.1 ∈ T → r.2.2 ∈ T) {s : Int} (h : RchS rows st s) : s ∈ T := Reach.closed (C := fun s => s ∈ T) (fun s e => by rw [e]; exact h0) (fun p q hp hq => by
  obtain ⟨r, hr, e1, e2⟩ := mem_succS.mp hq
  rw [← e2]
  exact hc r hr (by rw [e1]; exact hp)) h
section
variable {P : Program} {w : World} {K : PySem.W.Frag} {mg : Str → Option Value} {base : Heap}
def sp_leaving_table (K : PySem.W.Frag) : Sp := fun vs H Q _ => ∃ a us, ∃ rows : List Row, vs = [.ref a] ∧ SqL K H a us ∧ NkA K H us (rows.map kRow) ∧ rows.length ≤ 16 ∧ Ret H Q fun v H' => ∃ d kvs, v = .ref d ∧ H' d = some (.dK kvs) ∧ ∀ s : Int, (valV kvs (.inl s) = none ∧ idx rows s = []) ∨ ∃ l, valV kvs (.inl s) = some (.ref l) ∧ SqL K H' l (ixV rows s)
theorem sc_leaving_table : FnScope ["rows", "table", "number", "row", "known"] ["rows"] d_leaving_table.scope := ⟨rfl, rfl, rfl, by decide +kernel, rfl, by decide +kernel, by decide +kernel⟩
theorem ok_leaving_table (T : Tp K mg) : Cal P w K mg base "leaving_table" 1 ["rows"] (sp_leaving_table K) := by
  refine ⟨_, T.glo 18, ?_⟩
  show Df P w K mg base (d_leaving_table.path K) 1 ["rows"] (sp_leaving_table K)
  refine T.df 15 (d := d_leaving_table) rfl rfl sc_leaving_table (fun vs H Q E h => by obtain ⟨_, _, _, e, _⟩ := h; rw [e]; rfl) (fun _ _ _ _ _ _ us hl => match us, hl with | [_], _ => rfl) (fun cdv A outer s H vs Q E hr h => ?_)

  obtain ⟨a, us, rows, rfl, ha, na, l2, q⟩ := h
  refine ⟨_, PSs.nox (pss_cons (ps_set (i := 1) sc_leaving_table.nd rfl (Or.inl rfl) pe_dnewK)
      (pss_cons (ps_for PassesOwn.never rfl (pi_enum rfl (T.free 82) (pa_cons (pv 0) pa_nil)) (pg_tup rfl (pgs_cons (pg_name (i := 2) sc_leaving_table.nd rfl (Or.inl rfl)) (pgs_cons (pg_name (i := 3) sc_leaving_table.nd rfl (Or.inl rfl)) pgs_nil)))
      (pss_cons (ps_set (i := 4) sc_leaving_table.nd rfl (Or.inl rfl) (pe_dsetd (pv 1) (pe_ix ix_tup (pv 3) pe_int (fun _ _ => rfl)) (pe_lst pa_nil) ⟨rfl, rfl, rfl, rfl⟩))
      (pss_one (ps_expr (pe_bm PySem.F.plainAttrs_list PySem.F.slot_list_append PySem.F.type_list_append mt_append (pv 4) (pa_cons (pv 2) pa_nil))))))
      (pss_one (ps_ret (pv 1))))), ?_⟩
  have hlen := na.length
  rw [List.length_map] at hlen
  refine fun D hD => ?_
  have e1 := Ex.new (o := .dK []) hD
  refine ⟨_, rfl, a, us, rfl, e1.sqL ha, ?_⟩
  refine for_it (walk_enum (xs := us)) (fun i σ H3 => ∃ v2 v3 v4, ∃ kvs : List (Key × V), σ = [some (.ref a), some (.ref D), v2, v3, v4] ∧ Ex H H3 ∧ H3 D = some (.dK kvs) ∧ LvD H H3 kvs (rows.take i) ∧ kvs.length ≤ i)
    ⟨_, _, _, [], rfl, e1, upd_same, LvD.nil, Nat.zero_le _⟩ (fun i σ H3 _ p => by obtain ⟨v2, v3, v4, kvs, rfl, e, _⟩ := p; exact e.sqL ha) (fun i x σ H3 H4 hi p y => ?_) (fun σ H3 p => ?_)
  · obtain ⟨v2, v3, v4, kvs, rfl, e3, hkv, lv, lk⟩ := p
    obtain ⟨t, x1, x2, rfl, ht, rfl, hx1, hx2⟩ := y
    cases hx1
    have hx2 : us[i]? = some x2 := hx2
    obtain ⟨k, hk, nk⟩ := NkA.get na hx2
    rw [List.getElem?_map] at hk
    obtain ⟨r, hr0, rfl⟩ := Option.map_eq_some_iff.mp hk
    have hir : i < rows.length := (List.getElem?_eq_some_iff.mp hr0).1
    obtain ⟨ra, rfl, hra⟩ := Nk.row nk
    have et := Ex.new (o := .tup [.int (i : Nat), .ref ra]) ht
    have e4 := e3.trans et
    have hil : (rows.take i).length = i := by rw [List.length_take]; omega
    have lv4 := lv.mono et
    have hkv4 := et _ _ hkv
    refine ⟨t, _, rfl, SqT.of upd_same, rfl, _, _, rfl, _, _, rfl, rfl, ?_⟩
    refine ⟨_, rfl, D, rfl, .inl ⟨_, .inl hkv4⟩, _, rfl, _, _, _, _, rfl, rfl, e4.sqT hra, rfl, by show 0 ≤ sizeLine; decide, fun p hp => ?_⟩
    have lv5 := lv4.mono (Ex.new (o := .lst []) hp)
    have hkv5 := (Ex.new (o := .lst []) hp) _ _ hkv4
    refine ⟨kvs, .inl r.1, hkv5, rfl, Nat.lt_of_le_of_lt (show kvs.length ≤ 100 by omega) (by decide), fun v hv => ?_, fun hv => ?_⟩
    · rcases lv5.ix r.1 with ⟨e, _⟩ | ⟨l, e, hl, h0⟩
      · rw [e] at hv; cases hv
      · rw [e] at hv
        cases hv
        refine ⟨_, rfl, .inl ⟨rfl, _, SqL.of hl⟩, _, rfl, l, _, _, rfl, rfl, hl, ?_, ?_⟩
        · have h1 := idx_len (rows.take i) r.1
          rw [List.length_map]
          exact Nat.lt_of_le_of_lt (show _ ≤ 100 by omega) (by decide)
        · have lo := lv5.old e
          rw [hil, ← take_next hr0] at lo
          exact ⟨_, _, _, kvs, rfl, (e4.to hp).mut h0, (upd_ne (ne_of hkv5 hl (fun z => nomatch z))).trans hkv5, lo, by omega⟩
    · have hpD : p ≠ D := fun z => by rw [z, hkv4] at hp; cases hp
      have hl : (upd (upd (upd H3 t (.tup [.int (i : Nat), .ref ra])) p (.lst [])) D (.dK (putK kvs (.inl r.1) (.ref p)))) p = some (.lst []) := (upd_ne hpD).trans upd_same
      refine ⟨_, rfl, .inl ⟨rfl, _, SqL.of hl⟩, _, rfl, p, _, _, rfl, rfl, hl, by show 0 < sizeLine; decide, ?_⟩
      have lo := lv4.new (o := .dK (putK kvs (.inl r.1) (.ref p))) hv hp (e4.free hp) hkv4
      rw [hil, ← take_next hr0] at lo
      refine ⟨_, _, _, _, rfl, ((e4.to hp).mut hD).mut (e4.free hp), (upd_ne hpD.symm).trans upd_same, lo, ?_⟩
      exact Nat.le_trans (length_putK _ _ _) (by omega)
  · obtain ⟨v2, v3, v4, kvs, rfl, e3, hkv, lv, lk⟩ := p
    rw [hlen, List.take_length] at lv
    exact ⟨_, rfl, q.of e3 ⟨D, kvs, rfl, hkv, fun s => (lv.ix s).imp id fun ⟨l, a, b, _⟩ => ⟨l, a, SqL.of b⟩⟩⟩
def sp_reached_states (K : PySem.W.Frag) : Sp := fun vs H Q _ => ∃ st : Int, ∃ a us, ∃ rows : List Row, ∃ d kvs, ∃ T : List Int, vs = [.int st, .ref a, .ref d] ∧ SqL K H a us ∧ NkA K H us (rows.map kRow) ∧ H d = some (.dK kvs) ∧
  (∀ s : Int, (valV kvs (.inl s) = none ∧ idx rows s = []) ∨ ∃ l, valV kvs (.inl s) = some (.ref l) ∧ SqL K H l (ixV rows s)) ∧ T.length ≤ 20 ∧ st ∈ T ∧ (∀ r ∈ rows, r.1 ∈ T → r.2.2 ∈ T) ∧
  Ret H Q fun v H' => ∃ l, ∃ met : List Int, v = .ref l ∧ H' l = some (.lst (met.map V.int)) ∧ SrtBy .num met ∧ ∀ s, s ∈ met ↔ RchS rows st s
def mtD (Ms : List Int) : List (Key × V) := Ms.map fun s => (.inl s, .bl true)
theorem mtD_len (Ms : List Int) : (mtD Ms).length = Ms.length := List.length_map _
theorem mtD_get (Ms : List Int) (s : Int) : valV (mtD Ms) (.inl s) = if s ∈ Ms then some (.bl true) else none := by
  induction Ms with
  | nil => rfl
  | cons x xs ih =>
    show valV ((Sum.inl x, V.bl true) :: mtD xs) (.inl s) = _
    by_cases c : x = s
    · subst c
      rw [valV_pos rfl, if_pos List.mem_cons_self]
    · rw [valV_neg (fun z => c (key_inl.mp z)), ih]
      by_cases m : s ∈ xs
      · rw [if_pos m, if_pos (List.mem_cons_of_mem _ m)]
      · rw [if_neg m, if_neg (fun z => (List.mem_cons.mp z).elim (fun q => c q.symm) m)]
theorem mtD_put {Ms : List Int} {s : Int} (h : s ∉ Ms) : putK (mtD Ms) (.inl s) (.bl true) = mtD (Ms ++ [s]) := by
  rw [putK_new _ (by rw [mtD_get, if_neg h])]
  unfold mtD
  rw [List.map_append]
  rfl
theorem mtD_keys (Ms : List Int) : (mtD Ms).map (fun kv => kV kv.1) = Ms.map V.int := by
  unfold mtD
  rw [List.map_map]
  rfl
theorem sc_reached_states : FnScope ["start", "rows", "leaving", "met", "waiting", "state", "number", "target"] ["start", "rows", "leaving"] d_reached_states.scope := ⟨rfl, rfl, rfl, by decide +kernel, rfl, by decide +kernel, by decide +kernel⟩
theorem ok_reached_states (T : Tp K mg) : Cal P w K mg base "reached_states" 1 ["start", "rows", "leaving"] (sp_reached_states K) := by
  refine ⟨_, T.glo 19, ?_⟩
  show Df P w K mg base (d_reached_states.path K) 1 ["start", "rows", "leaving"] (sp_reached_states K)
  refine T.df 16 (d := d_reached_states) rfl rfl sc_reached_states (fun vs H Q E h => by obtain ⟨_, _, _, _, _, _, _, e, _⟩ := h; rw [e]; rfl) (fun _ _ _ _ _ _ us hl => match us, hl with | [_, _, _], _ => rfl) (fun cdv A outer s H vs Q E hr h => ?_)

  obtain ⟨st, a, us, rows, d, kvs, TT, rfl, ha, na, hd, hx, hT, h0, hc, q⟩ := h
  refine ⟨_, PSs.nox (pss_cons (ps_set (i := 3) sc_reached_states.nd rfl (Or.inl rfl) (pe_oneK hr (pv 0) pe_bl))
      (pss_cons (ps_set (i := 4) sc_reached_states.nd rfl (Or.inl rfl) (pe_lst (pa_cons (pv 0) pa_nil)))
      (pss_cons (ps_while PassesOwn.never (pt_truth (pv 4) (fun _ => rfl)) (pss_cons (ps_set (i := 5) sc_reached_states.nd rfl (Or.inl rfl) (pe_bm0 PySem.F.plainAttrs_list PySem.F.slot_list_pop PySem.F.type_list_pop mt_pop (pv 4)))
      (pss_one (ps_for PassesOwn.never rfl (pi_list (pe_dget2 (by exact hu_of hr) (pv 2) (pv 5) (pe_lst pa_nil) ⟨rfl, rfl, rfl, rfl⟩)) (pg_name (i := 6) sc_reached_states.nd rfl (Or.inl rfl))
      (pss_cons (ps_set (i := 7) sc_reached_states.nd rfl (Or.inl rfl) (pe_ix ix_tup (pe_ix ix_list (pv 1) (pv 6) (fun _ _ => rfl)) pe_int (fun _ _ => rfl)))
      (pss_one (ps_if (pt_cmp (pc_dnotin (hu_of hr) (pv 7) (pv 3)))
      (pss_cons (ps_dput (hu_of hr) (pv 3) (pv 7) pe_bl rfl)
      (pss_one (ps_expr (pe_bm PySem.F.plainAttrs_list PySem.F.slot_list_append PySem.F.type_list_append mt_append (pv 4) (pa_cons (pv 7) pa_nil))))) pss_nil)))))))
      (pss_one (ps_ret (pe_callB (call_sortedK rfl hr) rfl (T.free 76) boot_sorted (pa_cons (pe_callTy (call_listD rfl) rfl (T.free 77) boot_list (pa_cons (pv 3) pa_nil)) pa_nil))))))), ?_⟩
  refine fun D hD => ?_
  refine ⟨_, rfl, upd_same, [(.inl st, .bl true)], rfl, by show 1 ≤ 15; decide, ?_⟩
  refine ⟨_, rfl, by show 1 ≤ sizeLine; decide, fun Wl hWl => ?_⟩
  have e1 : Ex H (upd (upd H D (.dK [])) D (.dK (mergeK [] [(.inl st, .bl true)]))) := (Ex.new hD).mut hD
  have hWl0 := e1.free hWl
  have e2 := e1.to (o := .lst [.int st]) hWl
  have d0 : Dfs (succS rows) (fun s => s = st) [st] [st] := Dfs.start (by simp) fun p => by simp
  have hD2 : (upd (upd (upd H D (.dK [])) D (.dK (mergeK [] [(.inl st, .bl true)]))) Wl (.lst [.int st])) D = some (.dK (mtD [st])) := (Ex.new hWl) _ _ upd_same
  refine ⟨fun m' σ H1 => ∃ v5 v6 v7, ∃ Ms Ws : List Int, σ = [some (.int st), some (.ref a), some (.ref d), some (.ref D), some (.ref Wl), v5, v6, v7] ∧ Ex H H1 ∧ H1 D = some (.dK (mtD Ms)) ∧ H1 Wl = some (.lst (Ws.map V.int)) ∧ Dfs (succS rows) (fun s => s = st) Ms Ws ∧ 2 * (TT.length - Ms.length) + Ws.length = m' ∧ m' ≤ 2000,
    ⟨_, none, none, none, [st], [st], rfl, e2, hD2, upd_same, d0, rfl, by show 2 * (TT.length - 1) + 1 ≤ 2000; omega⟩, fun m' σ H1 p => ?_⟩
  obtain ⟨v5, v6, v7, Ms, Ws, rfl, e3, hM, hW, dd, em, em2⟩ := p
  have inT : ∀ s ∈ Ms, s ∈ TT := fun s hs => RchS.sub h0 hc (dd.reach s hs)
  refine ⟨_, rfl, _, .inl ⟨_, SqL.of hW, rfl⟩, ?_⟩
  rcases List.eq_nil_or_concat Ws with rfl | ⟨Ws', t, rfl⟩
  · refine itF rfl ?_
    refine ⟨_, rfl, D, _, rfl, .inl hM, fun l1 hl1 => ?_⟩
    rw [mtD_keys]
    refine ⟨l1, _, Ms.map .num, rfl, SqL.of upd_same, NkA.ints _, alk_nums _, fun k hk => (by obtain ⟨x, _, rfl⟩ := List.mem_map.mp hk; exact Nat.zero_le _), fun us p hus hp => ?_⟩
    rw [srt_map] at hus
    obtain rfl := NkA.toInts hus
    refine q.of ((e3.to hl1).to hp) ⟨p, srtBy .num Ms, rfl, upd_same, srtBy_srt num_inj (alk_nums _) dd.nd, fun s => ?_⟩
    rw [srtBy_mem]
    exact dd.ends s
  rw [List.concat_eq_append] at *
  rw [List.map_append, List.map_cons, List.map_nil] at hW
  refine itT (by simp) ⟨_, fun _ _ h => h, ?_⟩
  have dl : (Ws'.map V.int ++ [V.int t]).dropLast = Ws'.map V.int := by simp
  have gl : (Ws'.map V.int ++ [V.int t])[(Ws'.map V.int ++ [V.int t]).length - 1]? = some (V.int t) := by simp
  refine ⟨_, rfl, .inl ⟨rfl, _, SqL.of hW⟩, Wl, _, _, rfl, rfl, hW, gl, ?_⟩
  rw [dl]
  have e4 : Ex H (upd H1 Wl (.lst (Ws'.map V.int))) := e3.mut hWl0
  have nDW : D ≠ Wl := ne_of hM hW (fun z => nomatch z)
  have hM4 := (upd_ne (o := .lst (Ws'.map V.int)) nDW).trans hM
  have hd4 := e4 _ _ hd
  refine ⟨_, rfl, d, rfl, .inl ⟨_, .inl hd4⟩, _, rfl, by show 0 ≤ sizeLine; decide, fun p hp => ?_⟩
  have e5 := e4.to (o := .lst []) hp
  have ep := Ex.new (o := .lst []) hp
  refine ⟨_, DGet.k (k := .inl t) (ep _ _ hd4), ?_⟩
  have IN := dd.pop
  have em5 : 2 * (TT.length - Ms.length) + Ws'.length < m' := by rw [List.length_append] at em; simp only [List.length_singleton] at em; omega
  rcases hx t with ⟨ev, ei⟩ | ⟨l, ev, hl⟩
  · rw [ev]
    refine ⟨p, rfl, ⟨[], SqL.of upd_same⟩, ?_⟩
    refine for_it (walk_list (xs := [])) (fun i σ H2 => H2 = upd (upd H1 Wl (.lst (Ws'.map V.int))) p (.lst []) ∧ ∃ v6 v7, σ = [some (.int st), some (.ref a), some (.ref d), some (.ref D), some (.ref Wl), some (.int t), v6, v7]) ⟨rfl, _, _, rfl⟩ (fun i σ H2 _ p => by rw [p.1]; exact SqL.of upd_same) (fun i x σ H2 H3 hi p y => absurd hi (Nat.not_lt_zero i)) (fun σ H2 p => ?_)
    obtain ⟨rfl, v6, v7, rfl⟩ := p
    refine ⟨_, em5, _, v6, v7, Ms, Ws', rfl, e5, ep _ _ hM4, ep _ _ upd_same, ?_, rfl, by omega⟩
    refine IN.fin fun x hx => ?_
    have h := seenS_all hx
    rw [ei] at h
    exact h
  · rw [ev]
    refine ⟨l, rfl, ⟨_, e5.sqL hl⟩, ?_⟩
    refine for_it (walk_list (xs := ixV rows t)) (fun i σ H2 => ∃ v6 v7, ∃ Ms Ws : List Int, σ = [some (.int st), some (.ref a), some (.ref d), some (.ref D), some (.ref Wl), some (.int t), v6, v7] ∧ Ex H H2 ∧ H2 D = some (.dK (mtD Ms)) ∧ H2 Wl = some (.lst (Ws.map V.int)) ∧ DfsIn (succS rows) (fun s => s = st) t (seenS rows ((idx rows t).take i)) Ms Ws ∧ 2 * (TT.length - Ms.length) + Ws.length < m')
      ⟨_, _, Ms, Ws', rfl, e5, ep _ _ hM4, ep _ _ upd_same, IN, em5⟩ (fun i σ H2 _ p => by obtain ⟨v6, v7, Ms, Ws, rfl, e, _⟩ := p; exact e.sqL hl) (fun i x σ H2 H3 hi p y => ?_) (fun σ H2 p => ?_)
    · obtain ⟨v6, v7, Ms, Ws, rfl, e6, hM6, hW6, IN, em6⟩ := p
      obtain ⟨rfl, hx2⟩ := y
      rw [List.getElem?_map] at hx2
      obtain ⟨j, hj, rfl⟩ := Option.map_eq_some_iff.mp hx2
      obtain ⟨r, hr0, hr1⟩ := idx_mem.mp (List.mem_of_getElem? hj)
      obtain ⟨rv, hrv, nrv⟩ := NkA.get' na (show (rows.map kRow)[j]? = some (kRow r) by rw [List.getElem?_map, hr0]; rfl)
      obtain ⟨ra, rfl, hra⟩ := Nk.row nrv
      refine ⟨_, rfl, _, rfl, _, _, _, _, rfl, rfl, e6.sqL ha, atI_nat hrv, _, _, _, _, rfl, rfl, e6.sqT hra, rfl, ?_⟩
      refine ⟨_, rfl, _, rfl, D, _, rfl, DGet.k (k := .inl r.2.2) hM6, _, rfl, ?_⟩
      rw [mtD_get]
      have es := seenS_snoc (js := (idx rows t).take i) hr0
      rw [← take_next hj] at es
      have hs : r.2.2 ∈ succS rows t := mem_succS.mpr ⟨r, List.mem_of_getElem? hr0, hr1, rfl⟩
      by_cases c : r.2.2 ∈ Ms
      · rw [if_pos c]
        refine itF rfl ?_
        refine ⟨_, _, Ms, Ws, rfl, e6, hM6, hW6, ?_, em6⟩
        rw [es]
        exact IN.old c
      · rw [if_neg c]
        refine itT rfl ?_
        have a9 := IN.new c hs
        have nl := nodup_subP num_inj a9.nd (fun s hs => RchS.sub h0 hc (a9.reach s hs))
        rw [List.length_append, List.length_singleton] at nl
        refine ⟨_, rfl, _, rfl, D, _, rfl, DPut.k (k := .inl r.2.2) hM6 ?_, ?_⟩
        · rw [mtD_len]
          exact Nat.lt_of_le_of_lt (show _ ≤ 100 by omega) (by decide)
        rw [mtD_put c]
        have nWD : Wl ≠ D := ne_of hW6 hM6 (fun z => nomatch z)
        have hW7 := (upd_ne (o := .dK (mtD (Ms ++ [r.2.2]))) nWD).trans hW6
        refine ⟨_, rfl, .inl ⟨rfl, _, SqL.of hW7⟩, _, rfl, Wl, _, _, rfl, rfl, hW7, Nat.lt_of_le_of_lt (show (Ws.map V.int).length ≤ 5000 by rw [List.length_map]; omega) (by decide), ?_⟩
        refine ⟨_, _, Ms ++ [r.2.2], Ws ++ [r.2.2], rfl, (e6.mut hD).mut hWl0, (upd_ne nWD.symm).trans upd_same, ?_, ?_, ?_⟩
        · rw [map_snoc]
          exact upd_same
        · rw [es]
          exact a9
        · rw [List.length_append, List.length_append, List.length_singleton]
          omega
    · obtain ⟨v6, v7, Ms, Ws, rfl, e6, hM6, hW6, IN, em6⟩ := p
      rw [List.length_map, List.take_length] at IN
      exact ⟨_, em6, _, _, _, Ms, Ws, rfl, e6, hM6, hW6, IN.fin fun x hx => seenS_all hx, rfl, by omega⟩
end
end K25
set_option pp.maxSteps 4000
/-! a machine is made -/
namespace K25
open PySem PySem.Spec PyProof.Rows L2
/-- the words of rows -/
def wdsOf (rows : List Row) : List Str := rows.map fun r => r.2.1
/-- what a machine is made of; T: states that hold the start and are left by steps only to themselves -/
structure SyIn (st : Int) (rows : List Row) (ft : Tab) (T : List Int) : Prop where
  nd : rows.Nodup
  pos : 1 ≤ rows.length
  few : rows.length ≤ 16
  row : ∀ r ∈ rows, RowOk r
  c8 : ∀ s, cnt rows s ≤ 8
  tfew : T.length ≤ 20
  tst : st ∈ T
  st0 : 0 ≤ st ∧ st ≤ 99
  tcl : ∀ r ∈ rows, r.1 ∈ T → r.2.2 ∈ T
  live : ∀ s ∈ T, ∃ r ∈ rows, r.1 = s
  tok : TbOk ft
  ff : ft.length ≤ 3
  fw : ∀ p ∈ ft, p.1 ∈ wdsOf rows
  wfew : (insAll [] (wdsOf rows)).length ≤ 14
/-- what stands then -/
structure SyOf (st : Int) (rows : List Row) (ft : Tab) (S : Sy) : Prop where
  est : S.st = st
  erows : S.rows = rows
  elk : ∀ w, lk S.ft w = lk ft w
  ms : SrtBy .num S.met
  met : ∀ s, s ∈ S.met ↔ RchS rows st s
theorem tup_ins {c dx : Addr} {fs : List (Str × V)} : (∀ ws, HO.ins c dx fs ≠ .tup ws) ∧ ∀ q ws, HO.ins c dx fs ≠ .frz q (.tup ws) := ⟨fun _ z => (nomatch z), fun _ _ z => (nomatch z)⟩
theorem lst_ins {c dx : Addr} {fs : List (Str × V)} : (∀ ws, HO.ins c dx fs ≠ .lst ws) ∧ ∀ q ws, HO.ins c dx fs ≠ .frz q (.lst ws) := ⟨fun _ z => (nomatch z), fun _ _ z => (nomatch z)⟩
abbrev mFs (st : Int) (R p d5 d6 l7 : Addr) : List (Str × V) := [("first_state", .int st), ("step_rows", .ref R), ("word_list", .ref p), ("fault_table", .ref d5), ("leaving", .ref d6), ("met_states", .ref l7)]
section
variable {P : Program} {w : World} {K : PySem.W.Frag} {mg : Str → Option Value} {base : Heap}
def sp_Machine_init (K : PySem.W.Frag) : Sp := fun vs H Q _ => ∃ a dx, ∃ st : Int, ∃ l us, ∃ rows : List Row, ∃ d, ∃ ft : Tab, ∃ T : List Int, vs = [.ref a, .int st, .ref l, .ref d] ∧ H a = some (.ins (cM K) dx []) ∧ SqL K H l us ∧ NkA K H us (rows.map kRow) ∧ H d = some (.dK (tD ft)) ∧ SyIn st rows ft T ∧
  ∀ H' S, ExB a H H' → MacO K H' a S → SyOf st rows ft S → Q .non H'
theorem sc_Machine_init : FnScope ["self", "start", "steps", "faults", "rows", "words", "state", "row"] ["self", "start", "steps", "faults"] d_Machine_init.scope := ⟨rfl, rfl, rfl, by decide +kernel, rfl, by decide +kernel, by decide +kernel⟩
theorem ok_Machine_init (T : Tp K mg) : Df P w K mg base (d_Machine_init.path K) 6 ["self", "start", "steps", "faults"] (sp_Machine_init K) := by
  refine T.dfD 6 (d := d_Machine_init) rfl (by intro z; cases z) sc_Machine_init (fun vs H Q E h => by obtain ⟨_, _, _, _, _, _, _, _, _, e, _⟩ := h; rw [e]; rfl) (fun _ _ _ _ _ _ _ us its hl hi => match us, its, hl, hi with | [_, _, _, _], [_], _, _ => ⟨_, rfl, rfl⟩) (fun cdv A outer s H vs Q E hr h => ?_)

  obtain ⟨a, dx, st, l, us, rows, d, ft, TT, rfl, ha, hl, nl, hd, ok, q⟩ := h
  refine ⟨_, PSs.nox (pss_cons (ps_if (pt_not (pt_val (pe_cal (ok_is_state T) hr (by decide) rfl (pa_cons (pv 1) pa_nil))))
      pss_never pss_nil)
      (pss_cons (ps_set (i := 4) sc_Machine_init.nd rfl (Or.inl rfl) (pe_cal (ok_checked_steps T) hr (by decide) rfl (pa_cons (pv 2) pa_nil)))
      (pss_cons (ps_set (i := 5) sc_Machine_init.nd rfl (Or.inl rfl) (pe_callB (call_sortedSetK rfl hr) rfl (T.free 76) boot_sorted (pa_cons (pe_scK hr (own := [("row", 7)]) rfl sc_Machine_init.nd (pi_list (pv 4)) (blkOk_by (N := ["self", "start", "steps", "faults", "rows", "words", "state", "row"]) (sc := d_Machine_init.scope) (by decide +kernel)) (fun _ _ _ _ _ => (pg_name (i := 7) sc_Machine_init.nd rfl (Or.inl rfl))) (fun _ _ _ _ _ => pts_nil) (fun _ _ _ _ _ => (pe_ix (ix_tupB K rfl) (pv 7) pe_int (fun _ _ => rfl)))) pa_nil)))
      (pss_cons (ps_if (pt_cmpR op_gt (pe_callB call_len_seq rfl (T.free 74) boot_len (pa_cons (pv 5) pa_nil)) (pe_mint rfl (T.int 90)) (nomark _))
      pss_never pss_nil)
      (pss_cons (ps_fld (pv 0) (pv 1) rfl)
      (pss_cons (ps_fld (pv 0) (pv 4) rfl)
      (pss_cons (ps_fld (pv 0) (pv 5) rfl)
      (pss_cons (ps_fld (pv 0) (pe_cal (ok_checked_faults T) hr (by decide) rfl (pa_cons (pv 3) (pa_cons (pv 5) pa_nil))) rfl)
      (pss_cons (ps_fld (pv 0) (pe_cal (ok_leaving_table T) hr (by decide) rfl (pa_cons (pv 4) pa_nil)) rfl)
      (pss_cons (ps_fld (pv 0) (pe_cal (ok_reached_states T) hr (by decide) rfl (pa_cons (pv 1) (pa_cons (pv 4) (pa_cons (pe_fld (pv 0) rfl) pa_nil)))) rfl)
      (pss_one (ps_for PassesOwn.never rfl (pi_list (pe_fld (pv 0) rfl)) (pg_name (i := 6) sc_Machine_init.nd rfl (Or.inl rfl))
      (pss_one (ps_if (pt_cmp (pc_dnotin (hu_of hr) (pv 6) (pe_fld (pv 0) rfl)))
      pss_never pss_nil)))))))))))))), ?_⟩
  refine ⟨_, rfl, st, rfl, ok.st0.1, ok.st0.2, fun v1 H1 e1 ev => ?_⟩
  subst ev
  refine ⟨_, rfl, iteF ?_⟩
  refine ⟨_, rfl, l, us, rows, rfl, e1.sqL hl, NkA.mono e1 _ _ nl, ok.nd, ok.pos, ok.few, ok.row, ok.c8, fun v2 H2 e2 ⟨R, rs, ev, hR, nR⟩ => ?_⟩
  subst ev
  have e12 := e1.trans e2
  refine ⟨_, rfl, R, rfl, ⟨_, SqL.of hR⟩, fun D hD => ?_⟩
  refine cc_it (walk_list (xs := rs)) (fun i H3 => Ex H2 H3 ∧ H3 D = some (SKO w D ((insAll [] ((wdsOf rows).take i)).map Sum.inr))) ⟨Ex.new hD, upd_same⟩ (fun i H3 _ p => SqL.of (p.1 _ _ hR)) (fun i x H3 H4 hi p y => ?_) (fun H3 p => ?_)
  · obtain ⟨rfl, hx⟩ := y
    obtain ⟨e, hd⟩ := p
    obtain ⟨k, hk, nk⟩ := NkA.get nR hx
    rw [List.getElem?_map] at hk
    obtain ⟨r, hr, rfl⟩ := Option.map_eq_some_iff.mp hk
    obtain ⟨ra, rfl, hra⟩ := Nk.row nk
    refine ⟨rfl, ?_⟩
    refine ⟨_, rfl, _, _, _, _, rfl, rfl, e.sqT hra, rfl, _, .inr r.2.1, rfl, hd, ?_, e.mut hD, ?_⟩
    · have h2 := insAll_len ((wdsOf rows).take i) []
      have h3 := ok.few
      have h4 : (wdsOf rows).length = rows.length := List.length_map _
      rw [List.length_take] at h2
      rw [List.length_map]
      simp only [List.length_nil] at h2
      show _ < 4096
      omega
    · have hz2 : (wdsOf rows)[i]? = some r.2.1 := by unfold wdsOf; rw [List.getElem?_map, hr]; rfl
      rw [take_next hz2, insAll_snoc]
      have e3 : insK ((insAll [] ((wdsOf rows).take i)).map (Sum.inr : Str → Key)) (.inr r.2.1) = (insK (insAll [] ((wdsOf rows).take i)) r.2.1).map Sum.inr := insAll_inr [r.2.1] (insAll [] ((wdsOf rows).take i))
      rw [← e3]
      exact upd_same
  obtain ⟨e3, hD3⟩ := p
  have lR := nR.length
  rw [List.length_map] at lR
  rw [lR, ← List.length_map (f := fun (r : Row) => r.2.1) (as := rows), show rows.map (fun (r : Row) => r.2.1) = wdsOf rows from rfl, List.take_length] at hD3
  refine ⟨D, _, rfl, hD3, (by rw [toN_inr]; exact alk_texts _), fun us p hus hp => ?_⟩
  rw [toN_inr, srt_map] at hus
  obtain rfl := NkA.toStrs hus
  generalize hws : srtBy .text (insAll [] (wdsOf rows)) = ws at *
  have wlen : ws.length ≤ 14 := by rw [← hws, srtBy_len]; exact ok.wfew
  have wmem : ∀ x, x ∈ ws ↔ x ∈ wdsOf rows := fun x => by rw [← hws, srtBy_mem, insAll_mem]; simp
  have wnd : ws.Nodup := by rw [← hws]; exact ((srtBy_perm _ _).nodup_iff).mpr (insAll_nodup List.nodup_nil)
  have e4 := (e12.trans e3).to (o := .lst (ws.map V.str)) hp
  refine ⟨_, rfl, p, _, rfl, .inl (SqL.of upd_same), _, _, rfl, rfl, _, rfl, ?_⟩
  refine itF (dF (by rw [List.length_map]; omega)) ?_
  have b4 := (e4.b (a := a))
  have ha4 := e4 _ _ ha
  have nad : d ≠ a := ne_of hd ha (fun z => nomatch z)
  have nRa : R ≠ a := ne_of hR (e12 _ _ ha) (fun z => nomatch z)
  have npa : p ≠ a := (ne_of_none ((e12.trans e3) _ _ ha) hp).symm
  have hR4 := (Ex.new (o := .lst (ws.map V.str)) hp) _ _ (e3 _ _ hR)
  have nR4 := NkA.mono (e3.trans (Ex.new (o := .lst (ws.map V.str)) hp)) _ _ nR
  refine ⟨_, rfl, _, rfl, a, _, dx, _, rfl, ha4, T.clsM, T.noM.1, by show 0 < 1000; decide, ?_⟩
  refine ⟨_, rfl, _, rfl, a, _, dx, _, rfl, upd_same, T.clsM, T.noM.2.1, by show 1 < 1000; decide, ?_⟩
  refine ⟨_, rfl, _, rfl, a, _, dx, _, rfl, upd_same, T.clsM, T.noM.2.2.1, by show 2 < 1000; decide, ?_⟩
  have u3 : ∀ {o1 o2 o3 : HO} {c : Addr} {u : HO}, c ≠ a → (upd H3 p (.lst (ws.map V.str))) c = some u → (upd (upd (upd (upd H3 p (.lst (ws.map V.str))) a o1) a o2) a o3) c = some u := fun n h => (upd_ne n).trans ((upd_ne n).trans ((upd_ne n).trans h))
  refine ⟨_, rfl, _, rfl, d, p, ft, ws, rfl, u3 nad (e4 _ _ hd), SqL.of (u3 npa upd_same), ok.tok, ok.ff, fun p hp => (wmem _).mpr (ok.fw p hp), wnd, by omega, fun v5 H5 e5 ⟨d5, ev, hd5⟩ => ?_⟩
  subst ev
  have ha5 := e5 a _ upd_same
  have b5 : ExB a H H5 := (b4.mut.mut.mut).trans e5
  have hR5 := e5 _ _ (u3 nRa hR4)
  have hp5 := e5 _ _ (u3 npa upd_same)
  have nR5 := NkA.mono e5 _ _ (NkA.upd (o := .ins (cM K) dx _) upd_same tup_ins _ _ (NkA.upd (o := .ins (cM K) dx _) upd_same tup_ins _ _ (NkA.upd (o := .ins (cM K) dx _) ha4 tup_ins _ _ nR4)))
  refine ⟨_, rfl, a, _, dx, _, rfl, ha5, T.clsM, T.noM.2.2.2.1, by show 3 < 1000; decide, ?_⟩
  have nd5 : d5 ≠ a := ne_of hd5 ha5 (fun z => nomatch z)
  have nR6 : ∀ {fs : List (Str × V)}, NkA K (upd H5 a (.ins (cM K) dx fs)) rs (rows.map kRow) := fun {fs} => NkA.upd (o := .ins (cM K) dx fs) ha5 tup_ins _ _ nR5
  refine ⟨_, rfl, R, rs, rows, rfl, SqL.of ((upd_ne nRa).trans hR5), nR6, ok.few, fun v6 H6 e6 ⟨d6, kvs, ev, hd6, hix⟩ => ?_⟩
  subst ev
  have ha6 := e6 a _ upd_same
  have b6 : ExB a H H6 := b5.mut.trans e6
  refine ⟨_, rfl, a, _, dx, _, rfl, ha6, T.clsM, T.noM.2.2.2.2.1, by show 4 < 1000; decide, ?_⟩
  have hR6 := e6 _ _ ((upd_ne nRa).trans hR5)
  have hp6 := e6 _ _ ((upd_ne npa).trans hp5)
  have hd56 := e6 _ _ ((upd_ne nd5).trans hd5)
  have nd6 : d6 ≠ a := ne_of hd6 ha6 (fun z => nomatch z)
  have nR7 : ∀ {fs : List (Str × V)}, NkA K (upd H6 a (.ins (cM K) dx fs)) rs (rows.map kRow) := fun {fs} => NkA.upd (o := .ins (cM K) dx fs) ha6 tup_ins _ _ (NkA.mono e6 _ _ nR6)
  have hix7 : ∀ {fs : List (Str × V)} (s : Int), (valV kvs (.inl s) = none ∧ idx rows s = []) ∨ ∃ l, valV kvs (.inl s) = some (.ref l) ∧ SqL K (upd H6 a (.ins (cM K) dx fs)) l (ixV rows s) := fun {fs} s => (hix s).imp id fun ⟨l, x, y⟩ => ⟨l, x, sqL_upd y ha6 lst_ins⟩
  refine ⟨_, rfl, _, rfl, _, rfl, a, _, dx, _, _, rfl, upd_same, T.clsM, T.noM.2.2.2.2.1, rfl, st, R, rs, rows, d6, kvs, TT, rfl, SqL.of ((upd_ne nRa).trans hR6), nR7, (upd_ne nd6).trans hd6, hix7, ok.tfew, ok.tst, ok.tcl, fun v7 H7 e7 ⟨l7, met, ev, hl7, ms, mm⟩ => ?_⟩
  subst ev
  have ha7 := e7 a _ upd_same
  have b7 : ExB a H H7 := b6.mut.trans e7
  have nl7 : l7 ≠ a := ne_of hl7 ha7 (fun z => nomatch z)
  refine ⟨_, rfl, a, _, dx, _, rfl, ha7, T.clsM, T.noM.2.2.2.2.2, by show 5 < 1000; decide, ?_⟩
  have MM : ∀ {fs : List (Str × V)}, fs = mFs st R p d5 d6 l7 → MacA K (upd H7 a (.ins (cM K) dx fs)) a ⟨st, rows, ws, tabAt ft ws, met⟩ ⟨dx, R, p, d5, d6, l7, kvs⟩ := fun {fs} ef => by
    subst ef
    refine ⟨upd_same, ⟨rs, SqL.of ((upd_ne nRa).trans (e7 _ _ ((upd_ne nRa).trans hR6))), NkA.upd ha7 tup_ins _ _ (NkA.mono e7 _ _ nR7)⟩, SqL.of ((upd_ne npa).trans (e7 _ _ ((upd_ne npa).trans hp6))), (upd_ne nd5).trans (e7 _ _ ((upd_ne nd5).trans hd56)), (upd_ne nd6).trans (e7 _ _ ((upd_ne nd6).trans hd6)), fun s => (hix7 s).imp id fun ⟨l, x, y⟩ => ⟨l, x, sqL_upd (e7.sqL y) ha7 lst_ins⟩, SqL.of ((upd_ne nl7).trans hl7), ?_⟩
    refine ⟨⟨tabAt_nd wnd, Nat.le_trans (tabAt_len _ _) (by omega), fun p hp => ?_⟩, ok.few, fun r hr => (ok.row r hr).2.1⟩
    obtain ⟨h1, h2⟩ := tabAt_mem.mp hp
    have h3 := lk_some_mem h2
    exact ok.tok.nm p h3
  have MA := MM rfl
  refine ⟨_, rfl, a, _, _, _, _, rfl, MA.at_, T.clsM, T.noM.2.2.2.2.2, rfl, l7, rfl, ⟨_, MA.met⟩, ?_⟩
  refine for_it (walk_list (xs := met.map V.int)) (fun i σ H8 => ∃ v6, σ = [some (.ref a), some (.int st), some (.ref l), some (.ref d), some (.ref R), some (.ref p), v6, none] ∧ ∃ fs, fs = mFs st R p d5 d6 l7 ∧ H8 = upd H7 a (.ins (cM K) dx fs)) ⟨_, rfl, _, rfl, rfl⟩ (fun i σ H8 _ p => by obtain ⟨v6, _, fs, ef, e⟩ := p; rw [e]; exact (MM ef).met) (fun i x σ H8 H9 hi p y => ?_) (fun σ H8 p => ?_)
  · obtain ⟨v6, rfl, fs, ef, eH⟩ := p
    obtain ⟨rfl, hx⟩ := y
    rw [List.getElem?_map] at hx
    obtain ⟨z, hz, rfl⟩ := Option.map_eq_some_iff.mp hx
    subst eH
    have MB := MM ef
    refine ⟨_, rfl, _, rfl, a, _, _, _, _, rfl, MB.at_, T.clsM, T.noM.2.2.2.2.1, rfl, d6, _, rfl, DGet.k (k := .inl z) MB.leav, _, rfl, ?_⟩
    have zT : z ∈ TT := RchS.sub ok.tst ok.tcl ((mm z).mp (List.mem_of_getElem? hz))
    obtain ⟨r, hr, er⟩ := ok.live z zT
    have hsome : (valV kvs (.inl z)).isSome = true := by
      rcases hix z with ⟨e, e2⟩ | ⟨l, e, _⟩
      · obtain ⟨i, hi, ei⟩ := List.getElem_of_mem hr
        have h := idx_mem.mpr ⟨r, by rw [List.getElem?_eq_getElem hi, ei], er⟩
        rw [e2] at h
        cases h
      · rw [e]; rfl
    refine itF (by show (!(valV kvs (.inl z)).isSome) = false; rw [hsome]; rfl) ?_
    exact ⟨_, rfl, fs, ef, rfl⟩
  · obtain ⟨v6, rfl, fs, ef, eH⟩ := p
    subst eH
    refine q _ ⟨st, rows, ws, tabAt ft ws, met⟩ b7.mut ⟨_, MM ef⟩ ⟨rfl, rfl, fun w0 => ?_, ms, mm⟩
    show lk (tabAt ft ws) w0 = lk ft w0
    rw [tabAt_lk]
    by_cases c : w0 ∈ ws
    · rw [if_pos c]
    · rw [if_neg c]
      refine (lk_none.mpr fun hm => c ?_).symm
      obtain ⟨p, hp, e⟩ := List.mem_map.mp hm
      rw [← e]
      exact (wmem _).mpr (ok.fw p hp)
end
end K25
/-! walks; what is told first -/
namespace K25
open PySem PySem.Spec PyProof.Rows L2
inductive PathR (rows : List Row) (st : Int) : List Row → Int → Prop
  | nil : PathR rows st [] st
  | snoc {rs : List Row} {s : Int} {r : Row} : PathR rows st rs s → r ∈ rows → r.1 = s → PathR rows st (rs ++ [r]) r.2.2
def sgts (tab : Tab) (rs : List Row) : List Str := rs.filterMap fun r => lk tab r.2.1
theorem sgts_n {tab : Tab} {rs : List Row} {r : Row} (h : lk tab r.2.1 = none) : sgts tab (rs ++ [r]) = sgts tab rs := by
  unfold sgts
  rw [List.filterMap_append]
  simp [h]
theorem sgts_s {tab : Tab} {rs : List Row} {r : Row} {x : Str} (h : lk tab r.2.1 = some x) : sgts tab (rs ++ [r]) = sgts tab rs ++ [x] := by
  unfold sgts
  rw [List.filterMap_append]
  simp [h]
theorem sgts_kind {tab : Tab} {rs : List Row} {x : Str} (h : x ∈ sgts tab rs) : x ∈ nmsOf tab := by
  unfold sgts at h
  obtain ⟨r, _, e⟩ := List.mem_filterMap.mp h
  exact nmsOf_mem.mpr (List.mem_map.mpr ⟨_, lk_some_mem e, rfl⟩)
section
variable {rows : List Row} {ft tab : Tab} {U : List Pr} {st : Int}
theorem cloL_step (u : Uni rows ft U) {I : Pr → Prop} (h : ∀ p, I p → p ∈ U) {p q : Pr} (hp : p ∈ cloL rows ft tab U I) (hq : q ∈ succP rows ft tab p) : q ∈ cloL rows ft tab U I := (cloL_mem u h).mpr (.step ((cloL_mem u h).mp hp) hq)
theorem estR_step (u : Uni rows ft U) (hU : (st, []) ∈ U) (ss : List Str) {p q : Pr} (hp : p ∈ estR rows ft tab U st ss) (hq : q ∈ succP rows ft tab p) : q ∈ estR rows ft tab U st ss := by
  rcases List.eq_nil_or_concat ss with rfl | ⟨l, s, rfl⟩
  · exact cloL_step u (fun p e => by rw [e]; exact hU) hp hq
  · rw [List.concat_eq_append, estR_snoc] at hp ⊢
    exact cloL_step u (fun p => Ends.in_U u (estR_sub l)) hp hq
theorem laterE_mem (u : Uni rows ft U) {E : List Pr} (h : ∀ p ∈ E, p ∈ U) {s : Str} {p : Pr} (hp : Ends rows ft tab s E p) : p ∈ laterE rows ft tab U s E := (cloL_mem u fun p => Ends.in_U u h).mpr (.base hp)
theorem path_est (u : Uni rows ft U) (hU : (st, []) ∈ U) {rs : List Row} {s : Int} (h : PathR rows st rs s) : ∃ p ∈ estR rows ft tab U st (sgts tab rs), p.1 = s := by
  induction h with
  | nil => exact ⟨(st, []), (cloL_mem u fun p e => by rw [e]; exact hU).mpr (.base rfl), rfl⟩
  | @snoc rs s r _ hr e ih =>
    obtain ⟨p, hp, ep⟩ := ih
    refine ⟨behind ft p r, ?_, rfl⟩
    cases hl : lk tab r.2.1 with
    | none =>
      rw [sgts_n hl]
      exact estR_step u hU _ hp (mem_succP.mpr ⟨r, hr, e.trans ep.symm, hl, rfl⟩)
    | some x =>
      rw [sgts_s hl, estR_snoc]
      exact laterE_mem u (estR_sub _) ⟨p, hp, r, hr, e.trans ep.symm, hl, rfl⟩
theorem path_pre {rs : List Row} {s : Int} (h : PathR rows st rs s) : ∀ k, k ≤ (sgts tab rs).length → ∃ rs' s', PathR rows st rs' s' ∧ sgts tab rs' = (sgts tab rs).take k := by
  induction h with
  | nil => exact fun k _ => ⟨[], st, .nil, by simp [sgts]⟩
  | @snoc rs s r hp hr e ih =>
    intro k hk
    cases hl : lk tab r.2.1 with
    | none =>
      rw [sgts_n hl] at hk ⊢
      exact ih k hk
    | some x =>
      have hs := sgts_s (rs := rs) hl
      rw [hs, List.length_append, List.length_singleton] at hk
      rcases Nat.lt_or_ge k ((sgts tab rs).length + 1) with l | l
      · obtain ⟨rs', s', h1, h2⟩ := ih k (by omega)
        refine ⟨rs', s', h1, ?_⟩
        rw [h2, hs, List.take_append_of_le_length (by omega)]
      · refine ⟨rs ++ [r], r.2.2, .snoc hp hr e, ?_⟩
        rw [hs, List.take_of_length_le (by rw [List.length_append, List.length_singleton]; omega)]
theorem path_ne (u : Uni rows ft U) (hU : (st, []) ∈ U) {rs : List Row} {s : Int} (h : PathR rows st rs s) {k : Nat} (hk : k ≤ (sgts tab rs).length) : estR rows ft tab U st ((sgts tab rs).take k) ≠ [] := by
  obtain ⟨rs', s', h1, h2⟩ := path_pre h k hk
  obtain ⟨p, hp, _⟩ := path_est u hU h1 (tab := tab)
  rw [h2] at hp
  intro z
  rw [z] at hp
  cases hp
theorem est_re {ss : List Str} (hk : ∀ s ∈ ss, s ∈ nmsOf tab) (ne : ∀ k, k ≤ ss.length → estR rows ft tab U st (ss.take k) ≠ []) : ∀ k, k ≤ ss.length → ReE rows ft tab U st (nmsOf tab) (estR rows ft tab U st (ss.take k))
  | 0, _ => .base rfl
  | k + 1, h => by
    have hl : k < ss.length := h
    have hg : ss[k]? = some ss[k] := List.getElem?_eq_getElem hl
    have e := take_next hg
    have n := ne (k + 1) h
    rw [e, estR_snoc] at n ⊢
    exact .step (est_re hk ne k (Nat.le_of_lt h)) (mem_succE.mpr ⟨_, hk _ (List.getElem_mem hl), rfl, n⟩)
/-! ### rows of sights -/
theorem Chain.est {rws : List ER} (c : Chain rows ft tab U st (nmsOf tab) rws) : ∀ (j : Nat) (E : List Pr) (r : List Str), rws[j]? = some (E, r) → E = estR rows ft tab U st r ∧ (∀ s ∈ r, s ∈ nmsOf tab) ∧ (∀ k, 1 ≤ k → k ≤ r.length → estR rows ft tab U st (r.take k) ≠ []) ∧ ∀ k, k < r.length → ∃ i, i < j ∧ rws[i]? = some (estR rows ft tab U st (r.take k), r.take k) := by
  intro j
  induction j using Nat.strongRecOn with
  | _ j ih =>
    intro E r h
    cases j with
    | zero =>
      rw [c.fst] at h
      cases h
      exact ⟨rfl, fun s hs => (nomatch hs), fun k h1 h2 => absurd h2 (by simp; omega), fun k hk => absurd hk (Nat.not_lt_zero k)⟩
    | succ j =>
      obtain ⟨i, E', r', s, hi, h', hs, rfl, e2, hne⟩ := c.nxt j E r h
      obtain ⟨a1, a2, a3, a4⟩ := ih i (Nat.lt_succ_of_le hi) E' r' h'
      have eE : E = estR rows ft tab U st (r' ++ [s]) := by rw [estR_snoc, ← a1, e2]
      refine ⟨eE, fun x hx => ?_, fun k h1 h2 => ?_, fun k hk => ?_⟩
      · rcases List.mem_append.mp hx with hx | hx
        · exact a2 x hx
        · rw [List.mem_singleton.mp hx]; exact hs
      · rw [List.length_append, List.length_singleton] at h2
        rcases Nat.lt_or_ge k (r'.length + 1) with l | l
        · rw [List.take_append_of_le_length (by omega)]
          exact a3 k h1 (by omega)
        · rw [List.take_of_length_le (by rw [List.length_append, List.length_singleton]; omega), ← eE]
          exact hne
      · rw [List.length_append, List.length_singleton] at hk
        rcases Nat.lt_or_ge k r'.length with l | l
        · rw [List.take_append_of_le_length (by omega)]
          obtain ⟨i2, hi2, e⟩ := a4 k l
          exact ⟨i2, by omega, e⟩
        · have ek : k = r'.length := by omega
          subst ek
          rw [List.take_append_of_le_length (Nat.le_refl _), List.take_length, ← a1]
          exact ⟨i, by omega, h'⟩
end
/-- the first sure one's row tells -/
theorem tells_ok {rows : List Row} {ft tab : Tab} {U : List Pr} {st : Int} {f : Str} {rws : List ER} {r : List Str} (c : Chain rows ft tab U st (nmsOf tab) rws) (h : FirstSure f rws r) : (∀ s ∈ r, s ∈ nmsOf tab) ∧ (∀ i, i < r.length → sureB f (estR rows ft tab U st (r.take i)) = false ∧ estR rows ft tab U st (r.take (i + 1)) ≠ []) ∧ sureB f (estR rows ft tab U st r) = true := by
  obtain ⟨j, E, hj, hs, hf⟩ := h
  obtain ⟨a1, a2, a3, a4⟩ := c.est j E r hj
  refine ⟨a2, fun i hi => ⟨?_, a3 (i + 1) (by omega) hi⟩, by rw [← a1]; exact hs⟩
  obtain ⟨k, hk, e⟩ := a4 i hi
  exact hf k _ _ hk e
end K25
set_option pp.maxSteps 4000
/-! the law's draws -/
namespace K25
open PySem PySem.Spec PyProof.Rows L2
section
variable {P : Program} {w : World} {K : PySem.W.Frag} {mg : Str → Option Value} {base : Heap}
def sp__law_mix : Sp := fun vs H Q _ => ∃ c k : Int, vs = [.int c, .int k] ∧ Ret H Q fun v H' => ∃ r : Int, v = .int r ∧ 0 ≤ r
theorem sc__law_mix : FnScope ["_law_cell_here", "_law_k", "_law_number"] ["_law_cell_here", "_law_k"] d__law_mix.scope := ⟨rfl, rfl, rfl, by decide +kernel, rfl, by decide +kernel, by decide +kernel⟩
theorem ok__law_mix (T : Tp K mg) : Cal P w K mg base "_law_mix" 1 ["_law_cell_here", "_law_k"] (sp__law_mix) := by
  refine ⟨_, T.glo 49, ?_⟩
  show Df P w K mg base (d__law_mix.path K) 1 ["_law_cell_here", "_law_k"] (sp__law_mix)
  refine T.df 46 (d := d__law_mix) rfl rfl sc__law_mix (fun vs H Q E h => by obtain ⟨_, _, e, _⟩ := h; rw [e]; rfl) (fun _ _ _ _ _ _ us hl => match us, hl with | [_, _], _ => rfl) (fun cdv A outer s H vs Q E hr h => ?_)

  obtain ⟨c, k, rfl, q⟩ := h
  refine ⟨_, PSs.nox (pss_cons (ps_set (i := 2) sc__law_mix.nd rfl (Or.inl rfl) (pe_op op_mod (pe_op op_mulR (pe_callTy call_int1 rfl (T.free 83) boot_int (pa_cons (pe_op op_add (pe_op op_add (pe_callTy call_int1 rfl (T.free 83) boot_int (pa_cons (pv 0) pa_nil)) (pe_op op_mulR pe_int (pv 1))) pe_int) pa_nil)) pe_int) pe_int))
      (pss_cons (ps_set (i := 2) sc__law_mix.nd rfl (Or.inl rfl) (pe_op op_mod (pe_callTy call_int1 rfl (T.free 83) boot_int (pa_cons (pe_op op_mulR (pv 2) (pe_op op_add (pe_op op_fdivW (pv 2) pe_int) pe_int)) pa_nil)) pe_int))
      (pss_one (ps_ret (pe_op op_mod (pe_callTy call_int1 rfl (T.free 83) boot_int (pa_cons (pe_op op_mulR (pv 2) (pe_op op_add (pe_op op_fdivW (pv 2) pe_int) pe_int)) pa_nil)) pe_int))))), ?_⟩
  have okL : ∀ {i j : Int}, -(2 ^ 64) < i → i < 2 ^ 64 → IntMulOk i j := fun h1 h2 => (show CMul _ _ from .inl ⟨h1, h2⟩).ok
  have okR : ∀ {i j : Int}, -(2 ^ 64) < j → j < 2 ^ 64 → IntMulOk i j := fun h1 h2 => (show CMul _ _ from .inr ⟨h1, h2⟩).ok
  have dv : ∀ {i j : Int}, 0 < j → j < 2 ^ 64 → CDivW i j := fun {i j} h1 h2 => wide_div (b := 64) h1 (by omega) (by decide) (by decide)
  refine ⟨_, rfl, .inl ⟨c, rfl, _, rfl, _, _, rfl, rfl, okL (by decide) (by decide), _, _, rfl, rfl, _, _, rfl, rfl, .inl ⟨_, rfl, _, _, rfl, rfl, okR (by decide) (by decide), _, _, rfl, rfl, by show (0 : Int) < 2147483647; decide, ?_⟩⟩⟩
  have b1 := Int.emod_nonneg ((c + 7919 * k + 1) * 48271) (show (2147483647 : Int) ≠ 0 by decide)
  have b2 := Int.emod_lt_of_pos ((c + 7919 * k + 1) * 48271) (show (0 : Int) < 2147483647 by decide)
  generalize (c + 7919 * k + 1) * 48271 % 2147483647 = n at *
  refine ⟨_, rfl, _, rfl, _, _, rfl, rfl, dv (by decide) (by decide), _, _, rfl, rfl, _, _, rfl, rfl, okL (by omega) (by omega), .inl ⟨_, rfl, _, _, rfl, rfl, by show (0 : Int) < 2147483647; decide, ?_⟩⟩
  have b3 := Int.emod_nonneg (n * (n / 1009 + 69621)) (show (2147483647 : Int) ≠ 0 by decide)
  have b4 := Int.emod_lt_of_pos (n * (n / 1009 + 69621)) (show (0 : Int) < 2147483647 by decide)
  generalize n * (n / 1009 + 69621) % 2147483647 = n2 at *
  refine ⟨_, rfl, _, rfl, _, _, rfl, rfl, dv (by decide) (by decide), _, _, rfl, rfl, _, _, rfl, rfl, okL (by omega) (by omega), .inl ⟨_, rfl, _, _, rfl, rfl, by show (0 : Int) < 2147483399; decide, ?_⟩⟩
  exact q.of (Ex.refl _) ⟨_, rfl, Int.emod_nonneg _ (by decide)⟩
def sp__law_cell (K : PySem.W.Frag) : Sp := fun vs H Q _ => ∃ a, ∃ ns : List Int, ∃ k : Nat, vs = [.ref a, .int (k : Nat)] ∧ SqL K H a (ns.map V.int) ∧ Ret H Q fun v H' => ∃ r : Int, v = .int r
theorem sc__law_cell : FnScope ["_law_script", "_law_k"] ["_law_script", "_law_k"] d__law_cell.scope := ⟨rfl, rfl, rfl, by decide +kernel, rfl, by decide +kernel, by decide +kernel⟩
theorem ok__law_cell (T : Tp K mg) : Cal P w K mg base "_law_cell" 2 ["_law_script", "_law_k"] (sp__law_cell K) := by
  refine ⟨_, T.glo 50, ?_⟩
  show Df P w K mg base (d__law_cell.path K) 2 ["_law_script", "_law_k"] (sp__law_cell K)
  refine T.df 47 (d := d__law_cell) rfl rfl sc__law_cell (fun vs H Q E h => by obtain ⟨_, _, _, e, _⟩ := h; rw [e]; rfl) (fun _ _ _ _ _ _ us hl => match us, hl with | [_, _], _ => rfl) (fun cdv A outer s H vs Q E hr h => ?_)

  obtain ⟨a, ns, k, rfl, ha, q⟩ := h
  refine ⟨_, PSs.nox (pss_cons (ps_if (pt_cmpR op_lt (pv 1) (pe_callB call_len_seq rfl (T.free 74) boot_len (pa_cons (pv 0) pa_nil)) (nomark _))
      (pss_one (ps_ret (pe_callTy call_int1 rfl (T.free 83) boot_int (pa_cons (pe_ix ix_list (pv 0) (pv 1) (fun _ _ => rfl)) pa_nil)))) pss_nil)
      (pss_cons (ps_if (pt_cmpR op_eq (pe_callB call_len_seq rfl (T.free 74) boot_len (pa_cons (pv 0) pa_nil)) pe_int (nomark _))
      (pss_one (ps_ret (pv 1))) pss_nil)
      (pss_one (ps_ret (pe_cal (ok__law_mix T) hr (by decide) rfl (pa_cons (pe_ix ix_list (pv 0) (pe_op op_mod (pe_callTy call_int1 rfl (T.free 83) boot_int (pa_cons (pv 1) pa_nil)) (pe_callB call_len_seq rfl (T.free 74) boot_len (pa_cons (pv 0) pa_nil))) (fun _ _ => rfl)) (pa_cons (pv 1) pa_nil))))))), ?_⟩
  refine ⟨_, rfl, _, rfl, a, _, rfl, .inl ha, _, _, rfl, rfl, _, rfl, itE (fun c => ?_) fun c => ?_⟩
  · have h := ofT c
    rw [List.length_map] at h
    have h2 : k < ns.length := by omega
    refine ⟨_, rfl, _, rfl, _, _, _, _, rfl, rfl, ha, atI_nat (by rw [List.getElem?_map, List.getElem?_eq_getElem h2]; rfl), .inl ⟨_, rfl, ?_⟩⟩
    exact q.of (Ex.refl _) ⟨_, rfl⟩
  · refine ⟨_, rfl, a, _, rfl, .inl ha, rfl, _, rfl, itE (fun c2 => ?_) fun c2 => ?_⟩
    · exact ⟨_, rfl, q.of (Ex.refl _) ⟨_, rfl⟩⟩
    · have h0 : (((ns.map V.int).length : Nat) : Int) ≠ 0 := fun z => ofF c2 (by rw [z])
      have hpos : (0 : Int) < (((ns.map V.int).length : Nat) : Int) := by omega
      have m1 := Int.emod_nonneg ((k : Nat) : Int) h0
      have m2 := Int.emod_lt_of_pos ((k : Nat) : Int) hpos
      generalize hj : ((k : Nat) : Int) % (((ns.map V.int).length : Nat) : Int) = j at m1 m2
      obtain ⟨jn, rfl⟩ := Int.eq_ofNat_of_zero_le m1
      have h2 : jn < ns.length := by rw [List.length_map] at m2; omega
      refine ⟨_, rfl, _, rfl, .inl ⟨_, rfl, _, rfl, a, _, rfl, .inl ha, _, _, rfl, rfl, hpos, ?_⟩⟩
      refine ⟨_, _, _, .int ns[jn], rfl, rfl, ha, (by rw [hj]; exact atI_nat (by rw [List.getElem?_map, List.getElem?_eq_getElem h2]; rfl)), _, rfl, ?_⟩
      exact ⟨_, _, rfl, fun v H1 e ⟨r, ev, _⟩ => q.of e ⟨r, ev⟩⟩
def sp__law_row (K : PySem.W.Frag) : Sp := fun vs H Q _ => ∃ c : Int, ∃ a, ∃ ss : List Int, vs = [.int c, .ref a] ∧ SqL K H a (ss.map V.int) ∧ ss.length ≤ 200 ∧ (∀ s ∈ ss, 0 < s ∧ s < 2 ^ 60) ∧
  Ret H Q fun v H' => ∃ p, ∃ rs : List Int, v = .ref p ∧ H' p = some (.lst (rs.map V.int)) ∧ rs.length = ss.length ∧ ∀ (i : Nat) (s r : Int), ss[i]? = some s → rs[i]? = some r → 0 ≤ r ∧ r < s
theorem sc__law_row : FnScope ["_law_cell_here", "_law_sizes", "_law_row_here", "_law_rest", "_law_k"] ["_law_cell_here", "_law_sizes"] d__law_row.scope := ⟨rfl, rfl, rfl, by decide +kernel, rfl, by decide +kernel, by decide +kernel⟩
theorem ok__law_row (T : Tp K mg) : Cal P w K mg base "_law_row" 2 ["_law_cell_here", "_law_sizes"] (sp__law_row K) := by
  refine ⟨_, T.glo 51, ?_⟩
  show Df P w K mg base (d__law_row.path K) 2 ["_law_cell_here", "_law_sizes"] (sp__law_row K)
  refine T.df 48 (d := d__law_row) rfl rfl sc__law_row (fun vs H Q E h => by obtain ⟨_, _, _, e, _⟩ := h; rw [e]; rfl) (fun _ _ _ _ _ _ us hl => match us, hl with | [_, _], _ => rfl) (fun cdv A outer s H vs Q E hr h => ?_)

  obtain ⟨c, a, ss, rfl, ha, hz, hs, q⟩ := h
  refine ⟨_, PSs.nox (pss_cons (ps_set (i := 2) sc__law_row.nd rfl (Or.inl rfl) (pe_lst pa_nil))
      (pss_cons (ps_set (i := 3) sc__law_row.nd rfl (Or.inl rfl) (pe_callTy call_int1 rfl (T.free 83) boot_int (pa_cons (pv 0) pa_nil)))
      (pss_cons (ps_for PassesOwn.never rfl (pi_range1 rfl (T.free 81) (pa_cons (pe_callB call_len_seq rfl (T.free 74) boot_len (pa_cons (pv 1) pa_nil)) pa_nil)) (pg_name (i := 4) sc__law_row.nd rfl (Or.inl rfl))
      (pss_one (ps_if (pt_cmpR op_ge (pv 0) (pe_op op_pow pe_int pe_int) (nomark _))
      (pss_cons (ps_expr (pe_bm PySem.F.plainAttrs_list PySem.F.slot_list_append PySem.F.type_list_append mt_append (pv 2) (pa_cons (pe_op op_mod (pe_callTy call_int1 rfl (T.free 83) boot_int (pa_cons (pv 3) pa_nil)) (pe_ix ix_list (pv 1) (pv 4) (fun _ _ => rfl))) pa_nil)))
      (pss_one (ps_set (i := 3) sc__law_row.nd rfl (Or.inl rfl) (pe_op op_fdivW (pv 3) (pe_ix ix_list (pv 1) (pv 4) (fun _ _ => rfl)))))) (pss_one (ps_expr (pe_bm PySem.F.plainAttrs_list PySem.F.slot_list_append PySem.F.type_list_append mt_append (pv 2) (pa_cons (pe_op op_mod (pe_callTy call_int1 rfl (T.free 83) boot_int (pa_cons (pe_cal (ok__law_mix T) hr (by decide) rfl (pa_cons (pv 0) (pa_cons (pv 4) pa_nil))) pa_nil)) (pe_ix ix_list (pv 1) (pv 4) (fun _ _ => rfl))) pa_nil)))))))
      (pss_one (ps_ret (pv 2)))))), ?_⟩
  have dv : ∀ {i j : Int}, 0 < j → j < 2 ^ 60 → CDivW i j := fun {i j} h1 h2 => wide_div (b := 64) h1 (by omega) (by decide) (by decide)
  refine ⟨by show 0 ≤ sizeLine; decide, fun p hp => ?_⟩
  refine ⟨_, rfl, .inl ⟨_, rfl, ?_⟩⟩
  have e1 := Ex.new (o := .lst []) hp
  refine ⟨_, rfl, a, _, rfl, .inl (e1.sqL ha), ?_⟩
  refine ⟨_, rfl, by omega, by rw [List.length_map]; omega, ?_⟩
  refine for_it walk_range (fun i σ H2 => ∃ v3 v4, ∃ rest : Int, ∃ rs : List Int, σ = [some (.int c), some (.ref a), some (.ref p), v3, v4] ∧ v3 = some (.int rest) ∧ Ex H H2 ∧ H2 p = some (.lst (rs.map V.int)) ∧ rs.length = i ∧ ∀ (i : Nat) (s r : Int), ss[i]? = some s → rs[i]? = some r → 0 ≤ r ∧ r < s)
    ⟨_, _, _, [], rfl, rfl, e1, upd_same, rfl, fun i s r _ h => by simp at h⟩ (fun _ _ _ _ _ => True.intro) (fun i x σ H2 H3 hi p y => ?_) (fun σ H2 p => ?_)
  · obtain ⟨v3, v4, rest, rs, rfl, rfl, e2, hrs, lrs, hb⟩ := p
    obtain ⟨rfl, rfl⟩ := y
    rw [List.length_map] at hi
    have hi2 : i < ss.length := by omega
    have ei : ((0 : Int) + (i : Int)) = ((i : Nat) : Int) := by omega
    have hg : ss[i]? = some ss[i] := List.getElem?_eq_getElem hi2
    obtain ⟨s0, s1⟩ := hs ss[i] (List.getElem_mem hi2)
    have hat : atI (ss.map V.int) ((0 : Int) + (i : Int)) = some (.int ss[i]) := by rw [ei]; exact atI_nat (by rw [List.getElem?_map, hg]; rfl)
    have new : ∀ {n : Int}, ∀ (j : Nat) (s r : Int), ss[j]? = some s → (rs ++ [n % ss[i]])[j]? = some r → 0 ≤ r ∧ r < s := fun {n} j s r h1 h2 => by
      rcases Nat.lt_or_ge j rs.length with l | l
      · rw [List.getElem?_append_left l] at h2
        exact hb j s r h1 h2
      · rw [List.getElem?_append_right l] at h2
        have h3 := (List.getElem?_eq_some_iff.mp h2).1
        simp only [List.length_cons, List.length_nil] at h3
        have e0 : j - rs.length = 0 := by omega
        have ej : j = i := by omega
        rw [e0] at h2
        cases h2
        subst ej
        rw [hg] at h1
        cases h1
        exact ⟨Int.emod_nonneg _ (by omega), Int.emod_lt_of_pos _ s0⟩
    refine ⟨_, rfl, _, _, rfl, rfl, ⟨by decide, by decide, by decide⟩, _, _, rfl, rfl, _, rfl, itE (fun cc => ?_) fun cc => ?_⟩
    · refine ⟨_, rfl, .inl ⟨rfl, _, SqL.of hrs⟩, _, rfl, .inl ⟨_, rfl, _, rfl, _, rfl, _, _, _, _, rfl, rfl, e2.sqL ha, hat, _, _, rfl, rfl, s0, p, _, _, rfl, rfl, hrs, ?_, ?_⟩⟩
      · rw [List.length_map]
        exact Nat.lt_of_le_of_lt (show _ ≤ 1000 by omega) (by decide)
      have e3 := e2.mut (o := .lst (rs.map V.int ++ [V.int (rest % ss[i])])) hp
      refine ⟨_, rfl, _, rfl, _, rfl, _, _, _, _, rfl, rfl, e3.sqL ha, hat, _, _, rfl, rfl, dv s0 s1, ?_⟩
      refine ⟨_, _, _, rs ++ [rest % ss[i]], rfl, rfl, e3, ?_, by rw [List.length_append, lrs]; rfl, new⟩
      rw [map_snoc]
      exact upd_same
    · refine ⟨_, rfl, .inl ⟨rfl, _, SqL.of hrs⟩, _, rfl, _, rfl, _, _, rfl, fun v5 H5 e5 ⟨r5, ev, _⟩ => ?_⟩
      subst ev
      have hrs5 := e5 _ _ hrs
      refine .inl ⟨_, rfl, _, rfl, _, rfl, _, _, _, _, rfl, rfl, (e2.trans e5).sqL ha, hat, _, _, rfl, rfl, s0, p, _, _, rfl, rfl, hrs5, ?_, ?_⟩
      · rw [List.length_map]
        exact Nat.lt_of_le_of_lt (show _ ≤ 1000 by omega) (by decide)
      refine ⟨_, _, _, rs ++ [r5 % ss[i]], rfl, rfl, (e2.trans e5).mut hp, ?_, by rw [List.length_append, lrs]; rfl, new⟩
      rw [map_snoc]
      exact upd_same
  · obtain ⟨v3, v4, rest, rs, rfl, rfl, e2, hrs, lrs, hb⟩ := p
    refine ⟨_, rfl, q.of e2 ⟨p, rs, rfl, hrs, ?_, hb⟩⟩
    rw [List.length_map] at lrs
    omega
end
end K25
set_option pp.maxSteps 4000
/-! the law's names -/
namespace K25
open PySem PySem.Spec PyProof.Rows L2
theorem join_flat : ∀ ys : List Str, (Txt.join "" ys).cps.toList = ys.flatMap fun y => y.cps.toList := fun ys => by
  rw [show Txt.join "" ys = Str.join "" ys from TL.join_eq _ _]
  induction ys with
  | nil => rfl
  | cons x ys ih =>
    cases ys with
    | nil => simp [Str.join]
    | cons y r =>
      have e : Str.join "" (x :: y :: r) = x ++ "" ++ Str.join "" (y :: r) := rfl
      rw [e, Str.cps_append, Str.cps_append, Array.toList_append, Array.toList_append, ih, List.flatMap_cons]
      have e2 : ((("" : Str)).cps).toList = [] := rfl
      rw [e2, List.append_nil]
      simp only [List.flatMap_cons]
/-- signs from a to m -/
def AM (l : List Nat) : Prop := ∀ c ∈ l, 97 ≤ c ∧ c ≤ 109
theorem am_at : ∀ d : Nat, d < 13 → (("abcdefghijklm" : Str)).cps.toList[d]? = some (97 + d) := by decide +kernel
theorem nz_at : ∀ d : Nat, d < 13 → (("nopqrstuvwxyz" : Str)).cps.toList[d]? = some (110 + d) := by decide +kernel
theorem az_in : ∀ c : Nat, c < 123 → 97 ≤ c → c ∈ azS.cps.toList := by decide +kernel
def NamP (c0 k : Nat) (n : Str) : Prop := NmOk n ∧ n.cps.toList.filter (fun c => decide (110 ≤ c)) = [110 + (c0 + 5 * k) % 13]
theorem cutS_mem {z : Str} {lo hi : Option Int} {c : Nat} (h : c ∈ (cutS z lo hi).cps.toList) : c ∈ z.cps.toList := by
  unfold cutS at h
  exact List.mem_of_mem_drop (List.mem_of_mem_take h)
theorem am_filter {l : List Nat} (h : AM l) : l.filter (fun c => decide (110 ≤ c)) = [] := by
  rw [List.filter_eq_nil_iff]
  intro c hc
  have := h c hc
  rw [decide_eq_true_eq]
  omega
/-- a text's piece, the letter, a piece -/
theorem name_ok {t : Str} (ht : AM t.cps.toList) (hl : t.length ≤ 5) {l1 h1 l2 h2 : Option Int} {c0 k : Nat} : NamP c0 k (cutS t l1 h1 ++ ⟨#[110 + (c0 + 5 * k) % 13]⟩ ++ cutS t l2 h2) := by
  have e : (cutS t l1 h1 ++ ⟨#[110 + (c0 + 5 * k) % 13]⟩ ++ cutS t l2 h2 : Str).cps.toList = (cutS t l1 h1).cps.toList ++ [110 + (c0 + 5 * k) % 13] ++ (cutS t l2 h2).cps.toList := by
    rw [Str.cps_append, Str.cps_append, Array.toList_append, Array.toList_append]
  have a1 : AM (cutS t l1 h1).cps.toList := fun c hc => ht c (cutS_mem hc)
  have a2 : AM (cutS t l2 h2).cps.toList := fun c hc => ht c (cutS_mem hc)
  have m := Nat.mod_lt (c0 + 5 * k) (show 0 < 13 by decide)
  refine ⟨⟨?_, ?_, fun c hc => ?_⟩, ?_⟩
  · rw [Str.length_append, Str.length_append]
    have : (⟨#[110 + (c0 + 5 * k) % 13]⟩ : Str).length = 1 := rfl
    omega
  · rw [Str.length_append, Str.length_append]
    have h3 := cutS_length t l1 h1
    have h4 := cutS_length t l2 h2
    have : (⟨#[110 + (c0 + 5 * k) % 13]⟩ : Str).length = 1 := rfl
    omega
  · rw [e] at hc
    rcases List.mem_append.mp hc with hc | hc
    · rcases List.mem_append.mp hc with hc | hc
      · have := a1 c hc
        exact az_in c (by omega) (by omega)
      · rw [List.mem_singleton.mp hc]
        exact az_in _ (by omega) (by omega)
    · have := a2 c hc
      exact az_in c (by omega) (by omega)
  · rw [e, List.filter_append, List.filter_append, am_filter a1, am_filter a2]
    simp
theorem sum_ones {ys : List Str} (h : ∀ y ∈ ys, ∃ c, y = ⟨#[c]⟩ ∧ 97 ≤ c ∧ c ≤ 109) : (ys.map (fun x => x.length)).sum = ys.length := by
  induction ys with
  | nil => rfl
  | cons y ys ih =>
    rw [List.map_cons, List.sum_cons, List.length_cons, ih fun z hz => h z (List.mem_cons_of_mem _ hz)]
    obtain ⟨c, rfl, _⟩ := h y List.mem_cons_self
    show 1 + ys.length = ys.length + 1
    omega
theorem join_am {ys : List Str} (h : ∀ y ∈ ys, ∃ c, y = ⟨#[c]⟩ ∧ 97 ≤ c ∧ c ≤ 109) : AM (Txt.join "" ys).cps.toList ∧ (Txt.join "" ys).length = ys.length := by
  have e := join_flat ys
  constructor
  · intro c hc
    rw [e] at hc
    obtain ⟨y, hy, hc⟩ := List.mem_flatMap.mp hc
    obtain ⟨d, rfl, h1, h2⟩ := h y hy
    have : c = d := by simpa using hc
    omega
  · show (Txt.join "" ys).cps.size = ys.length
    rw [← Array.length_toList, e]
    clear e
    induction ys with
    | nil => rfl
    | cons y ys ih =>
      rw [List.flatMap_cons, List.length_append, ih fun z hz => h z (List.mem_cons_of_mem _ hz)]
      obtain ⟨d, rfl, h1, h2⟩ := h y List.mem_cons_self
      simp
      omega
def six : List Int := [6, 13, 13, 13, 13, 13]
def nmSizes : List Int := [13, 2, 6] ++ (List.replicate 6 six).flatten
structure Own (L : List Int) : Prop where
  l : L.length = 6
  h : ∃ d, L[0]? = some d ∧ 0 ≤ d ∧ d < 6
  t : ∀ d ∈ L.drop 1, 0 ≤ d ∧ d < 13
theorem own_at {rs : List Int} (hl : rs.length = 39) (hb : ∀ (i : Nat) (s r : Int), nmSizes[i]? = some s → rs[i]? = some r → 0 ≤ r ∧ r < s) {k : Nat} (hk : k < 6) : Own ((rs.drop (3 + 6 * k)).take 6) := by
  have hs : ∀ k : Nat, k < 6 → nmSizes[3 + 6 * k]? = some 6 ∧ ∀ j : Nat, j < 6 → 1 ≤ j → nmSizes[3 + 6 * k + j]? = some 13 := by decide +kernel
  refine ⟨by rw [List.length_take, List.length_drop]; omega, ?_, fun d hd => ?_⟩
  · have h1 : 3 + 6 * k < rs.length := by omega
    have h2 := hb _ _ _ (hs k hk).1 (List.getElem?_eq_getElem h1)
    refine ⟨rs[3 + 6 * k], ?_, h2⟩
    rw [List.getElem?_take, if_pos (by decide), List.getElem?_drop, Nat.add_zero, List.getElem?_eq_getElem h1]
  · obtain ⟨j, hj, e⟩ := List.getElem_of_mem hd
    rw [List.length_drop, List.length_take, List.length_drop] at hj
    rw [List.getElem_drop, List.getElem_take, List.getElem_drop] at e
    have h1 : 3 + 6 * k + (1 + j) < rs.length := by omega
    have h2 := hb _ _ _ ((hs k hk).2 (1 + j) (by omega) (by omega)) (List.getElem?_eq_getElem h1)
    rw [e] at h2
    exact h2
theorem cutV_own {rs : List Int} {p : Nat} (h : p + 6 ≤ rs.length) {lo hi : Int} (e1 : lo = ((p : Nat) : Int)) (e2 : hi = ((p + 6 : Nat) : Int)) : cutV (rs.map V.int) (some lo) (some hi) = ((rs.drop p).take 6).map V.int := by
  subst e1 e2
  unfold cutV
  rw [HT.sIx_nat, HT.sIx_nat, List.length_map, Nat.min_eq_left (by omega), Nat.min_eq_left (by omega), List.map_take, List.map_drop]
  congr 1
  omega
theorem cutV_tail {L : List Int} (o : Own L) {hi : Option Int} : ∃ ds : List Int, cutV (L.map V.int) (some 1) hi = ds.map V.int ∧ ds.length ≤ 5 ∧ ∀ d ∈ ds, 0 ≤ d ∧ d < 13 := by
  refine ⟨(L.drop 1).take (HT.sIx (L.map V.int).length (L.map V.int).length hi - 1), ?_, ?_, fun d hd => o.t d (List.mem_of_mem_take hd)⟩
  · unfold cutV
    have e : HT.sIx (L.map V.int).length 0 (some 1) = 1 := by
      show HT.sIx (L.map V.int).length 0 (some ((1 : Nat) : Int)) = 1
      rw [HT.sIx_nat, List.length_map, o.l]
      rfl
    rw [e, List.map_take, List.map_drop]
  · have h := o.l
    rw [List.length_take, List.length_drop]
    omega
section
variable {P : Program} {w : World} {K : PySem.W.Frag} {mg : Str → Option Value} {base : Heap}
def sp__law_names (K : PySem.W.Frag) : Sp := fun vs H Q _ => ∃ c : Int, vs = [.int c, .int 6] ∧ Ret H Q fun v H' => ∃ p, ∃ ns : List Str, ∃ c0 : Nat, v = .ref p ∧ H' p = some (.lst (ns.map V.str)) ∧ ns.length = 6 ∧ ∀ k n, ns[k]? = some n → NamP c0 k n
theorem sc__law_names : FnScope ["_law_cell_here", "_law_many", "_law_row_here", "_law_names_here", "_law_k", "_law_own", "_law_text", "_law_at", "_law_letter", "_law_digit"] ["_law_cell_here", "_law_many"] d__law_names.scope := ⟨rfl, rfl, rfl, by decide +kernel, rfl, by decide +kernel, by decide +kernel⟩
theorem ok__law_names (T : Tp K mg) : Cal P w K mg base "_law_names" 3 ["_law_cell_here", "_law_many"] (sp__law_names K) := by
  refine ⟨_, T.glo 52, ?_⟩
  show Df P w K mg base (d__law_names.path K) 3 ["_law_cell_here", "_law_many"] (sp__law_names K)
  refine T.df 49 (d := d__law_names) rfl rfl sc__law_names (fun vs H Q E h => by obtain ⟨_, e, _⟩ := h; rw [e]; rfl) (fun _ _ _ _ _ _ us hl => match us, hl with | [_, _], _ => rfl) (fun cdv A outer s H vs Q E hr h => ?_)

  obtain ⟨c, rfl, q⟩ := h
  refine ⟨_, PSs.nox (pss_cons (ps_set (i := 2) sc__law_names.nd rfl (Or.inl rfl) (pe_cal (ok__law_row T) hr (by decide) rfl (pa_cons (pv 0) (pa_cons (pe_op op_cat (pe_lst (pa_cons pe_int (pa_cons pe_int (pa_cons pe_int pa_nil)))) (pe_op op_rep (pe_lst (pa_cons pe_int (pa_cons pe_int (pa_cons pe_int (pa_cons pe_int (pa_cons pe_int (pa_cons pe_int pa_nil))))))) (pv 1))) pa_nil))))
      (pss_cons (ps_set (i := 3) sc__law_names.nd rfl (Or.inl rfl) (pe_lst pa_nil))
      (pss_cons (ps_for PassesOwn.never rfl (pi_range1 rfl (T.free 81) (pa_cons (pv 1) pa_nil)) (pg_name (i := 4) sc__law_names.nd rfl (Or.inl rfl))
      (pss_cons (ps_set (i := 5) sc__law_names.nd rfl (Or.inl rfl) (pe_slice sl_list (pv 2) (po_some (pe_op op_add pe_int (pe_op op_mulR pe_int (pv 4)))) (po_some (pe_op op_add pe_int (pe_op op_mulR pe_int (pv 4))))))
      (pss_cons (ps_if (pt_cmpR op_eq (pe_ix ix_list (pv 2) pe_int (fun _ _ => rfl)) pe_int (nomark _))
      (pss_one (ps_set (i := 5) sc__law_names.nd rfl (Or.inl rfl) (pe_slice sl_list (pv 2) (po_some pe_int) (po_some pe_int)))) pss_nil)
      (pss_cons (ps_set (i := 6) sc__law_names.nd rfl (Or.inl rfl) (pe_join pe_str (pe_lc (own := [("_law_digit", 9)]) rfl sc__law_names.nd (pi_list (pe_slice sl_list (pv 5) (po_some pe_int) (po_some (pe_op op_add pe_int (pe_ix ix_list (pv 5) pe_int (fun _ _ => rfl)))))) (blkOk_by (N := ["_law_cell_here", "_law_many", "_law_row_here", "_law_names_here", "_law_k", "_law_own", "_law_text", "_law_at", "_law_letter", "_law_digit"]) (sc := d__law_names.scope) (by decide +kernel)) (fun _ _ _ _ _ => (pg_name (i := 9) sc__law_names.nd rfl (Or.inl rfl))) (fun _ _ _ _ _ => pts_nil) (fun _ _ _ _ _ => (pe_ix ix_str pe_str (pv 9) (fun _ _ => rfl))))))
      (pss_cons (ps_set (i := 7) sc__law_names.nd rfl (Or.inl rfl) (pe_op op_mod (pe_callTy call_int1 rfl (T.free 83) boot_int (pa_cons (pe_ix ix_list (pv 2) pe_int (fun _ _ => rfl)) pa_nil)) (pe_op op_add (pe_callB call_len_str rfl (T.free 74) boot_len (pa_cons (pv 6) pa_nil)) pe_int)))
      (pss_cons (ps_set (i := 8) sc__law_names.nd rfl (Or.inl rfl) (pe_ix ix_str pe_str (pe_op op_mod (pe_callTy call_int1 rfl (T.free 83) boot_int (pa_cons (pe_op op_add (pe_ix ix_list (pv 2) pe_int (fun _ _ => rfl)) (pe_op op_mulR pe_int (pv 4))) pa_nil)) pe_int) (fun _ _ => rfl)))
      (pss_one (ps_expr (pe_bm PySem.F.plainAttrs_list PySem.F.slot_list_append PySem.F.type_list_append mt_append (pv 3) (pa_cons (pe_op op_add_str (pe_op op_add_str (pe_slice sl_str (pv 6) po_none (po_some (pv 7))) (pv 8)) (pe_slice sl_str (pv 6) (po_some (pv 7)) po_none)) pa_nil))))))))))
      (pss_one (ps_ret (pv 3)))))), ?_⟩
  have okL : ∀ {i j : Int}, -(2 ^ 64) < i → i < 2 ^ 64 → IntMulOk i j := fun h1 h2 => (show CMul _ _ from .inl ⟨h1, h2⟩).ok
  refine ⟨_, rfl, by show 3 ≤ sizeLine; decide, fun a1 h1 => ?_⟩
  refine ⟨by show 6 ≤ sizeLine; decide, fun a2 h2 => ?_⟩
  refine ⟨_, rfl, a2, 6, _, rfl, rfl, upd_same, by decide, by decide, by show 6 * 6 ≤ sizeLine; decide, fun a3 h3 => ?_⟩
  have e3 := ((Ex.new (o := .lst [.int 13, .int 2, .int 6]) h1).to (o := .lst (six.map V.int)) h2).to (o := .lst (List.replicate 6 (six.map V.int)).flatten) h3
  refine ⟨a1, a3, _, _, rfl, rfl, (Ex.new h3) _ _ ((Ex.new h2) _ _ upd_same), upd_same, by show 3 + 36 ≤ sizeLine; decide, fun a4 h4 => ?_⟩
  have e4 := e3.to (o := .lst (nmSizes.map V.int)) h4
  refine ⟨c, a4, nmSizes, rfl, SqL.of upd_same, by decide +kernel, by decide +kernel, fun v2 H2 e2 ⟨R, rs, ev, hR, lR, hb⟩ => ?_⟩
  subst ev
  have lR : rs.length = 39 := lR
  have e42 := e4.trans e2
  refine ⟨by show 0 ≤ sizeLine; decide, fun N hN => ?_⟩
  have e5 := e42.to (o := .lst []) hN
  have hN0 := e42.free hN
  have nRN : R ≠ N := ne_of_none hR hN
  have g0 : ∃ r0, rs[0]? = some r0 ∧ 0 ≤ r0 ∧ r0 < 13 := ⟨rs[0]'(by omega), List.getElem?_eq_getElem _, hb 0 13 _ rfl (List.getElem?_eq_getElem _)⟩
  have g1 : ∃ r1, rs[1]? = some r1 := ⟨rs[1]'(by omega), List.getElem?_eq_getElem _⟩
  have g2 : ∃ r2, rs[2]? = some r2 ∧ 0 ≤ r2 ∧ r2 < 6 := ⟨rs[2]'(by omega), List.getElem?_eq_getElem _, hb 2 6 _ rfl (List.getElem?_eq_getElem _)⟩
  obtain ⟨r0, g0, r00, r01⟩ := g0
  obtain ⟨r1, g1⟩ := g1
  obtain ⟨r2, g2, r20, r21⟩ := g2
  obtain ⟨c0, rfl⟩ := Int.eq_ofNat_of_zero_le r00
  have atR : ∀ {j : Nat} {r : Int}, rs[j]? = some r → atI (rs.map V.int) ((j : Nat) : Int) = some (.int r) := fun h => atI_nat (by rw [List.getElem?_map, h]; rfl)
  refine ⟨_, rfl, 6, rfl, by decide, by decide, ?_⟩
  refine for_it (walk_range (lo := 0) (n := 6)) (fun i σ H3 => ∃ v4 v5 v6 v7 v8 v9, ∃ ns : List Str, σ = [some (.int c), some (.int 6), some (.ref R), some (.ref N), v4, v5, v6, v7, v8, v9] ∧ Ex H H3 ∧ H3 R = some (.lst (rs.map V.int)) ∧ H3 N = some (.lst (ns.map V.str)) ∧ ns.length = i ∧ ∀ k n, ns[k]? = some n → NamP c0 k n)
    ⟨_, _, _, _, _, _, [], rfl, e5, (Ex.new hN) _ _ hR, upd_same, rfl, fun k n h => by simp at h⟩ (fun _ _ _ _ _ => True.intro) (fun i x σ H3 H4 hi p y => ?_) (fun σ H3 p => ?_)
  · obtain ⟨v4, v5, v6, v7, v8, v9, ns, rfl, e6, hR6, hN6, lns, hns⟩ := p
    obtain ⟨rfl, rfl⟩ := y
    refine ⟨_, rfl, _, rfl, _, _, rfl, rfl, okL (by decide) (by decide), _, _, rfl, rfl, _, rfl, _, rfl, _, _, rfl, rfl, okL (by decide) (by decide), _, _, rfl, rfl, _, rfl, R, _, rfl, SqL.of hR6, fun o ho => ?_⟩
    rw [cutV_own (rs := rs) (p := 3 + 6 * i) (lo := 3 + 6 * (0 + (i : Int))) (hi := 9 + 6 * (0 + (i : Int))) (by omega) (by omega) (by omega)]
    have ow := own_at lR hb hi
    have e7 := e6.to (o := .lst (((rs.drop (3 + 6 * i)).take 6).map V.int)) ho
    have x7 := Ex.new (o := .lst (((rs.drop (3 + 6 * i)).take 6).map V.int)) ho
    have hR7 := x7 _ _ hR6
    have hN7 := x7 _ _ hN6
    have ho7 := upd_same (H := H4) (a := o) (o := .lst (((rs.drop (3 + 6 * i)).take 6).map V.int))
    generalize (rs.drop (3 + 6 * i)).take 6 = L at *
    generalize upd H4 o (.lst (L.map V.int)) = H5 at *
    refine ⟨_, rfl, _, _, _, .int r1, rfl, rfl, SqL.of hR7, atR g1, rfl, _, rfl, itE (fun cc => ?_) fun cc => ?_⟩
    · refine ⟨_, rfl, _, rfl, _, rfl, R, _, rfl, SqL.of hR7, fun o2 ho2 => ?_⟩
      rw [cutV_own (rs := rs) (p := 3) (lo := 3) (hi := 9) (by omega) rfl rfl]
      have ow := own_at lR hb (show 0 < 6 by decide)
      rw [show 3 + 6 * 0 = 3 from rfl] at ow
      have e7 := e7.to (o := .lst (((rs.drop 3).take 6).map V.int)) ho2
      have x7 := Ex.new (o := .lst (((rs.drop 3).take 6).map V.int)) ho2
      have hR7 := x7 _ _ hR7
      have hN7 := x7 _ _ hN7
      have ho7 := upd_same (H := H5) (a := o2) (o := .lst (((rs.drop 3).take 6).map V.int))
      generalize (rs.drop 3).take 6 = L at *
      generalize upd H5 o2 (.lst (L.map V.int)) = H5 at *
      obtain ⟨d0, hd0, d01, d02⟩ := ow.h
      have at0 : atI (L.map V.int) ((0 : Nat) : Int) = some (.int d0) := atI_nat (by rw [List.getElem?_map, hd0]; rfl)
      obtain ⟨ds, eds, lds, bds⟩ := cutV_tail ow (hi := some (1 + d0))
      refine ⟨⟨_, rfl⟩, _, rfl, _, rfl, _, rfl, _, _, _, .int d0, rfl, rfl, SqL.of ho7, at0, _, _, rfl, rfl, _, rfl, o2, _, rfl, SqL.of ho7, fun o3 ho3 => ?_⟩
      rw [eds]
      refine ⟨o3, rfl, ⟨_, SqL.of upd_same⟩, fun D hD => ?_⟩
      have e8 := (Ex.new (o := .lst (ds.map V.int)) ho3)
      refine lc_it (walk_list (xs := ds.map V.int)) (fun j H6 => ∃ ys : List Str, Ex (upd H5 o3 (.lst (ds.map V.int))) H6 ∧ H6 D = some (.lst (ys.map V.str)) ∧ ys.length = j ∧ ∀ y ∈ ys, ∃ c, y = ⟨#[c]⟩ ∧ 97 ≤ c ∧ c ≤ 109) ⟨[], Ex.new hD, upd_same, rfl, fun y h => by simp at h⟩ (fun j H6 _ p => by obtain ⟨ys, e, _⟩ := p; exact SqL.of (e _ _ upd_same)) (fun j x H6 H7 hj p y => ?_) (fun H6 p => ?_)
      · obtain ⟨ys, e9, hD9, lys, bys⟩ := p
        obtain ⟨rfl, hx⟩ := y
        rw [List.getElem?_map] at hx
        obtain ⟨d, hdj, rfl⟩ := Option.map_eq_some_iff.mp hx
        have jl := (List.getElem?_eq_some_iff.mp hdj).1
        obtain ⟨b0, b1⟩ := bds d (List.mem_of_getElem? hdj)
        obtain ⟨dn, rfl⟩ := Int.eq_ofNat_of_zero_le b0
        refine ⟨rfl, ?_⟩
        refine ⟨_, rfl, _, _, 97 + dn, rfl, rfl, by decide +kernel, atI_nat (am_at dn (by omega)), _, hD9, ?_, ys ++ [⟨#[97 + dn]⟩], e9.mut hD, ?_, by rw [List.length_append, lys]; rfl, fun y hy => ?_⟩
        · rw [List.length_map]
          exact Nat.lt_of_le_of_lt (show _ ≤ 1000 by omega) (by decide)
        · rw [map_snoc]
          exact upd_same
        · rcases List.mem_append.mp hy with hy | hy
          · exact bys y hy
          · rw [List.mem_singleton.mp hy]
            exact ⟨_, rfl, by omega, by omega⟩
      obtain ⟨ys, e9, hD9, lys, bys⟩ := p
      rw [List.length_map] at lys
      obtain ⟨am, ltx⟩ := join_am bys
      refine ⟨_, D, ys, rfl, rfl, .inl (SqL.of hD9), by rw [sum_ones bys]; show ys.length + ys.length * 0 ≤ 16777216; omega, ?_⟩
      generalize Txt.join "" ys = tx at am ltx ⊢
      have e10 := e8.trans e9
      have e11 := e7.trans e10
      have hR8 := e10 _ _ hR7
      have hN8 := e10 _ _ hN7
      refine ⟨_, rfl, _, _, _, .int r2, rfl, rfl, SqL.of hR8, atR g2, .inl ⟨_, rfl, _, rfl, tx, rfl, Nat.le_trans (show tx.length ≤ 100 by omega) (by decide), _, _, rfl, rfl, _, _, rfl, rfl, by show (0 : Int) < _ + 1; omega, ?_⟩⟩
      have eix : ((c0 : Int) + 5 * (0 + (i : Int))) % 13 = (((c0 + 5 * i) % 13 : Nat) : Int) := by omega
      refine ⟨_, rfl, _, _, _, .int (c0 : Nat), rfl, rfl, SqL.of hR8, atR g0, _, rfl, _, _, rfl, rfl, okL (by decide) (by decide), _, _, rfl, rfl, .inl ⟨_, rfl, _, _, rfl, rfl, by show (0 : Int) < 13; decide, _, _, 110 + (c0 + 5 * i) % 13, rfl, rfl, by decide +kernel, (by rw [eix]; exact atI_nat (nz_at _ (Nat.mod_lt _ (by decide)))), ?_⟩⟩
      have sl : ∀ {l h : Option Int}, (cutS tx l h).length ≤ 5 := fun {l h} => by
        have := cutS_length tx l h
        omega
      refine ⟨_, rfl, .inl ⟨rfl, _, SqL.of hN8⟩, _, rfl, _, rfl, _, rfl, tx, rfl, Nat.le_trans (show tx.length ≤ 100 by omega) (by decide), _, rfl, _, _, rfl, rfl, Nat.le_trans (show (cutS tx none _).length + 1 ≤ 100 from Nat.le_trans (Nat.succ_le_succ sl) (by decide)) (by decide), _, rfl, _, rfl, _, rfl, tx, rfl, Nat.le_trans (show tx.length ≤ 100 by omega) (by decide), _, _, rfl, rfl, ?_, N, _, _, rfl, rfl, hN8, ?_, ?_⟩
      · rw [Str.length_append]
        have h1 : ∀ {l h : Option Int}, (cutS tx l h).length ≤ 5 := sl
        exact Nat.le_trans (show _ ≤ 5 + 1 + 5 from Nat.add_le_add (Nat.add_le_add h1 (Nat.le_refl 1)) h1) (by decide)
      · rw [List.length_map]
        exact Nat.lt_of_le_of_lt (show _ ≤ 1000 by omega) (by decide)
      refine ⟨_, _, _, _, _, _, ns ++ [_], rfl, e11.mut hN0, (upd_ne nRN).trans hR8, (by rw [map_snoc]; exact upd_same), by rw [List.length_append, lns]; rfl, fun k n h => ?_⟩
      rcases Nat.lt_or_ge k ns.length with l | l
      · rw [List.getElem?_append_left l] at h
        exact hns k n h
      · rw [List.getElem?_append_right l] at h
        have h3 := (List.getElem?_eq_some_iff.mp h).1
        simp only [List.length_cons, List.length_nil] at h3
        have e0 : k - ns.length = 0 := by omega
        have ek : k = i := by omega
        rw [e0] at h
        cases h
        subst ek
        exact name_ok am (by omega)
    · skip
      obtain ⟨d0, hd0, d01, d02⟩ := ow.h
      have at0 : atI (L.map V.int) ((0 : Nat) : Int) = some (.int d0) := atI_nat (by rw [List.getElem?_map, hd0]; rfl)
      obtain ⟨ds, eds, lds, bds⟩ := cutV_tail ow (hi := some (1 + d0))
      refine ⟨⟨_, rfl⟩, _, rfl, _, rfl, _, rfl, _, _, _, .int d0, rfl, rfl, SqL.of ho7, at0, _, _, rfl, rfl, _, rfl, o, _, rfl, SqL.of ho7, fun o3 ho3 => ?_⟩
      rw [eds]
      refine ⟨o3, rfl, ⟨_, SqL.of upd_same⟩, fun D hD => ?_⟩
      have e8 := (Ex.new (o := .lst (ds.map V.int)) ho3)
      refine lc_it (walk_list (xs := ds.map V.int)) (fun j H6 => ∃ ys : List Str, Ex (upd H5 o3 (.lst (ds.map V.int))) H6 ∧ H6 D = some (.lst (ys.map V.str)) ∧ ys.length = j ∧ ∀ y ∈ ys, ∃ c, y = ⟨#[c]⟩ ∧ 97 ≤ c ∧ c ≤ 109) ⟨[], Ex.new hD, upd_same, rfl, fun y h => by simp at h⟩ (fun j H6 _ p => by obtain ⟨ys, e, _⟩ := p; exact SqL.of (e _ _ upd_same)) (fun j x H6 H7 hj p y => ?_) (fun H6 p => ?_)
      · obtain ⟨ys, e9, hD9, lys, bys⟩ := p
        obtain ⟨rfl, hx⟩ := y
        rw [List.getElem?_map] at hx
        obtain ⟨d, hdj, rfl⟩ := Option.map_eq_some_iff.mp hx
        have jl := (List.getElem?_eq_some_iff.mp hdj).1
        obtain ⟨b0, b1⟩ := bds d (List.mem_of_getElem? hdj)
        obtain ⟨dn, rfl⟩ := Int.eq_ofNat_of_zero_le b0
        refine ⟨rfl, ?_⟩
        refine ⟨_, rfl, _, _, 97 + dn, rfl, rfl, by decide +kernel, atI_nat (am_at dn (by omega)), _, hD9, ?_, ys ++ [⟨#[97 + dn]⟩], e9.mut hD, ?_, by rw [List.length_append, lys]; rfl, fun y hy => ?_⟩
        · rw [List.length_map]
          exact Nat.lt_of_le_of_lt (show _ ≤ 1000 by omega) (by decide)
        · rw [map_snoc]
          exact upd_same
        · rcases List.mem_append.mp hy with hy | hy
          · exact bys y hy
          · rw [List.mem_singleton.mp hy]
            exact ⟨_, rfl, by omega, by omega⟩
      obtain ⟨ys, e9, hD9, lys, bys⟩ := p
      rw [List.length_map] at lys
      obtain ⟨am, ltx⟩ := join_am bys
      refine ⟨_, D, ys, rfl, rfl, .inl (SqL.of hD9), by rw [sum_ones bys]; show ys.length + ys.length * 0 ≤ 16777216; omega, ?_⟩
      generalize Txt.join "" ys = tx at am ltx ⊢
      have e10 := e8.trans e9
      have e11 := e7.trans e10
      have hR8 := e10 _ _ hR7
      have hN8 := e10 _ _ hN7
      refine ⟨_, rfl, _, _, _, .int r2, rfl, rfl, SqL.of hR8, atR g2, .inl ⟨_, rfl, _, rfl, tx, rfl, Nat.le_trans (show tx.length ≤ 100 by omega) (by decide), _, _, rfl, rfl, _, _, rfl, rfl, by show (0 : Int) < _ + 1; omega, ?_⟩⟩
      have eix : ((c0 : Int) + 5 * (0 + (i : Int))) % 13 = (((c0 + 5 * i) % 13 : Nat) : Int) := by omega
      refine ⟨_, rfl, _, _, _, .int (c0 : Nat), rfl, rfl, SqL.of hR8, atR g0, _, rfl, _, _, rfl, rfl, okL (by decide) (by decide), _, _, rfl, rfl, .inl ⟨_, rfl, _, _, rfl, rfl, by show (0 : Int) < 13; decide, _, _, 110 + (c0 + 5 * i) % 13, rfl, rfl, by decide +kernel, (by rw [eix]; exact atI_nat (nz_at _ (Nat.mod_lt _ (by decide)))), ?_⟩⟩
      have sl : ∀ {l h : Option Int}, (cutS tx l h).length ≤ 5 := fun {l h} => by
        have := cutS_length tx l h
        omega
      refine ⟨_, rfl, .inl ⟨rfl, _, SqL.of hN8⟩, _, rfl, _, rfl, _, rfl, tx, rfl, Nat.le_trans (show tx.length ≤ 100 by omega) (by decide), _, rfl, _, _, rfl, rfl, Nat.le_trans (show (cutS tx none _).length + 1 ≤ 100 from Nat.le_trans (Nat.succ_le_succ sl) (by decide)) (by decide), _, rfl, _, rfl, _, rfl, tx, rfl, Nat.le_trans (show tx.length ≤ 100 by omega) (by decide), _, _, rfl, rfl, ?_, N, _, _, rfl, rfl, hN8, ?_, ?_⟩
      · rw [Str.length_append]
        have h1 : ∀ {l h : Option Int}, (cutS tx l h).length ≤ 5 := sl
        exact Nat.le_trans (show _ ≤ 5 + 1 + 5 from Nat.add_le_add (Nat.add_le_add h1 (Nat.le_refl 1)) h1) (by decide)
      · rw [List.length_map]
        exact Nat.lt_of_le_of_lt (show _ ≤ 1000 by omega) (by decide)
      refine ⟨_, _, _, _, _, _, ns ++ [_], rfl, e11.mut hN0, (upd_ne nRN).trans hR8, (by rw [map_snoc]; exact upd_same), by rw [List.length_append, lns]; rfl, fun k n h => ?_⟩
      rcases Nat.lt_or_ge k ns.length with l | l
      · rw [List.getElem?_append_left l] at h
        exact hns k n h
      · rw [List.getElem?_append_right l] at h
        have h3 := (List.getElem?_eq_some_iff.mp h).1
        simp only [List.length_cons, List.length_nil] at h3
        have e0 : k - ns.length = 0 := by omega
        have ek : k = i := by omega
        rw [e0] at h
        cases h
        subst ek
        exact name_ok am (by omega)
  · obtain ⟨v4, v5, v6, v7, v8, v9, ns, rfl, e6, hR6, hN6, lns, hns⟩ := p
    exact ⟨_, rfl, q.of e6 ⟨N, ns, c0, rfl, hN6, lns, hns⟩⟩
end
end K25
set_option pp.maxSteps 1500
set_option pp.deepTerms false
/-! the law's machine -/
namespace K25
open PySem PySem.Spec PyProof.Rows L2
theorem at_in {α : Type} {xs : List α} (f : α → V) {j : Int} (h0 : 0 ≤ j) (h1 : j < xs.length) : ∃ x, x ∈ xs ∧ xs[j.toNat]? = some x ∧ atI (xs.map f) j = some (f x) := by
  obtain ⟨n, rfl⟩ := Int.eq_ofNat_of_zero_le h0
  have h2 : n < xs.length := by omega
  exact ⟨xs[n], List.getElem_mem h2, List.getElem?_eq_getElem h2, atI_nat (by rw [List.getElem?_map, List.getElem?_eq_getElem h2]; rfl)⟩
theorem row_at {ss rs : List Int} (hl : rs.length = ss.length) (hb : ∀ (i : Nat) (s r : Int), ss[i]? = some s → rs[i]? = some r → 0 ≤ r ∧ r < s) {j : Int} {n : Nat} {s : Int} (hs : ss[n]? = some s) (e : j = ((n : Nat) : Int)) : ∃ r, atI (rs.map V.int) j = some (.int r) ∧ 0 ≤ r ∧ r < s := by
  subst e
  have h1 : n < rs.length := by rw [hl]; exact (List.getElem?_eq_some_iff.mp hs).1
  exact ⟨rs[n], atI_nat (by rw [List.getElem?_map, List.getElem?_eq_getElem h1]; rfl), hb n s _ hs (List.getElem?_eq_getElem h1)⟩
theorem NkA.drop {K : PySem.W.Frag} {H : Hp} : ∀ (n : Nat) {ks : List NestedKey} {vs : List V}, NkA K H vs ks → NkA K H (vs.drop n) (ks.drop n)
  | 0, _, _, h => h
  | n + 1, [], _, h => by cases h; exact .nil
  | n + 1, k :: ks, _, h => by
    cases h with
    | cons h1 h2 => exact NkA.drop n h2
theorem NkA.take {K : PySem.W.Frag} {H : Hp} : ∀ (n : Nat) {ks : List NestedKey} {vs : List V}, NkA K H vs ks → NkA K H (vs.take n) (ks.take n)
  | 0, _, _, h => .nil
  | n + 1, [], _, h => by cases h; exact .nil
  | n + 1, k :: ks, _, h => by
    cases h with
    | cons h1 h2 => exact .cons h1 (NkA.take n h2)
def strd : List Int := [1, 3, 7, 9, 11, 13, 17, 19]
def lbl (r st : Int) (k : Nat) : Int := (r + st * (0 + (k : Int))) % 100
def lbls (r st : Int) (m : Nat) : List Int := (List.range m).map (lbl r st)
theorem lbls_len (r st : Int) (m : Nat) : (lbls r st m).length = m := by unfold lbls; rw [List.length_map, List.length_range]
theorem lbls_rg {r st : Int} {m : Nat} {l : Int} (h : l ∈ lbls r st m) : 0 ≤ l ∧ l ≤ 99 := by
  obtain ⟨k, _, rfl⟩ := List.mem_map.mp h
  unfold lbl
  omega
theorem lbls_nd {r st : Int} {m : Nat} (hm : m ≤ 5) (hs : st ∈ strd) : (lbls r st m).Nodup := by
  unfold lbls List.Nodup
  rw [List.pairwise_map]
  refine List.Pairwise.imp_of_mem ?_ (List.nodup_range (n := m))
  intro i j hi hj ne e
  have h1 := List.mem_range.mp hi
  have h2 := List.mem_range.mp hj
  refine ne ?_
  unfold lbl at e
  unfold strd at hs
  simp only [List.mem_cons, List.not_mem_nil, or_false] at hs
  rcases hs with rfl | rfl | rfl | rfl | rfl | rfl | rfl | rfl <;> omega
theorem lbls_snoc (r st : Int) (m : Nat) : lbls r st (m + 1) = lbls r st m ++ [lbl r st m] := by unfold lbls; rw [List.range_succ, List.map_append]; rfl
def mcSizes0 : List Int := [5, 5, 100, 8, 64] ++ (List.replicate 5 [3, 5]).flatten
def mcSizes : List Int := mcSizes0 ++ (List.replicate 4 [5, 6, 5]).flatten
/-- the rows made of the labels -/
structure BaseOk (ns : List Str) (L : List Int) (k : Nat) (rows : List Row) : Prop where
  fst : rows.map (fun r => r.1) = L.take k
  lab : ∀ r ∈ rows, r.1 ∈ L ∧ r.2.1 ∈ ns ∧ r.2.2 ∈ L
structure MidOk (ns : List Str) (L : List Int) (n : Nat) (rows : List Row) : Prop where
  nd : rows.Nodup
  lab : ∀ r ∈ rows, r.1 ∈ L ∧ r.2.1 ∈ ns ∧ r.2.2 ∈ L
  live : ∀ l ∈ L, ∃ r ∈ rows, r.1 = l
  cn : ∀ s, cnt rows s ≤ 1 + n
  len : rows.length ≤ L.length + n
  pos : 1 ≤ rows.length
theorem cnt_one {rows : List Row} (h : (rows.map fun r => r.1).Nodup) (s : Int) : cnt rows s ≤ 1 := by
  induction rows with
  | nil => exact Nat.zero_le _
  | cons r rows ih =>
    rw [List.map_cons, List.nodup_cons] at h
    unfold cnt at ih ⊢
    rw [List.filter_cons]
    by_cases c : r.1 = s
    · rw [if_pos (dT c), List.length_cons]
      have e : rows.filter (fun r => decide (r.1 = s)) = [] := by
        rw [List.filter_eq_nil_iff]
        intro q hq hc
        exact h.1 (List.mem_map.mpr ⟨q, hq, (ofT hc).trans c.symm⟩)
      rw [e]
      exact Nat.le_refl _
    · rw [if_neg (fun z => c (ofT z))]
      exact ih h.2
theorem BaseOk.mid {ns : List Str} {L : List Int} {rows : List Row} (h : BaseOk ns L L.length rows) (hn : L.Nodup) (hp : 1 ≤ L.length) : MidOk ns L 0 rows := by
  have e := h.fst
  rw [List.take_length] at e
  have hlen : rows.length = L.length := by rw [← e, List.length_map]
  have hnd : (rows.map fun r => r.1).Nodup := by rw [e]; exact hn
  exact ⟨List.Pairwise.of_map (fun r : Row => r.1) (fun a b q e => q (congrArg (fun r : Row => r.1) e)) hnd, h.lab, fun l hl => by
    rw [← e] at hl
    obtain ⟨r, hr, e2⟩ := List.mem_map.mp hl
    exact ⟨r, hr, e2⟩, cnt_one hnd, by omega, by omega⟩
theorem MidOk.mono {ns : List Str} {L : List Int} {n m : Nat} {rows : List Row} (h : MidOk ns L n rows) (l : n ≤ m) : MidOk ns L m rows :=
  ⟨h.nd, h.lab, h.live, fun s => Nat.le_trans (h.cn s) (by omega), Nat.le_trans h.len (by omega), h.pos⟩
theorem MidOk.snoc {ns : List Str} {L : List Int} {n : Nat} {rows : List Row} (h : MidOk ns L n rows) {r : Row} (hn : r ∉ rows) (hr : r.1 ∈ L ∧ r.2.1 ∈ ns ∧ r.2.2 ∈ L) : MidOk ns L (n + 1) (rows ++ [r]) where
  nd := by
    rw [List.nodup_append]
    exact ⟨h.nd, by simp, fun x hx y hy e => hn (by rw [List.mem_singleton.mp hy] at e; rw [← e]; exact hx)⟩
  lab := fun q hq => (List.mem_append.mp hq).elim (h.lab q) fun e => by rw [List.mem_singleton.mp e]; exact hr
  live := fun l hl => let ⟨r, hr, e⟩ := h.live l hl; ⟨r, List.mem_append_left _ hr, e⟩
  cn := fun s => by
    rw [cnt_snoc]
    have := h.cn s
    split <;> omega
  len := by rw [List.length_append, List.length_singleton]; have := h.len; omega
  pos := by rw [List.length_append, List.length_singleton]; omega
theorem MidOk.perm {ns : List Str} {L : List Int} {n : Nat} {rows qs : List Row} (h : MidOk ns L n rows) (p : qs.Perm rows) : MidOk ns L n qs where
  nd := (p.nodup_iff).mpr h.nd
  lab := fun r hr => h.lab r (p.mem_iff.mp hr)
  live := fun l hl => let ⟨r, hr, e⟩ := h.live l hl; ⟨r, p.mem_iff.mpr hr, e⟩
  cn := fun s => by
    have e : cnt qs s = cnt rows s := (p.filter _).length_eq
    rw [e]; exact h.cn s
  len := by rw [p.length_eq]; exact h.len
  pos := by rw [p.length_eq]; exact h.pos
section
variable {P : Program} {w : World} {K : PySem.W.Frag} {mg : Str → Option Value} {base : Heap}
def sp__law_machine (K : PySem.W.Frag) : Sp := fun vs H Q _ => ∃ c : Int, ∃ a, ∃ ns : List Str, vs = [.int c, .ref a, .int 5, .int 4] ∧ SqL K H a (ns.map V.str) ∧ ns.length = 4 ∧ Ret H Q fun v H' => ∃ r la sa us, ∃ L : List Int, ∃ rows : List Row,
  v = .ref r ∧ H' r = some (.lst [.ref la, .ref sa]) ∧ H' la = some (.lst (L.map V.int)) ∧ H' sa = some (.lst us) ∧ NkA K H' us (rows.map kRow) ∧ MidOk ns L 5 rows ∧ L.Nodup ∧ 1 ≤ L.length ∧ L.length ≤ 5 ∧ (∀ l ∈ L, 0 ≤ l ∧ l ≤ 99) ∧ ∃ r ∈ rows, ns[0]? = some r.2.1
theorem sc__law_machine : FnScope ["_law_cell_here", "_law_names_here", "_law_most", "_law_extra", "_law_sizes", "_law_row_here", "_law_many", "_law_stride", "_law_labels", "_law_steps", "_law_k", "_law_turn", "_law_word", "_law_at", "_law_step", "_law_target"] ["_law_cell_here", "_law_names_here", "_law_most", "_law_extra"] d__law_machine.scope := ⟨rfl, rfl, rfl, by decide +kernel, rfl, by decide +kernel, by decide +kernel⟩
theorem ok__law_machine (T : Tp K mg) : Cal P w K mg base "_law_machine" 3 ["_law_cell_here", "_law_names_here", "_law_most", "_law_extra"] (sp__law_machine K) := by
  refine ⟨_, T.glo 53, ?_⟩
  show Df P w K mg base (d__law_machine.path K) 3 ["_law_cell_here", "_law_names_here", "_law_most", "_law_extra"] (sp__law_machine K)
  refine T.df 50 (d := d__law_machine) rfl rfl sc__law_machine (fun vs H Q E h => by obtain ⟨_, _, _, e, _⟩ := h; rw [e]; rfl) (fun _ _ _ _ _ _ us hl => match us, hl with | [_, _, _, _], _ => rfl) (fun cdv A outer s H vs Q E hr h => ?_)

  obtain ⟨c, a, ns, rfl, ha, lns, q⟩ := h
  refine ⟨_, PSs.nox (pss_cons (ps_set (i := 4) sc__law_machine.nd rfl (Or.inl rfl) (pe_op op_cat (pe_lst (pa_cons (pv 2) (pa_cons (pe_op op_add (pv 3) pe_int) (pa_cons pe_int (pa_cons pe_int (pa_cons pe_int pa_nil)))))) (pe_op op_rep (pe_lst (pa_cons (pe_op op_sub (pe_callB call_len_seq rfl (T.free 74) boot_len (pa_cons (pv 1) pa_nil)) pe_int) (pa_cons (pv 2) pa_nil))) (pv 2))))
      (pss_cons (ps_set (i := 5) sc__law_machine.nd rfl (Or.inr rfl) (pe_cal (ok__law_row T) hr (by decide) rfl (pa_cons (pv 0) (pa_cons (pe_op op_cat (pv 4) (pe_op op_rep (pe_lst (pa_cons (pv 2) (pa_cons (pe_op op_add (pe_callB call_len_seq rfl (T.free 74) boot_len (pa_cons (pv 1) pa_nil)) pe_int) (pa_cons (pv 2) pa_nil)))) (pv 3))) pa_nil))))
      (pss_cons (ps_set (i := 6) sc__law_machine.nd rfl (Or.inl rfl) (pe_op op_add pe_int (pe_ix ix_list (pv 5) pe_int (fun _ _ => rfl))))
      (pss_cons (ps_set (i := 7) sc__law_machine.nd rfl (Or.inr rfl) (pe_ix ix_list (pe_lst (pa_cons pe_int (pa_cons pe_int (pa_cons pe_int (pa_cons pe_int (pa_cons pe_int (pa_cons pe_int (pa_cons pe_int (pa_cons pe_int pa_nil))))))))) (pe_ix ix_list (pv 5) pe_int (fun _ _ => rfl)) (fun _ _ => rfl)))
      (pss_cons (ps_setLc (i := 8) (own := [("_law_k", 10)]) rfl sc__law_machine.nd rfl rfl (sw_true rfl rfl rfl (by decide +kernel)) (pi_range1 rfl (T.free 81) (pa_cons (pv 6) pa_nil)) (blkOk_by (N := ["_law_cell_here", "_law_names_here", "_law_most", "_law_extra", "_law_sizes", "_law_row_here", "_law_many", "_law_stride", "_law_labels", "_law_steps", "_law_k", "_law_turn", "_law_word", "_law_at", "_law_step", "_law_target"]) (sc := d__law_machine.scope) (by decide +kernel)) (fun _ _ _ _ _ => (pg_name (i := 10) sc__law_machine.nd rfl (Or.inl rfl))) (fun _ _ _ _ _ => pts_nil) (fun _ _ _ _ _ => (pe_op op_mod (pe_callTy call_int1 rfl (T.free 83) boot_int (pa_cons (pe_op op_add (pe_ix (ix_listB K rfl) (pv 5) pe_int (fun _ _ => rfl)) (pe_op op_mulR (pv 7) (pv 10))) pa_nil)) pe_int)))
      (pss_cons (ps_set (i := 9) sc__law_machine.nd rfl (Or.inl rfl) (pe_lst pa_nil))
      (pss_cons (ps_for PassesOwn.never rfl (pi_range1 rfl (T.free 81) (pa_cons (pv 6) pa_nil)) (pg_name (i := 10) sc__law_machine.nd rfl (Or.inl rfl))
      (pss_cons (ps_set (i := 12) sc__law_machine.nd rfl (Or.inl rfl) (pe_ix ix_list (pv 1) (pe_op op_add pe_int (pe_ix ix_list (pv 5) (pe_op op_add pe_int (pe_op op_mulR pe_int (pv 10))) (fun _ _ => rfl))) (fun _ _ => rfl)))
      (pss_one (ps_expr (pe_bm PySem.F.plainAttrs_list PySem.F.slot_list_append PySem.F.type_list_append mt_append (pv 9) (pa_cons (pe_tup (pa_cons (pe_ix ix_list (pv 8) (pv 10) (fun _ _ => rfl)) (pa_cons (pv 12) (pa_cons (pe_ix ix_list (pv 8) (pe_op op_mod (pe_callTy call_int1 rfl (T.free 83) boot_int (pa_cons (pe_ix ix_list (pv 5) (pe_op op_add pe_int (pe_op op_mulR pe_int (pv 10))) (fun _ _ => rfl)) pa_nil)) (pv 6)) (fun _ _ => rfl)) pa_nil)))) pa_nil))))))
      (pss_cons (ps_for PassesOwn.never rfl (pi_range1 rfl (T.free 81) (pa_cons (pe_ix ix_list (pv 5) pe_int (fun _ _ => rfl)) pa_nil)) (pg_name (i := 10) sc__law_machine.nd rfl (Or.inl rfl))
      (pss_cons (ps_set (i := 13) sc__law_machine.nd rfl (Or.inl rfl) (pe_op op_add (pe_callB call_len_seq rfl (T.free 74) boot_len (pa_cons (pv 4) pa_nil)) (pe_op op_mulR pe_int (pv 10))))
      (pss_cons (ps_set (i := 12) sc__law_machine.nd rfl (Or.inl rfl) (pe_ix ix_list (pv 1) (pe_op op_mod (pe_callTy call_int1 rfl (T.free 83) boot_int (pa_cons (pe_ix ix_list (pv 5) (pe_op op_add (pv 13) pe_int) (fun _ _ => rfl)) pa_nil)) (pe_callB call_len_seq rfl (T.free 74) boot_len (pa_cons (pv 1) pa_nil))) (fun _ _ => rfl)))
      (pss_cons (ps_set (i := 14) sc__law_machine.nd rfl (Or.inl rfl) (pe_tup (pa_cons (pe_ix ix_list (pv 8) (pe_op op_mod (pe_callTy call_int1 rfl (T.free 83) boot_int (pa_cons (pe_ix ix_list (pv 5) (pv 13) (fun _ _ => rfl)) pa_nil)) (pv 6)) (fun _ _ => rfl)) (pa_cons (pv 12) pa_nil))))
      (pss_cons (ps_set (i := 14) sc__law_machine.nd rfl (Or.inl rfl) (pe_op op_catA (pv 14) (pe_tup (pa_cons (pe_ix ix_list (pv 8) (pe_op op_mod (pe_callTy call_int1 rfl (T.free 83) boot_int (pa_cons (pe_ix ix_list (pv 5) (pe_op op_add (pv 13) pe_int) (fun _ _ => rfl)) pa_nil)) (pv 6)) (fun _ _ => rfl)) pa_nil))))
      (pss_one (ps_if (pt_cmpR (op_notInK hr) (pv 14) (pv 9) (by with_unfolding_all rfl))
      (pss_one (ps_expr (pe_bm PySem.F.plainAttrs_list PySem.F.slot_list_append PySem.F.type_list_append mt_append (pv 9) (pa_cons (pv 14) pa_nil)))) pss_nil)))))))
      (pss_cons (ps_if (pt_cmpR op_eq (pe_callB call_len_seq rfl (T.free 74) boot_len (pa_cons (pe_lc (own := [("_law_step", 14)]) rfl sc__law_machine.nd (pi_list (pv 9)) (blkOk_by (N := ["_law_cell_here", "_law_names_here", "_law_most", "_law_extra", "_law_sizes", "_law_row_here", "_law_many", "_law_stride", "_law_labels", "_law_steps", "_law_k", "_law_turn", "_law_word", "_law_at", "_law_step", "_law_target"]) (sc := d__law_machine.scope) (by decide +kernel)) (fun _ _ _ _ _ => (pg_name (i := 14) sc__law_machine.nd rfl (Or.inl rfl))) (fun _ _ _ _ _ => pts_one (pt_cmpR op_eq (pe_ix (ix_tupB K rfl) (pv 14) pe_int (fun _ _ => rfl)) (pe_ix (ix_listB K rfl) (pv 1) pe_int (fun _ _ => rfl)) (nomark _))) (fun _ _ _ _ _ => (pv 14))) pa_nil)) pe_int (nomark _))
      (pss_cons (ps_set (i := 15) sc__law_machine.nd rfl (Or.inl rfl) (pe_ix ix_list (pv 8) (pe_op op_mod (pe_callTy call_int1 rfl (T.free 83) boot_int (pa_cons (pe_op op_fdivW (pe_ix ix_list (pv 5) pe_int (fun _ _ => rfl)) pe_int) pa_nil)) (pv 6)) (fun _ _ => rfl)))
      (pss_one (ps_expr (pe_bm PySem.F.plainAttrs_list PySem.F.slot_list_append PySem.F.type_list_append mt_append (pv 9) (pa_cons (pe_tup (pa_cons (pe_ix ix_list (pv 8) (pe_op op_mod (pe_callTy call_int1 rfl (T.free 83) boot_int (pa_cons (pe_ix ix_list (pv 5) pe_int (fun _ _ => rfl)) pa_nil)) (pv 6)) (fun _ _ => rfl)) (pa_cons (pe_ix ix_list (pv 1) pe_int (fun _ _ => rfl)) (pa_cons (pv 15) pa_nil)))) pa_nil))))) pss_nil)
      (pss_cons (ps_set (i := 11) sc__law_machine.nd rfl (Or.inl rfl) (pe_op op_mod (pe_callTy call_int1 rfl (T.free 83) boot_int (pa_cons (pe_ix ix_list (pv 5) pe_int (fun _ _ => rfl)) pa_nil)) (pe_callB call_len_seq rfl (T.free 74) boot_len (pa_cons (pv 9) pa_nil))))
      (pss_one (ps_ret (pe_lst (pa_cons (pv 8) (pa_cons (pe_op op_cat (pe_slice sl_list (pv 9) (po_some (pv 11)) po_none) (pe_slice sl_list (pv 9) po_none (po_some (pv 11)))) pa_nil))))))))))))))), ?_⟩
  have okL : ∀ {i j : Int}, -(2 ^ 64) < i → i < 2 ^ 64 → IntMulOk i j := fun h1 h2 => (show CMul _ _ from .inl ⟨h1, h2⟩).ok
  have lnv : (ns.map V.str).length = 4 := by rw [List.length_map]; exact lns
  refine ⟨_, rfl, _, rfl, _, _, rfl, rfl, by show 5 ≤ sizeLine; decide, fun a1 h1 => ?_⟩
  have x1 := Ex.new (o := .lst [.int 5, .int (4 + 1), .int 100, .int 8, .int 64]) h1
  refine ⟨_, rfl, a, _, rfl, .inl (x1.sqL ha), _, _, rfl, rfl, _, rfl, by show 2 ≤ sizeLine; decide, fun a2 h2 => ?_⟩
  rw [lnv]
  refine ⟨_, rfl, a2, 5, _, rfl, rfl, upd_same, by decide, by decide, by show 2 * 5 ≤ sizeLine; decide, fun a3 h3 => ?_⟩
  have x3 := (x1.to (o := .lst [.int 3, .int 5]) h2).to (o := .lst (List.replicate 5 [V.int 3, V.int 5]).flatten) h3
  refine ⟨a1, a3, _, _, rfl, rfl, (Ex.new h3) _ _ ((Ex.new h2) _ _ upd_same), upd_same, by show 5 + 10 ≤ sizeLine; decide, fun a4 h4 => ?_⟩
  have x4 := x3.to (o := .lst (mcSizes0.map V.int)) h4
  have g4 : ∀ {Hx : Hp}, Hx = upd (upd (upd (upd H a1 (.lst [.int 5, .int 5, .int 100, .int 8, .int 64])) a2 (.lst [.int 3, .int 5])) a3 (.lst (List.replicate 5 [V.int 3, V.int 5]).flatten)) a4 (.lst (mcSizes0.map V.int)) → Hx a4 = some (.lst (mcSizes0.map V.int)) := fun e => by rw [e]; exact upd_same
  refine ⟨_, rfl, _, rfl, _, rfl, _, rfl, a, _, rfl, .inl (x4.sqL ha), _, _, rfl, rfl, _, rfl, by show 3 ≤ sizeLine; decide, fun a5 h5 => ?_⟩
  rw [lnv]
  refine ⟨_, rfl, a5, 4, _, rfl, rfl, upd_same, by decide, by decide, by show 3 * 4 ≤ sizeLine; decide, fun a6 h6 => ?_⟩
  have x6 := (x4.to (o := .lst [.int 5, .int 6, .int 5]) h5).to (o := .lst (List.replicate 4 [V.int 5, V.int 6, V.int 5]).flatten) h6
  have y6 := (Ex.new (o := .lst [.int 5, .int 6, .int 5]) h5).to (o := .lst (List.replicate 4 [V.int 5, V.int 6, V.int 5]).flatten) h6
  refine ⟨a4, a6, _, _, rfl, rfl, y6 _ _ upd_same, upd_same, by show 15 + 12 ≤ sizeLine; decide, fun a7 h7 => ?_⟩
  have x7 := x6.to (o := .lst (mcSizes.map V.int)) h7
  have hz7 := (Ex.new (o := .lst (mcSizes.map V.int)) h7) _ _ (y6 _ _ (upd_same (a := a4) (o := .lst (mcSizes0.map V.int))))
  refine ⟨c, a7, mcSizes, rfl, SqL.of upd_same, by decide +kernel, by decide +kernel, fun v8 H8 e8 ⟨R, rs, ev, hR, lR, hb⟩ => ?_⟩
  subst ev
  have lR2 : rs.length = 27 := lR
  have x8 := x7.trans e8
  have hz8 := e8 _ _ hz7
  obtain ⟨r0, at0, r00, r01⟩ := row_at lR hb (show mcSizes[0]? = some 5 from rfl) (j := 0) rfl
  obtain ⟨r1, at1, r10, r11⟩ := row_at lR hb (show mcSizes[1]? = some 5 from rfl) (j := 1) rfl
  obtain ⟨r2, at2, r20, r21⟩ := row_at lR hb (show mcSizes[2]? = some 100 from rfl) (j := 2) rfl
  obtain ⟨r3, at3, r30, r31⟩ := row_at lR hb (show mcSizes[3]? = some 8 from rfl) (j := 3) rfl
  obtain ⟨r4, at4, r40, r41⟩ := row_at lR hb (show mcSizes[4]? = some 64 from rfl) (j := 4) rfl
  obtain ⟨m0, rfl⟩ := Int.eq_ofNat_of_zero_le r00
  obtain ⟨n1, rfl⟩ := Int.eq_ofNat_of_zero_le r10
  refine ⟨_, rfl, _, _, _, .int (m0 : Nat), rfl, rfl, SqL.of hR, at0, _, _, rfl, rfl, ?_⟩
  obtain ⟨m, hm⟩ : ∃ m : Nat, m = 1 + m0 := ⟨_, rfl⟩
  have em : (1 : Int) + ((m0 : Nat) : Int) = ((m : Nat) : Int) := by omega
  show gName 6 (V.int ((1 : Int) + ((m0 : Nat) : Int))) _ _ _
  rw [em]
  have m1 : 1 ≤ m := by omega
  have m5 : m ≤ 5 := by omega
  refine ⟨by show 8 ≤ sizeLine; decide, fun a9 h9 => ?_⟩
  have y9 := Ex.new (o := .lst (strd.map V.int)) h9
  have x9 := x8.to (o := .lst (strd.map V.int)) h9
  obtain ⟨sd, hsd, _, atS⟩ := at_in (xs := strd) V.int r30 (by show r3 < 8; exact r31)
  refine ⟨_, rfl, _, _, _, .int r3, rfl, rfl, SqL.of (y9 _ _ hR), at3, _, _, _, .int sd, rfl, rfl, SqL.of upd_same, atS, ?_⟩
  have hR9 := y9 _ _ hR
  have hz9 := y9 _ _ hz8
  refine ⟨_, rfl, (m : Nat), rfl, by omega, by omega, fun D hD => ?_⟩
  have nRD : R ≠ D := ne_of_none hR9 hD
  have nzD : a4 ≠ D := ne_of_none hz9 hD
  have hD0 : H D = none := x9.free hD
  refine lc_it (walk_range (lo := 0) (n := m)) (fun i H3 => Ex H H3 ∧ H3 R = some (.lst (rs.map V.int)) ∧ H3 a4 = some (.lst (mcSizes0.map V.int)) ∧ H3 D = some (.lst ((lbls r2 sd i).map V.int))) ⟨x9.to hD, (upd_ne nRD).trans hR9, (upd_ne nzD).trans hz9, upd_same⟩ (fun _ _ _ _ => True.intro) (fun i x H3 H4 hi p y => ?_) (fun H3 p => ?_)
  · obtain ⟨e, hR3, hz3, hd⟩ := p
    obtain ⟨rfl, rfl⟩ := y
    refine ⟨rfl, ?_⟩
    refine ⟨_, rfl, _, _, _, .int r2, rfl, rfl, SqL.of hR3, at2, _, rfl, _, rfl, _, _, rfl, rfl, ?_, _, _, rfl, rfl, .inl ⟨_, rfl, _, _, rfl, rfl, by show (0 : Int) < 100; decide, _, hd, ?_, e.mut hD0, (upd_ne nRD).trans hR3, (upd_ne nzD).trans hz3, ?_⟩⟩
    · unfold strd at hsd
      simp only [List.mem_cons, List.not_mem_nil, or_false] at hsd
      exact okL (by omega) (by omega)
    · rw [List.length_map, lbls_len]
      exact Nat.lt_of_le_of_lt (show _ ≤ 1000 by omega) (by decide)
    · rw [lbls_snoc, map_snoc]
      exact upd_same
  obtain ⟨e10, hR10, hz10, hL⟩ := p
  have Lnd := lbls_nd (r := r2) m5 hsd
  have Lrg := fun l (hl : l ∈ lbls r2 sd m) => lbls_rg hl
  have Ll := lbls_len r2 sd m
  generalize lbls r2 sd m = L at *
  refine ⟨by show 0 ≤ sizeLine; decide, fun S hS => ?_⟩
  have e11 := e10.to (o := .lst []) hS
  have hS0 := e10.free hS
  have nRS : R ≠ S := ne_of_none hR10 hS
  have nzS : a4 ≠ S := ne_of_none hz10 hS
  have nLS : D ≠ S := ne_of_none hL hS
  have labAt : ∀ x : Int, ∃ l, l ∈ L ∧ atI (L.map V.int) (x % ((m : Nat) : Int)) = some (.int l) := fun x => by
    have h1 := Int.emod_nonneg x (show ((m : Nat) : Int) ≠ 0 by omega)
    have h2 := Int.emod_lt_of_pos x (show (0 : Int) < ((m : Nat) : Int) by omega)
    obtain ⟨l, hl, _, at_⟩ := at_in (xs := L) V.int h1 (by omega)
    exact ⟨l, hl, at_⟩
  have mpos : (0 : Int) < ((m : Nat) : Int) := by omega
  refine ⟨_, rfl, (m : Nat), rfl, by omega, by omega, ?_⟩
  refine for_it (walk_range (lo := 0) (n := m)) (fun i σ H3 => ∃ v10 v11 v12 v13 v14 v15, ∃ us, ∃ rows : List Row, σ = [some (.int c), some (.ref a), some (.int 5), some (.int 4), some (.ref a4), some (.ref R), some (.int (m : Nat)), some (.int sd), some (.ref D), some (.ref S), v10, v11, v12, v13, v14, v15] ∧ Ex H H3 ∧ H3 R = some (.lst (rs.map V.int)) ∧ H3 a4 = some (.lst (mcSizes0.map V.int)) ∧ H3 D = some (.lst (L.map V.int)) ∧ H3 S = some (.lst us) ∧ NkA K H3 us (rows.map kRow) ∧ BaseOk ns L i rows)
    ⟨_, _, _, _, _, _, [], [], rfl, e11, (upd_ne nRS).trans hR10, (upd_ne nzS).trans hz10, (upd_ne nLS).trans hL, upd_same, .nil, ⟨rfl, fun r h => nomatch h⟩⟩ (fun _ _ _ _ _ => True.intro) (fun i x σ H4 H5 hi p y => ?_) (fun σ H4 p => ?_)
  · obtain ⟨v10, v11, v12, v13, v14, v15, us, rows, rfl, e12, hR12, hz12, hL12, hS12, nS, ok⟩ := p
    obtain ⟨rfl, rfl⟩ := y
    have hs5 : ∀ i : Nat, i < 5 → mcSizes[5 + 2 * i]? = some 3 ∧ mcSizes[6 + 2 * i]? = some 5 := by decide +kernel
    obtain ⟨q1, atq1, q10, q11⟩ := row_at lR hb (hs5 i (by omega)).1 (j := 5 + 2 * (0 + (i : Int))) (by omega)
    obtain ⟨q2, atq2, q20, q21⟩ := row_at lR hb (hs5 i (by omega)).2 (j := 6 + 2 * (0 + (i : Int))) (by omega)
    obtain ⟨n, hn, _, atn⟩ := at_in (xs := ns) V.str (j := 1 + q1) (by omega) (by omega)
    refine ⟨_, rfl, _, rfl, _, rfl, _, _, rfl, rfl, okL (by decide) (by decide), _, _, rfl, rfl, _, _, _, .int q1, rfl, rfl, SqL.of hR12, atq1, _, _, rfl, rfl, _, _, _, .str n, rfl, rfl, e12.sqL ha, atn, ?_⟩
    have hil : i < L.length := by omega
    obtain ⟨l2, hl2, atl2⟩ := labAt q2
    have atl1 : atI (L.map V.int) (0 + (i : Int)) = some (.int L[i]) := by
      rw [show (0 : Int) + (i : Int) = ((i : Nat) : Int) by omega]
      exact atI_nat (by rw [List.getElem?_map, List.getElem?_eq_getElem hil]; rfl)
    refine ⟨_, rfl, .inl ⟨rfl, _, SqL.of hS12⟩, _, rfl, _, rfl, _, _, _, .int L[i], rfl, rfl, SqL.of hL12, atl1, _, rfl, _, rfl, _, rfl, _, rfl, _, _, rfl, rfl, okL (by decide) (by decide), _, _, rfl, rfl, _, _, _, .int q2, rfl, rfl, SqL.of hR12, atq2, .inl ⟨_, rfl, _, rfl, _, _, rfl, rfl, mpos, _, _, _, .int l2, rfl, rfl, SqL.of hL12, atl2, by show 3 ≤ sizeLine; decide, fun t ht => ?_⟩⟩
    have xt := Ex.new (o := .tup [.int L[i], .str n, .int l2]) ht
    have hS13 := xt _ _ hS12
    have lus := nS.length
    rw [List.length_map] at lus
    have lrw : rows.length = i := by
      have h := congrArg List.length ok.fst
      rw [List.length_map, List.length_take] at h
      omega
    refine ⟨S, us, _, rfl, rfl, hS13, Nat.lt_of_le_of_lt (show us.length ≤ 100 by omega) (by decide), ?_⟩
    have nk : Nk K (upd H5 t (.tup [.int L[i], .str n, .int l2])) (.ref t) (kRow (L[i], n, l2)) := Nk.ofRow (r := (L[i], n, l2)) (SqT.of upd_same)
    refine ⟨_, _, _, _, _, _, us ++ [.ref t], rows ++ [(L[i], n, l2)], rfl, (e12.to ht).mut hS0, (upd_ne nRS).trans (xt _ _ hR12), (upd_ne nzS).trans (xt _ _ hz12), (upd_ne nLS).trans (xt _ _ hL12), upd_same, ?_, ?_, fun r hr => ?_⟩
    · rw [map_snoc]
      exact NkA.append (NkA.other (NkA.mono xt _ _ nS) hS13) (.cons (Nk.upd hS13 lst_ne _ _ nk) .nil)
    · rw [map_snoc, ok.fst]
      exact (take_next (List.getElem?_eq_getElem hil)).symm
    · rcases List.mem_append.mp hr with hr | hr
      · exact ok.lab r hr
      · rw [List.mem_singleton.mp hr]
        exact ⟨List.getElem_mem hil, hn, hl2⟩
  obtain ⟨v10, v11, v12, v13, v14, v15, us, rows, rfl, e12, hR12, hz12, hL12, hS12, nS, ok⟩ := p
  rw [← Ll] at ok
  have mid := ok.mid Lnd (by omega)
  clear ok
  have nmAt : ∀ x : Int, ∃ n, n ∈ ns ∧ atI (ns.map V.str) (x % (((ns.map V.str).length : Nat) : Int)) = some (.str n) := fun x => by
    have h1 := Int.emod_nonneg x (show (((ns.map V.str).length : Nat) : Int) ≠ 0 by omega)
    have h2 := Int.emod_lt_of_pos x (show (0 : Int) < (((ns.map V.str).length : Nat) : Int) by omega)
    obtain ⟨n, hn, _, at_⟩ := at_in (xs := ns) V.str h1 (by omega)
    exact ⟨n, hn, at_⟩
  have npos : (0 : Int) < (((ns.map V.str).length : Nat) : Int) := by omega
  have lz : (mcSizes0.map V.int).length = 15 := rfl
  refine ⟨_, rfl, _, _, _, .int (n1 : Nat), rfl, rfl, SqL.of hR12, at1, (n1 : Nat), rfl, by omega, by omega, ?_⟩
  refine for_it (walk_range (lo := 0) (n := n1)) (fun i σ H3 => ∃ v10 v11 v12 v13 v14 v15, ∃ us, ∃ rows : List Row, σ = [some (.int c), some (.ref a), some (.int 5), some (.int 4), some (.ref a4), some (.ref R), some (.int (m : Nat)), some (.int sd), some (.ref D), some (.ref S), v10, v11, v12, v13, v14, v15] ∧ Ex H H3 ∧ H3 R = some (.lst (rs.map V.int)) ∧ H3 a4 = some (.lst (mcSizes0.map V.int)) ∧ H3 D = some (.lst (L.map V.int)) ∧ H3 S = some (.lst us) ∧ NkA K H3 us (rows.map kRow) ∧ MidOk ns L i rows)
    ⟨_, _, _, _, _, _, us, rows, rfl, e12, hR12, hz12, hL12, hS12, nS, mid⟩ (fun _ _ _ _ _ => True.intro) (fun i x σ H4 H5 hi p y => ?_) (fun σ H4 p => ?_)
  · clear mid nS hS12 hL12 hz12 hR12 e12
    obtain ⟨v10, v11, v12, v13, v14, v15, us, rows, rfl, e12, hR12, hz12, hL12, hS12, nS, mid⟩ := p
    obtain ⟨rfl, rfl⟩ := y
    have hs6 : ∀ i : Nat, i < 4 → mcSizes[15 + 3 * i]? = some 5 ∧ mcSizes[16 + 3 * i]? = some 6 ∧ mcSizes[17 + 3 * i]? = some 5 := by decide +kernel
    obtain ⟨q0, atq0, _, _⟩ := row_at lR hb (hs6 i (by omega)).1 (j := (((mcSizes0.map V.int).length : Nat) : Int) + 3 * (0 + (i : Int))) (by omega)
    obtain ⟨q1, atq1, _, _⟩ := row_at lR hb (hs6 i (by omega)).2.1 (j := (((mcSizes0.map V.int).length : Nat) : Int) + 3 * (0 + (i : Int)) + 1) (by omega)
    obtain ⟨q2, atq2, _, _⟩ := row_at lR hb (hs6 i (by omega)).2.2 (j := (((mcSizes0.map V.int).length : Nat) : Int) + 3 * (0 + (i : Int)) + 2) (by omega)
    obtain ⟨n, hn, atn⟩ := nmAt q1
    obtain ⟨l1, hl1, atl1⟩ := labAt q0
    obtain ⟨l2, hl2, atl2⟩ := labAt q2
    refine ⟨_, rfl, a4, _, rfl, .inl (SqL.of hz12), _, rfl, _, _, rfl, rfl, okL (by decide) (by decide), _, _, rfl, rfl, ?_⟩
    refine ⟨_, rfl, _, rfl, _, rfl, _, _, rfl, rfl, _, _, _, .int q1, rfl, rfl, SqL.of hR12, atq1, .inl ⟨_, rfl, _, rfl, a, _, rfl, .inl (e12.sqL ha), _, _, rfl, rfl, npos, _, _, _, .str n, rfl, rfl, e12.sqL ha, atn, ?_⟩⟩
    refine ⟨_, rfl, _, rfl, _, rfl, _, _, _, .int q0, rfl, rfl, SqL.of hR12, atq0, .inl ⟨_, rfl, _, rfl, _, _, rfl, rfl, mpos, _, _, _, .int l1, rfl, rfl, SqL.of hL12, atl1, _, rfl, by show 2 ≤ sizeLine; decide, fun t ht => ?_⟩⟩
    have xt := Ex.new (o := .tup [.int l1, .str n]) ht
    refine ⟨_, rfl, _, rfl, _, rfl, _, rfl, _, _, rfl, rfl, _, _, _, .int q2, rfl, rfl, SqL.of (xt _ _ hR12), atq2, .inl ⟨_, rfl, _, rfl, _, _, rfl, rfl, mpos, _, _, _, .int l2, rfl, rfl, SqL.of (xt _ _ hL12), atl2, by show 1 ≤ sizeLine; decide, fun t2 ht2 => ?_⟩⟩
    have xt2 := xt.to (o := .tup [.int l2]) ht2
    refine catA ((Ex.new ht2).sqT (SqT.of upd_same)) (SqT.of upd_same) (by show 2 + 1 ≤ sizeLine; decide) fun pr H6 e6 hpr => ?_
    have xx := xt2.trans e6
    have nk : Nk K H6 (.ref pr) (kRow (l1, n, l2)) := Nk.ofRow (r := (l1, n, l2)) hpr
    have hS13 := xx _ _ hS12
    have nS13 := NkA.mono xx _ _ nS
    refine ⟨_, rfl, _, rfl, S, kRow (l1, n, l2), rows.map kRow, rfl, nk, SqK.l (SqL.of hS13) nS13, Nat.le_trans (kRow_depth _) (by decide), _, rfl, itE (fun cc => ?_) fun cc => ?_⟩
    · have hnot : (l1, n, l2) ∉ rows := fun z => ofnT cc ((mem_map_inj kRow_inj).mpr z)
      have lus := nS.length
      rw [List.length_map] at lus
      have few := mid.len
      refine ⟨_, rfl, .inl ⟨rfl, _, SqL.of hS13⟩, _, rfl, S, us, _, rfl, rfl, hS13, Nat.lt_of_le_of_lt (show us.length ≤ 100 by omega) (by decide), ?_⟩
      refine ⟨_, _, _, _, _, _, us ++ [.ref pr], rows ++ [(l1, n, l2)], rfl, (e12.trans xx).mut hS0, (upd_ne nRS).trans (xx _ _ hR12), (upd_ne nzS).trans (xx _ _ hz12), (upd_ne nLS).trans (xx _ _ hL12), upd_same, ?_, mid.snoc hnot ⟨hl1, hn, hl2⟩⟩
      rw [map_snoc]
      exact NkA.append (NkA.other nS13 hS13) (.cons (Nk.upd hS13 lst_ne _ _ nk) .nil)
    · exact ⟨_, _, _, _, _, _, us, rows, rfl, e12.trans xx, xx _ _ hR12, xx _ _ hz12, xx _ _ hL12, hS13, nS13, mid.mono (Nat.le_succ _)⟩
  clear mid nS hS12 hL12 hz12 hR12 e12
  obtain ⟨v10, v11, v12, v13, v14, v15, us, rows, rfl, e12, hR12, hz12, hL12, hS12, nS, mid⟩ := p
  have mid := mid.mono (show n1 ≤ 4 by omega)
  obtain ⟨n0, hn0m, hn0g, atn0⟩ := at_in (xs := ns) V.str (j := 0) (by omega) (by omega)
  have lus := nS.length
  rw [List.length_map] at lus
  have few := mid.len
  refine ⟨_, rfl, S, rfl, ⟨_, SqL.of hS12⟩, fun D2 hD2 => ?_⟩
  have xD2 := Ex.new (o := .lst []) hD2
  refine lc_it (walk_list (xs := us)) (fun i H5 => ∃ ws : List V, Ex H4 H5 ∧ H5 D2 = some (.lst ws) ∧ ws.length ≤ i ∧ (ws = [] ↔ ∀ r ∈ rows.take i, r.2.1 ≠ n0)) ⟨[], xD2, upd_same, Nat.zero_le _, by simp⟩ (fun i H5 _ p => by obtain ⟨ws, e, _⟩ := p; exact SqL.of (e _ _ hS12)) (fun i x H5 H6 hi p y => ?_) (fun H5 p => ?_)
  · obtain ⟨ws, e, hd, lw, hw⟩ := p
    obtain ⟨rfl, hx⟩ := y
    obtain ⟨k, hk, nk⟩ := NkA.get nS hx
    rw [List.getElem?_map] at hk
    obtain ⟨r, hr, rfl⟩ := Option.map_eq_some_iff.mp hk
    obtain ⟨ra, rfl, hra⟩ := Nk.row nk
    refine ⟨rfl, ?_⟩
    refine ⟨_, rfl, _, _, _, _, rfl, rfl, e.sqT hra, rfl, _, rfl, _, _, _, .str n0, rfl, rfl, (e12.trans e).sqL ha, atn0, rfl, _, rfl, itE (fun cc => ?_) fun cc => ?_⟩
    · refine ⟨_, rfl, ws, hd, Nat.lt_of_le_of_lt (show ws.length ≤ 100 by omega) (by decide), ws ++ [.ref ra], e.mut hD2, upd_same, by rw [List.length_append, List.length_singleton]; omega, ?_⟩
      have hc : r.2.1 = n0 := by injection ofT cc
      constructor
      · intro z; simp at z
      · intro z
        rw [take_next hr] at z
        exact absurd hc (z r (List.mem_append_right _ (List.mem_singleton.mpr rfl)))
    · refine ⟨ws, e, hd, by omega, ?_⟩
      have hc : r.2.1 ≠ n0 := fun z => ofF cc (by rw [z])
      rw [hw, take_next hr]
      constructor
      · intro z q hq
        rcases List.mem_append.mp hq with hq | hq
        · exact z q hq
        · rw [List.mem_singleton.mp hq]; exact hc
      · intro z q hq
        exact z q (List.mem_append_left _ hq)
  obtain ⟨ws, ee, hd, lw, hw⟩ := p
  rw [lus, List.take_length] at hw
  have hR12 := ee _ _ hR12
  have hL12 := ee _ _ hL12
  have hS12 := ee _ _ hS12
  have nS := NkA.mono ee _ _ nS
  have e12 := e12.trans ee
  refine ⟨D2, ws, rfl, .inl (SqL.of hd), rfl, _, rfl, itE (fun cc => ?_) fun cc => ?_⟩
  · have hw0 : ws = [] := by
      have h := ofT cc
      injection h with h
      exact List.length_eq_zero_iff.mp (by omega)
    have hno := hw.mp hw0
    obtain ⟨lt, hlt, atlt⟩ := labAt (r4 / 8)
    obtain ⟨ls, hls, atls⟩ := labAt r4
    refine ⟨_, rfl, _, rfl, _, _, _, .int r4, rfl, rfl, SqL.of hR12, at4, _, _, rfl, rfl, wide_div (b := 64) (by decide) (by decide) (by decide) (by decide), .inl ⟨_, rfl, _, rfl, _, _, rfl, rfl, mpos, _, _, _, .int lt, rfl, rfl, SqL.of hL12, atlt, ?_⟩⟩
    refine ⟨_, rfl, .inl ⟨rfl, _, SqL.of hS12⟩, _, rfl, _, rfl, _, _, _, .int r4, rfl, rfl, SqL.of hR12, at4, .inl ⟨_, rfl, _, rfl, _, _, rfl, rfl, mpos, _, _, _, .int ls, rfl, rfl, SqL.of hL12, atls, _, rfl, _, _, _, .str n0, rfl, rfl, e12.sqL ha, atn0, _, rfl, by show 3 ≤ sizeLine; decide, fun t ht => ?_⟩⟩
    have xt := Ex.new (o := .tup [.int ls, .str n0, .int lt]) ht
    have hS13 := xt _ _ hS12
    refine ⟨S, us, _, rfl, rfl, hS13, Nat.lt_of_le_of_lt (show us.length ≤ 100 by omega) (by decide), ?_⟩
    have nk : Nk K (upd H5 t (.tup [.int ls, .str n0, .int lt])) (.ref t) (kRow (ls, n0, lt)) := Nk.ofRow (r := (ls, n0, lt)) (SqT.of upd_same)
    have nS13 : NkA K (upd (upd H5 t (.tup [.int ls, .str n0, .int lt])) S (.lst (us ++ [.ref t]))) (us ++ [.ref t]) ((rows ++ [(ls, n0, lt)]).map kRow) := by
      rw [map_snoc]
      exact NkA.append (NkA.other (NkA.mono xt _ _ nS) hS13) (.cons (Nk.upd hS13 lst_ne _ _ nk) .nil)
    have mid := mid.snoc (r := (ls, n0, lt)) (fun z => hno _ z rfl) ⟨hls, hn0m, hlt⟩
    have hn0 : ∃ r ∈ rows ++ [(ls, n0, lt)], ns[0]? = some r.2.1 := ⟨(ls, n0, lt), List.mem_append_right _ (List.mem_singleton.mpr rfl), hn0g⟩
    have hR12 := (upd_ne (o := .lst (us ++ [.ref t])) nRS).trans (xt _ _ hR12)
    have hL12 := (upd_ne (o := .lst (us ++ [.ref t])) nLS).trans (xt _ _ hL12)
    have e12 := (e12.trans xt).mut (o := .lst (us ++ [.ref t])) hS0
    have nS := nS13
    have hS12 := upd_same (H := upd H5 t (.tup [.int ls, .str n0, .int lt])) (a := S) (o := .lst (us ++ [.ref t]))
    clear hw hno hw0 lus few hS13 nS13 lw cc
    generalize us ++ [V.ref t] = us at *
    generalize rows ++ [(ls, n0, lt)] = rows at *
    have fin_len := nS.length
    rw [List.length_map] at fin_len
    have fin_few := mid.len
    have fin_pos := mid.pos
    have up : (0 : Int) < ((us.length : Nat) : Int) := by omega
    have t1 := Int.emod_nonneg r4 (show ((us.length : Nat) : Int) ≠ 0 by omega)
    have t2 := Int.emod_lt_of_pos r4 up
    refine ⟨_, rfl, _, _, _, .int r4, rfl, rfl, SqL.of hR12, at4, .inl ⟨_, rfl, _, rfl, S, us, rfl, .inl (SqL.of hS12), _, _, rfl, rfl, up, ?_⟩⟩
    obtain ⟨tn, etn⟩ := Int.eq_ofNat_of_zero_le t1
    rw [etn] at t2
    have lusz : us.length ≤ 100 := by omega
    refine ⟨_, rfl, _, rfl, _, rfl, _, rfl, S, us, rfl, SqL.of hS12, fun s1 hs1 => ?_⟩
    have xs1 := Ex.new (o := .lst (cutV us (some (r4 % ((us.length : Nat) : Int))) none)) hs1
    refine ⟨_, rfl, _, rfl, _, rfl, S, us, rfl, SqL.of (xs1 _ _ hS12), fun s2 hs2 => ?_⟩
    have xs2 := Ex.new (o := .lst (cutV us none (some (r4 % ((us.length : Nat) : Int))))) hs2
    have c1 : cutV us (some (r4 % ((us.length : Nat) : Int))) none = us.drop tn := by
      unfold cutV
      rw [etn, HT.sIx_nat, HT.sIx_none, Nat.min_eq_left (by omega)]
      exact List.take_of_length_le (by rw [List.length_drop]; exact Nat.le_refl _)
    have c2 : cutV us none (some (r4 % ((us.length : Nat) : Int))) = us.take tn := by
      unfold cutV
      rw [etn, HT.sIx_nat, HT.sIx_none, Nat.min_eq_left (by omega)]
      rfl
    have z1 := cutV_length us (some (r4 % ((us.length : Nat) : Int))) none
    have z2 := cutV_length us none (some (r4 % ((us.length : Nat) : Int)))
    refine ⟨s1, s2, _, _, rfl, rfl, xs2 _ _ upd_same, upd_same, Nat.le_trans (show _ ≤ 1000 by omega) (by decide), fun s3 hs3 => ?_⟩
    refine ⟨by show 2 ≤ sizeLine; decide, fun rr hrr => ?_⟩
    have xs3 := Ex.new (o := .lst (cutV us (some (r4 % ((us.length : Nat) : Int))) none ++ cutV us none (some (r4 % ((us.length : Nat) : Int))))) hs3
    have xs4 := Ex.new (o := .lst [.ref D, .ref s3]) hrr
    have xall := ((xs1.trans xs2).trans xs3).trans xs4
    refine q.of (e12.trans xall) ⟨rr, D, s3, _, L, rows.drop tn ++ rows.take tn, rfl, upd_same, xall _ _ hL12, xs4 _ _ upd_same, ?_, ?_, Lnd, by omega, by omega, Lrg, ?_⟩
    · rw [List.map_append, List.map_drop, List.map_take]
      have nn := NkA.mono xall _ _ nS
      have n2 := NkA.append (NkA.drop tn nn) (NkA.take tn nn)
      rw [← c1, ← c2] at n2
      exact n2
    · refine mid.perm ?_
      have p1 : (rows.take tn ++ rows.drop tn).Perm (rows.drop tn ++ rows.take tn) := List.perm_append_comm
      rw [List.take_append_drop] at p1
      exact p1.symm
    · obtain ⟨r, hr, er⟩ := hn0
      refine ⟨r, ?_, er⟩
      rw [List.mem_append]
      rw [← List.take_append_drop tn rows] at hr
      exact (List.mem_append.mp hr).symm
  · have mid := mid.mono (show 4 ≤ 5 by omega)
    have hn0 : ∃ r ∈ rows, ns[0]? = some r.2.1 := by
      refine Classical.byContradiction fun hcon => ?_
      have hz : ws = [] := hw.mpr fun r hr e => hcon ⟨r, hr, by rw [e]; exact hn0g⟩
      exact ofF cc (by rw [hz]; rfl)
    skip
    have fin_len := nS.length
    rw [List.length_map] at fin_len
    have fin_few := mid.len
    have fin_pos := mid.pos
    have up : (0 : Int) < ((us.length : Nat) : Int) := by omega
    have t1 := Int.emod_nonneg r4 (show ((us.length : Nat) : Int) ≠ 0 by omega)
    have t2 := Int.emod_lt_of_pos r4 up
    refine ⟨_, rfl, _, _, _, .int r4, rfl, rfl, SqL.of hR12, at4, .inl ⟨_, rfl, _, rfl, S, us, rfl, .inl (SqL.of hS12), _, _, rfl, rfl, up, ?_⟩⟩
    obtain ⟨tn, etn⟩ := Int.eq_ofNat_of_zero_le t1
    rw [etn] at t2
    have lusz : us.length ≤ 100 := by omega
    refine ⟨_, rfl, _, rfl, _, rfl, _, rfl, S, us, rfl, SqL.of hS12, fun s1 hs1 => ?_⟩
    have xs1 := Ex.new (o := .lst (cutV us (some (r4 % ((us.length : Nat) : Int))) none)) hs1
    refine ⟨_, rfl, _, rfl, _, rfl, S, us, rfl, SqL.of (xs1 _ _ hS12), fun s2 hs2 => ?_⟩
    have xs2 := Ex.new (o := .lst (cutV us none (some (r4 % ((us.length : Nat) : Int))))) hs2
    have c1 : cutV us (some (r4 % ((us.length : Nat) : Int))) none = us.drop tn := by
      unfold cutV
      rw [etn, HT.sIx_nat, HT.sIx_none, Nat.min_eq_left (by omega)]
      exact List.take_of_length_le (by rw [List.length_drop]; exact Nat.le_refl _)
    have c2 : cutV us none (some (r4 % ((us.length : Nat) : Int))) = us.take tn := by
      unfold cutV
      rw [etn, HT.sIx_nat, HT.sIx_none, Nat.min_eq_left (by omega)]
      rfl
    have z1 := cutV_length us (some (r4 % ((us.length : Nat) : Int))) none
    have z2 := cutV_length us none (some (r4 % ((us.length : Nat) : Int)))
    refine ⟨s1, s2, _, _, rfl, rfl, xs2 _ _ upd_same, upd_same, Nat.le_trans (show _ ≤ 1000 by omega) (by decide), fun s3 hs3 => ?_⟩
    refine ⟨by show 2 ≤ sizeLine; decide, fun rr hrr => ?_⟩
    have xs3 := Ex.new (o := .lst (cutV us (some (r4 % ((us.length : Nat) : Int))) none ++ cutV us none (some (r4 % ((us.length : Nat) : Int))))) hs3
    have xs4 := Ex.new (o := .lst [.ref D, .ref s3]) hrr
    have xall := ((xs1.trans xs2).trans xs3).trans xs4
    refine q.of (e12.trans xall) ⟨rr, D, s3, _, L, rows.drop tn ++ rows.take tn, rfl, upd_same, xall _ _ hL12, xs4 _ _ upd_same, ?_, ?_, Lnd, by omega, by omega, Lrg, ?_⟩
    · rw [List.map_append, List.map_drop, List.map_take]
      have nn := NkA.mono xall _ _ nS
      have n2 := NkA.append (NkA.drop tn nn) (NkA.take tn nn)
      rw [← c1, ← c2] at n2
      exact n2
    · refine mid.perm ?_
      have p1 : (rows.take tn ++ rows.drop tn).Perm (rows.drop tn ++ rows.take tn) := List.perm_append_comm
      rw [List.take_append_drop] at p1
      exact p1.symm
    · obtain ⟨r, hr, er⟩ := hn0
      refine ⟨r, ?_, er⟩
      rw [List.mem_append]
      rw [← List.take_append_drop tn rows] at hr
      exact (List.mem_append.mp hr).symm
end
end K25
set_option pp.maxSteps 1500
set_option pp.deepTerms false
/-! the law's small helpers; its faults, its sights -/
namespace K25
open PySem PySem.Spec PyProof.Rows L2
section
variable {P : Program} {w : World} {K : PySem.W.Frag} {mg : Str → Option Value} {base : Heap}
def sp__law_flag : Sp := fun vs H Q _ => ∃ b d : Bool, vs = [.bl b, .bl d] ∧ Ret H Q fun v H' => v = .bl (decide (b = d))
theorem sc__law_flag : FnScope ["_law_told", "_law_due"] ["_law_told", "_law_due"] d__law_flag.scope := ⟨rfl, rfl, rfl, by decide +kernel, rfl, by decide +kernel, by decide +kernel⟩
theorem ok__law_flag (T : Tp K mg) : Cal P w K mg base "_law_flag" 1 ["_law_told", "_law_due"] (sp__law_flag) := by
  refine ⟨_, T.glo 59, ?_⟩
  show Df P w K mg base (d__law_flag.path K) 1 ["_law_told", "_law_due"] (sp__law_flag)
  refine T.df 56 (d := d__law_flag) rfl rfl sc__law_flag (fun vs H Q E h => by obtain ⟨_, _, e, _⟩ := h; rw [e]; rfl) (fun _ _ _ _ _ _ us hl => match us, hl with | [_, _], _ => rfl) (fun cdv A outer s H vs Q E hr h => ?_)

  obtain ⟨b, d, rfl, q⟩ := h
  refine ⟨_, PSs.nox (pss_one (ps_ret (pe_and (pe_callB call_isi rfl (T.free 75) boot_isinstance (pa_cons (pv 0) (pa_cons (pe_bltn (v := .ty "bool") rfl (T.free 85) boot_bool rfl) pa_nil))) (pe_one (pe_cmpR op_eq (pv 0) (pv 1) (nomark _)))))), ?_⟩
  refine ⟨_, rfl, .bl b, .ty "bool", _, _, true, rfl, .ty _, .base (.bl b), kit_ty (by decide +kernel), true, rfl, iteT ?_⟩
  refine ⟨_, rfl, _, rfl, rfl, q.of (Ex.refl _) ?_⟩
  refine congrArg V.bl ?_
  rw [Bool.eq_iff_iff, decide_eq_true_eq, decide_eq_true_eq]
  exact ⟨fun e => by injection e, fun e => by rw [e]⟩
def sp__law_is_integer : Sp := fun vs H Q _ => ∃ i : Int, vs = [.int i] ∧ Ret H Q fun v H' => v = .bl true
theorem sc__law_is_integer : FnScope ["_law_thing"] ["_law_thing"] d__law_is_integer.scope := ⟨rfl, rfl, rfl, by decide +kernel, rfl, by decide +kernel, by decide +kernel⟩
theorem ok__law_is_integer (T : Tp K mg) : Cal P w K mg base "_law_is_integer" 1 ["_law_thing"] (sp__law_is_integer) := by
  refine ⟨_, T.glo 56, ?_⟩
  show Df P w K mg base (d__law_is_integer.path K) 1 ["_law_thing"] (sp__law_is_integer)
  refine T.df 53 (d := d__law_is_integer) rfl rfl sc__law_is_integer (fun vs H Q E h => by obtain ⟨_, e, _⟩ := h; rw [e]; rfl) (fun _ _ _ _ _ _ us hl => match us, hl with | [_], _ => rfl) (fun cdv A outer s H vs Q E hr h => ?_)

  obtain ⟨i, rfl, q⟩ := h
  refine ⟨_, PSs.nox (pss_one (ps_ret (pe_and (pe_callB call_isi rfl (T.free 75) boot_isinstance (pa_cons (pv 0) (pa_cons (pe_bltn (v := .ty "int") rfl (T.free 83) boot_int rfl) pa_nil))) (pe_one (pe_not (pe_callB call_isi rfl (T.free 75) boot_isinstance (pa_cons (pv 0) (pa_cons (pe_bltn (v := .ty "bool") rfl (T.free 85) boot_bool rfl) pa_nil)))))))), ?_⟩
  refine ⟨_, rfl, .int i, .ty "int", _, _, true, rfl, .ty _, .base (.int i), kit_ty (by decide +kernel), true, rfl, ?_⟩
  refine iteT ?_
  refine ⟨_, rfl, .int i, .ty "bool", _, _, false, rfl, .ty _, .base (.int i), kit_ty (by decide +kernel), false, rfl, ?_⟩
  exact q.of (Ex.refl _) rfl
def sp__law_is_name : Sp := fun vs H Q _ => ∃ x : Str, vs = [.str x] ∧ NmOk x ∧ Ret H Q fun v H' => v = .bl true
theorem sc__law_is_name : FnScope ["_law_thing", "_law_sign"] ["_law_thing"] d__law_is_name.scope := ⟨rfl, rfl, rfl, by decide +kernel, rfl, by decide +kernel, by decide +kernel⟩
theorem ok__law_is_name (T : Tp K mg) : Cal P w K mg base "_law_is_name" 1 ["_law_thing"] (sp__law_is_name) := by
  refine ⟨_, T.glo 60, ?_⟩
  show Df P w K mg base (d__law_is_name.path K) 1 ["_law_thing"] (sp__law_is_name)
  refine T.df 57 (d := d__law_is_name) rfl rfl sc__law_is_name (fun vs H Q E h => by obtain ⟨_, e, _⟩ := h; rw [e]; rfl) (fun _ _ _ _ _ _ us hl => match us, hl with | [_], _ => rfl) (fun cdv A outer s H vs Q E hr h => ?_)

  obtain ⟨x, rfl, ⟨l0, l1, lc⟩, q⟩ := h
  refine ⟨_, PSs.nox (pss_cons (ps_if (PW.pt (pw_or (pt_not (pt_val (pe_callB call_isi rfl (T.free 75) boot_isinstance (pa_cons (pv 0) (pa_cons (pe_bltn (v := .ty "str") rfl (T.free 84) boot_str rfl) pa_nil))))) (pw_or1 (pt_not (pt_chain op_le op_le pe_int (pe_callB call_len_str rfl (T.free 74) boot_len (pa_cons (pv 0) pa_nil)) pe_int)))))
      (pss_one (ps_ret pe_bl)) pss_nil)
      (pss_one (ps_ret (pe_cmpR op_eq (pe_callB call_len_seq rfl (T.free 74) boot_len (pa_cons (pe_lc (own := [("_law_sign", 1)]) rfl sc__law_is_name.nd (pi_str (pv 0)) (blkOk_by (N := ["_law_thing", "_law_sign"]) (sc := d__law_is_name.scope) (by decide +kernel)) (fun _ _ _ _ _ => (pg_name (i := 1) sc__law_is_name.nd rfl (Or.inl rfl))) (fun _ _ _ _ _ => pts_one (pt_cmpR op_notIn_sign (pv 1) pe_str (by with_unfolding_all rfl))) (fun _ _ _ _ _ => (pv 1))) pa_nil)) pe_int (nomark _))))), ?_⟩
  refine ⟨_, rfl, .str x, .ty "str", _, _, true, rfl, .ty _, .base (.str x), kit_ty (by decide +kernel), true, rfl, ?_⟩
  refine iteF ?_
  refine ⟨_, rfl, x, rfl, Nat.le_trans l1 (by decide), ?_⟩
  refine ⟨_, _, rfl, rfl, _, rfl, ?_⟩
  refine itT (dT (show (1 : Int) ≤ (x.length : Int) by omega)) ?_
  refine ⟨_, _, rfl, rfl, _, rfl, ?_⟩
  refine itF (nF (show (x.length : Int) ≤ (12 : Int) by omega)) ?_
  refine ⟨_, rfl, x, rfl, fun D hD => ?_⟩
  refine lc_it walk_str (fun i H1 => Ex H H1 ∧ H1 D = some (.lst [])) ⟨Ex.new hD, upd_same⟩ (fun _ _ _ _ => True.intro) (fun i v H1 H2 hi p y => ?_) (fun H1 p => ?_)
  · obtain ⟨e, hd⟩ := p
    obtain ⟨rfl, c, hc, rfl⟩ := y
    refine ⟨rfl, ?_⟩
    refine ⟨_, rfl, c, _, rfl, rfl, _, rfl, ?_⟩
    refine itF (nF (lc c (by rw [Array.mem_toList_iff]; exact Array.mem_of_getElem? hc))) ?_
    exact ⟨e, hd⟩
  · obtain ⟨e, hd⟩ := p
    refine ⟨D, [], rfl, .inl (SqL.of hd), rfl, q.of e rfl⟩
/-- the words of a fault -/
def badOf (t : Tab) (f : Str) : List Str := (t.filter fun p => decide (p.2 = f)).map (·.1)
def sp__law_bad_words (K : PySem.W.Frag) : Sp := fun vs H Q _ => ∃ a t, ∃ f : Str, vs = [.ref a, .str f] ∧ H a = some (.dK (tD t)) ∧ TbOk t ∧ Ret H Q fun v H' => ∃ l, v = .ref l ∧ H' l = some (.lst ((badOf t f).map V.str))
theorem sc__law_bad_words : FnScope ["_law_table", "_law_fault", "_law_word"] ["_law_table", "_law_fault"] d__law_bad_words.scope := ⟨rfl, rfl, rfl, by decide +kernel, rfl, by decide +kernel, by decide +kernel⟩
theorem ok__law_bad_words (T : Tp K mg) : Cal P w K mg base "_law_bad_words" 1 ["_law_table", "_law_fault"] (sp__law_bad_words K) := by
  refine ⟨_, T.glo 63, ?_⟩
  show Df P w K mg base (d__law_bad_words.path K) 1 ["_law_table", "_law_fault"] (sp__law_bad_words K)
  refine T.df 60 (d := d__law_bad_words) rfl rfl sc__law_bad_words (fun vs H Q E h => by obtain ⟨_, _, _, e, _⟩ := h; rw [e]; rfl) (fun _ _ _ _ _ _ us hl => match us, hl with | [_, _], _ => rfl) (fun cdv A outer s H vs Q E hr h => ?_)

  obtain ⟨a, t, f, rfl, ha, tk, q⟩ := h
  refine ⟨_, PSs.nox (pss_one (ps_ret (pe_lc (own := [("_law_word", 2)]) rfl sc__law_bad_words.nd (pi_list (pe_callTy (call_listD rfl) rfl (T.free 77) boot_list (pa_cons (pv 0) pa_nil))) (blkOk_by (N := ["_law_table", "_law_fault", "_law_word"]) (sc := d__law_bad_words.scope) (by decide +kernel)) (fun _ _ _ _ _ => (pg_name (i := 2) sc__law_bad_words.nd rfl (Or.inl rfl))) (fun _ _ _ _ _ => pts_one (pt_cmpR op_eq (pe_dget (by exact hu_of hr) (pv 0) (pv 2) (fun _ _ => rfl)) (pv 1) (nomark _))) (fun _ _ _ _ _ => (pv 2))))), ?_⟩
  refine ⟨_, rfl, a, _, rfl, .inl ha, fun l hl => ?_⟩
  have hk : (tD t).map (fun kv => kV kv.1) = t.map fun p => V.str p.1 := by
    unfold tD
    rw [List.map_map]
    rfl
  rw [hk]
  have e1 := Ex.new (o := .lst (t.map fun p => V.str p.1)) hl
  refine ⟨l, rfl, ⟨_, SqL.of upd_same⟩, fun D hD => ?_⟩
  refine lc_it (walk_list (xs := t.map fun p => V.str p.1)) (fun i H1 => Ex (upd H l (.lst (t.map fun p => V.str p.1))) H1 ∧ H1 D = some (.lst ((badOf (t.take i) f).map V.str))) ⟨Ex.new hD, upd_same⟩ (fun i H1 _ p => SqL.of (p.1 _ _ upd_same)) (fun i x H1 H2 hi p y => ?_) (fun H1 p => ?_)
  · obtain ⟨e, hd⟩ := p
    obtain ⟨rfl, hx⟩ := y
    rw [List.getElem?_map] at hx
    obtain ⟨p, hp, rfl⟩ := Option.map_eq_some_iff.mp hx
    refine ⟨rfl, ?_⟩
    have hb : badOf (t.take (i + 1)) f = badOf (t.take i) f ++ if p.2 = f then [p.1] else [] := by
      unfold badOf
      rw [take_next hp, List.filter_append]
      by_cases c : p.2 = f <;> simp [c]
    refine ⟨_, rfl, _, rfl, a, .str p.2, rfl, .inl ⟨_, .inr p.1, .inl ((e1.trans e) _ _ ha), rfl, ?_⟩, ?_⟩
    · rw [valV_tD, lk_mem tk.nd (List.mem_of_getElem? hp)]
      rfl
    refine ⟨_, rfl, rfl, _, rfl, itE (fun cc => ?_) fun cc => ?_⟩
    · have hc : p.2 = f := by injection ofT cc
      rw [if_pos hc] at hb
      refine ⟨_, rfl, _, hd, ?_, e.mut hD, ?_⟩
      · have h1 := List.length_filter_le (fun p : Str × Str => decide (p.2 = f)) (t.take i)
        have h2 := tk.few
        rw [List.length_take] at h1
        unfold badOf
        rw [List.length_map, List.length_map]
        exact Nat.lt_of_le_of_lt (show _ ≤ 1000 by omega) (by decide)
      · rw [hb, map_snoc]
        exact upd_same
    · have hc : p.2 ≠ f := fun z => ofF cc (by rw [z])
      rw [if_neg hc, List.append_nil] at hb
      rw [hb]
      exact ⟨e, hd⟩
  · obtain ⟨e, hd⟩ := p
    rw [List.length_map, List.take_length] at hd
    exact q.of (e1.trans e) ⟨D, rfl, hd⟩
def FtIs (n0 n1 m0 m1 : Str) (rows : List Row) (ft : Tab) : Prop := ft = [(n0, m0)] ∨ ∃ m, (m = m0 ∨ m = m1) ∧ n1 ∈ wdsOf rows ∧ ft = [(n0, m0), (n1, m)]
def sp__law_faults (K : PySem.W.Frag) : Sp := fun vs H Q _ => ∃ d : Int, ∃ a b c us, ∃ rows : List Row, ∃ ns ms : List Str, ∃ n0 n1 m0 m1 : Str, vs = [.int d, .ref a, .ref b, .ref c] ∧ SqL K H a us ∧ NkA K H us (rows.map kRow) ∧ SqL K H b (ns.map V.str) ∧ SqL K H c (ms.map V.str) ∧
  ns[0]? = some n0 ∧ ns[1]? = some n1 ∧ ms[0]? = some m0 ∧ ms[1]? = some m1 ∧ n0 ≠ n1 ∧ rows.length ≤ 16 ∧ Ret H Q fun v H' => ∃ p ft, v = .ref p ∧ H' p = some (.dK (tD ft)) ∧ FtIs n0 n1 m0 m1 rows ft
theorem sc__law_faults : FnScope ["_law_digit", "_law_steps", "_law_names_here", "_law_marks", "_law_faults_here", "_law_step"] ["_law_digit", "_law_steps", "_law_names_here", "_law_marks"] d__law_faults.scope := ⟨rfl, rfl, rfl, by decide +kernel, rfl, by decide +kernel, by decide +kernel⟩
theorem ok__law_faults (T : Tp K mg) : Cal P w K mg base "_law_faults" 1 ["_law_digit", "_law_steps", "_law_names_here", "_law_marks"] (sp__law_faults K) := by
  refine ⟨_, T.glo 54, ?_⟩
  show Df P w K mg base (d__law_faults.path K) 1 ["_law_digit", "_law_steps", "_law_names_here", "_law_marks"] (sp__law_faults K)
  refine T.df 51 (d := d__law_faults) rfl rfl sc__law_faults (fun vs H Q E h => by obtain ⟨_, _, _, _, _, _, _, _, _, _, _, _, e, _⟩ := h; rw [e]; rfl) (fun _ _ _ _ _ _ us hl => match us, hl with | [_, _, _, _], _ => rfl) (fun cdv A outer s H vs Q E hr h => ?_)

  obtain ⟨d, a, b, c, us, rows, ns, ms, n0, n1, m0, m1, rfl, ha, na, hb, hc, g0, g1, k0, k1, ne, few, q⟩ := h
  refine ⟨_, PSs.nox (pss_cons (ps_set (i := 4) sc__law_faults.nd rfl (Or.inl rfl) (pe_oneK hr (pe_ix ix_list (pv 2) pe_int (fun _ _ => rfl)) (pe_ix ix_list (pv 3) pe_int (fun _ _ => rfl))))
      (pss_cons (ps_if (PW.pt (pw_and (pt_cmpR op_gt (pe_op op_mod (pe_callTy call_int1 rfl (T.free 83) boot_int (pa_cons (pv 0) pa_nil)) pe_int) pe_int (nomark _)) (pw_and1 (pt_cmpR (op_inK hr) (pe_ix ix_list (pv 2) pe_int (fun _ _ => rfl)) (pe_lc (own := [("_law_step", 5)]) rfl sc__law_faults.nd (pi_list (pv 1)) (blkOk_by (N := ["_law_digit", "_law_steps", "_law_names_here", "_law_marks", "_law_faults_here", "_law_step"]) (sc := d__law_faults.scope) (by decide +kernel)) (fun _ _ _ _ _ => (pg_name (i := 5) sc__law_faults.nd rfl (Or.inl rfl))) (fun _ _ _ _ _ => pts_nil) (fun _ _ _ _ _ => (pe_ix (ix_tupB K rfl) (pv 5) pe_int (fun _ _ => rfl)))) (by with_unfolding_all rfl)))))
      (pss_one (ps_dput (hu_of hr) (pv 4) (pe_ix ix_list (pv 2) pe_int (fun _ _ => rfl)) (pe_ix ix_list (pv 3) (pe_op op_sub (pe_op op_mod (pe_callTy call_int1 rfl (T.free 83) boot_int (pa_cons (pv 0) pa_nil)) pe_int) pe_int) (fun _ _ => rfl)) rfl)) pss_nil)
      (pss_one (ps_ret (pv 4))))), ?_⟩
  have at_ : ∀ {xs : List Str} {j : Nat} {x : Str}, xs[j]? = some x → atI (xs.map V.str) ((j : Nat) : Int) = some (.str x) := fun h => atI_nat (by rw [List.getElem?_map, h]; rfl)
  refine fun D hD => ?_
  have e0 := Ex.new (o := .dK []) hD
  refine ⟨_, rfl, _, _, _, .str n0, rfl, rfl, e0.sqL hb, at_ (j := 0) g0, _, rfl, _, _, _, .str m0, rfl, rfl, e0.sqL hc, at_ (j := 0) k0, ?_⟩
  refine ⟨upd_same, [(.inr n0, .str m0)], rfl, by show 1 ≤ 15; decide, ?_⟩
  have e1 : Ex H (upd (upd H D (.dK [])) D (.dK (mergeK [] [(.inr n0, .str m0)]))) := e0.mut hD
  have hD1 : (upd (upd H D (.dK [])) D (.dK (mergeK [] [(.inr n0, .str m0)]))) D = some (.dK (tD [(n0, m0)])) := upd_same
  generalize upd (upd H D (.dK [])) D (.dK (mergeK [] [(.inr n0, .str m0)])) = H1 at e1 hD1 ⊢
  have b1 := Int.emod_nonneg d (show (3 : Int) ≠ 0 by decide)
  have b2 := Int.emod_lt_of_pos d (show (0 : Int) < 3 by decide)
  refine ⟨_, rfl, .inl ⟨_, rfl, _, _, rfl, rfl, by show (0 : Int) < 3; decide, _, _, rfl, rfl, _, rfl, itE (fun cc => ?_) fun cc => ?_⟩⟩
  · have pos : 0 < d % 3 := ofT cc
    refine ⟨_, rfl, _, _, _, .str n1, rfl, rfl, e1.sqL hb, at_ (j := 1) g1, ?_⟩
    refine ⟨_, rfl, a, rfl, ⟨_, e1.sqL ha⟩, fun D2 hD2 => ?_⟩
    have hlen := na.length
    rw [List.length_map] at hlen
    refine lc_it (walk_list (xs := us)) (fun i H2 => Ex H1 H2 ∧ H2 D2 = some (.lst ((wdsOf (rows.take i)).map V.str))) ⟨Ex.new hD2, upd_same⟩ (fun i H2 _ p => (e1.trans p.1).sqL ha) (fun i x H2 H3 hi p y => ?_) (fun H2 p => ?_)
    · obtain ⟨e, hd⟩ := p
      obtain ⟨rfl, hx⟩ := y
      obtain ⟨k, hk, nk⟩ := NkA.get na hx
      rw [List.getElem?_map] at hk
      obtain ⟨r, hr, rfl⟩ := Option.map_eq_some_iff.mp hk
      obtain ⟨ra, rfl, hra⟩ := Nk.row nk
      refine ⟨rfl, ?_⟩
      refine ⟨_, rfl, _, _, _, _, rfl, rfl, (e1.trans e).sqT hra, rfl, _, hd, ?_, e.mut hD2, ?_⟩
      · unfold wdsOf
        rw [List.length_map, List.length_map, List.length_take]
        exact Nat.lt_of_le_of_lt (show _ ≤ 1000 by omega) (by decide)
      · rw [take_next hr]
        unfold wdsOf
        rw [map_snoc, map_snoc]
        exact upd_same
    obtain ⟨e, hd⟩ := p
    rw [hlen, List.take_length] at hd
    have hDx := e _ _ hD1
    have e2 := e1.trans e
    refine ⟨D2, .text n1, (wdsOf rows).map .text, rfl, .text _, SqK.l (SqL.of hd) (NkA.strs _), Nat.zero_le _, _, rfl, itE (fun c2 => ?_) fun c2 => ?_⟩
    · have hm : n1 ∈ wdsOf rows := (mem_map_inj text_inj).mp (ofT c2)
      obtain ⟨m, hms, hor⟩ : ∃ m, atI (ms.map V.str) (d % 3 - 1) = some (.str m) ∧ (m = m0 ∨ m = m1) := by
        rcases (show d % 3 = 1 ∨ d % 3 = 2 by omega) with z | z
        · exact ⟨m0, by rw [z]; exact at_ (j := 0) k0, .inl rfl⟩
        · exact ⟨m1, by rw [z]; exact at_ (j := 1) k1, .inr rfl⟩
      refine ⟨_, rfl, _, rfl, .inl ⟨_, rfl, _, _, rfl, rfl, by show (0 : Int) < 3; decide, _, _, rfl, rfl, _, _, _, .str m, rfl, rfl, e2.sqL hc, hms, ?_⟩⟩
      refine ⟨_, rfl, _, rfl, _, _, _, .str n1, rfl, rfl, e2.sqL hb, at_ (j := 1) g1, D, _, rfl, DPut.k (k := .inr n1) hDx (by show 1 < sizeLine; decide), ?_⟩
      refine ⟨_, rfl, q.of (e2.mut hD) ⟨D, [(n0, m0), (n1, m)], rfl, ?_, .inr ⟨m, hor, hm, rfl⟩⟩⟩
      rw [tD_put (t := [(n0, m0)]) m (by rw [lk_cons, if_neg (show ¬ (n0, m0).1 = n1 from ne)]; rfl)]
      exact upd_same
    · exact ⟨_, rfl, q.of e2 ⟨D, _, rfl, hDx, .inl rfl⟩⟩
  · exact ⟨_, rfl, q.of e1 ⟨D, _, rfl, hD1, .inl rfl⟩⟩
end
end K25
set_option pp.maxSteps 1500
set_option pp.deepTerms false
/-! the law's sights, its system -/
namespace K25
open PySem PySem.Spec PyProof.Rows L2
structure TabIn (ns ms ks : List Str) (t : Tab) : Prop where
  key : ∀ p ∈ t, p.1 ∈ ks
  val : ∀ p ∈ t, p.2 ∈ ns ∨ p.2 ∈ ms
  nd : (t.map (·.1)).Nodup
  len : t.length ≤ ks.length
theorem TabIn.snoc {ns ms ks : List Str} {t : Tab} (h : TabIn ns ms ks t) {x y : Str} (hx : x ∉ ks) (hy : y ∈ ns ∨ y ∈ ms) : TabIn ns ms (ks ++ [x]) (t ++ [(x, y)]) where
  key := fun p hp => (List.mem_append.mp hp).elim (fun q => List.mem_append_left _ (h.key p q)) fun q => by rw [List.mem_singleton.mp q]; exact List.mem_append_right _ (List.mem_singleton.mpr rfl)
  val := fun p hp => (List.mem_append.mp hp).elim (h.val p) fun q => by rw [List.mem_singleton.mp q]; exact hy
  nd := by
    rw [List.map_append, List.nodup_append]
    refine ⟨h.nd, by simp, fun a ha b hb e => ?_⟩
    obtain ⟨p, hp, rfl⟩ := List.mem_map.mp ha
    simp only [List.map_cons, List.map_nil, List.mem_singleton] at hb
    exact hx (by rw [← hb, ← e]; exact h.key p hp)
  len := by rw [List.length_append, List.length_append]; have := h.len; simp; omega
theorem TabIn.more {ns ms ks : List Str} {t : Tab} (h : TabIn ns ms ks t) (x : Str) : TabIn ns ms (ks ++ [x]) t :=
  ⟨fun p hp => List.mem_append_left _ (h.key p hp), h.val, h.nd, by rw [List.length_append]; have := h.len; omega⟩
theorem TabIn.none {ns ms ks : List Str} {t : Tab} (h : TabIn ns ms ks t) {x : Str} (hx : x ∉ ks) : lk t x = none := by
  rw [lk_none]
  intro hm
  obtain ⟨p, hp, e⟩ := List.mem_map.mp hm
  exact hx (by rw [← e]; exact h.key p hp)
theorem not_take {xs : List Str} (nd : xs.Nodup) {i : Nat} {x : Str} (hx : xs[i]? = some x) : x ∉ xs.take i := fun hm => by
  obtain ⟨j, hj, e⟩ := List.getElem_of_mem hm
  rw [List.length_take] at hj
  rw [List.getElem_take] at e
  obtain ⟨hi2, e2⟩ := List.getElem?_eq_some_iff.mp hx
  have := (List.getElem_inj nd).mp (e.trans e2.symm)
  omega
def sgSizes : List Int := [12] ++ (List.replicate 3 [4]).flatten
section
variable {P : Program} {w : World} {K : PySem.W.Frag} {mg : Str → Option Value} {base : Heap}
def sp__law_sights (K : PySem.W.Frag) : Sp := fun vs H Q _ => ∃ c : Int, ∃ a b, ∃ ns ms : List Str, vs = [.int c, .ref a, .ref b] ∧ SqL K H a (ns.map V.str) ∧ SqL K H b (ms.map V.str) ∧ ns.length = 4 ∧ ms.length = 2 ∧ ns.Nodup ∧ Ret H Q fun v H' => ∃ p tab, v = .ref p ∧ H' p = some (.dK (tD tab)) ∧ TabIn ns ms ns tab
theorem sc__law_sights : FnScope ["_law_cell_here", "_law_names_here", "_law_marks", "_law_wide", "_law_row_here", "_law_table", "_law_k"] ["_law_cell_here", "_law_names_here", "_law_marks"] d__law_sights.scope := ⟨rfl, rfl, rfl, by decide +kernel, rfl, by decide +kernel, by decide +kernel⟩
theorem ok__law_sights (T : Tp K mg) : Cal P w K mg base "_law_sights" 3 ["_law_cell_here", "_law_names_here", "_law_marks"] (sp__law_sights K) := by
  refine ⟨_, T.glo 55, ?_⟩
  show Df P w K mg base (d__law_sights.path K) 3 ["_law_cell_here", "_law_names_here", "_law_marks"] (sp__law_sights K)
  refine T.df 52 (d := d__law_sights) rfl rfl sc__law_sights (fun vs H Q E h => by obtain ⟨_, _, _, _, _, e, _⟩ := h; rw [e]; rfl) (fun _ _ _ _ _ _ us hl => match us, hl with | [_, _, _], _ => rfl) (fun cdv A outer s H vs Q E hr h => ?_)

  obtain ⟨c, a, b, ns, ms, rfl, ha, hb, lns, lms, nd, q⟩ := h
  refine ⟨_, PSs.nox (pss_cons (ps_set (i := 3) sc__law_sights.nd rfl (Or.inl rfl) (pe_op op_add (pe_callB call_len_seq rfl (T.free 74) boot_len (pa_cons (pv 2) pa_nil)) pe_int))
      (pss_cons (ps_set (i := 4) sc__law_sights.nd rfl (Or.inl rfl) (pe_cal (ok__law_row T) hr (by decide) rfl (pa_cons (pv 0) (pa_cons (pe_op op_cat (pe_lst (pa_cons (pe_op op_mulR pe_int (pv 3)) pa_nil)) (pe_op op_rep (pe_lst (pa_cons (pv 3) pa_nil)) (pe_op op_sub (pe_callB call_len_seq rfl (T.free 74) boot_len (pa_cons (pv 1) pa_nil)) pe_int))) pa_nil))))
      (pss_cons (ps_set (i := 5) sc__law_sights.nd rfl (Or.inl rfl) pe_dnewK)
      (pss_cons (ps_for PassesOwn.never rfl (pi_range1 rfl (T.free 81) (pa_cons (pe_callB call_len_seq rfl (T.free 74) boot_len (pa_cons (pv 1) pa_nil)) pa_nil)) (pg_name (i := 6) sc__law_sights.nd rfl (Or.inl rfl))
      (pss_one (ps_if (pt_cmpR op_eq (pe_ix ix_list (pv 4) (pv 6) (fun _ _ => rfl)) pe_int (nomark _))
      (pss_one (ps_dput (hu_of hr) (pv 5) (pe_ix ix_list (pv 1) (pv 6) (fun _ _ => rfl)) (pe_ix ix_list (pv 1) (pv 6) (fun _ _ => rfl)) rfl)) (pss_one (ps_if (pt_chain op_le op_lt pe_int (pe_ix ix_list (pv 4) (pv 6) (fun _ _ => rfl)) (pv 3))
      (pss_one (ps_dput (hu_of hr) (pv 5) (pe_ix ix_list (pv 1) (pv 6) (fun _ _ => rfl)) (pe_ix ix_list (pv 2) (pe_op op_sub (pe_ix ix_list (pv 4) (pv 6) (fun _ _ => rfl)) pe_int) (fun _ _ => rfl)) rfl)) pss_nil)))))
      (pss_one (ps_ret (pv 5))))))), ?_⟩
  have okL : ∀ {i j : Int}, -(2 ^ 64) < i → i < 2 ^ 64 → IntMulOk i j := fun h1 h2 => (show CMul _ _ from .inl ⟨h1, h2⟩).ok
  have lnv : (ns.map V.str).length = 4 := by rw [List.length_map]; exact lns
  have lmv : (ms.map V.str).length = 2 := by rw [List.length_map]; exact lms
  refine ⟨_, rfl, b, _, rfl, .inl hb, _, _, rfl, rfl, ?_⟩
  rw [lmv]
  refine ⟨_, rfl, _, rfl, _, _, rfl, rfl, okL (by decide) (by decide), by show 1 ≤ sizeLine; decide, fun a1 h1 => ?_⟩
  refine ⟨_, rfl, by show 1 ≤ sizeLine; decide, fun a2 h2 => ?_⟩
  have x2 := (Ex.new (o := .lst [.int 12]) h1).to (o := .lst [.int 4]) h2
  refine ⟨_, rfl, a, _, rfl, .inl (x2.sqL ha), _, _, rfl, rfl, ?_⟩
  rw [lnv]
  refine ⟨a2, 3, _, rfl, rfl, upd_same, by decide, by decide, by show 1 * 3 ≤ sizeLine; decide, fun a3 h3 => ?_⟩
  have x3 := x2.to (o := .lst (List.replicate 3 [V.int 4]).flatten) h3
  refine ⟨a1, a3, _, _, rfl, rfl, (Ex.new h3) _ _ ((Ex.new h2) _ _ upd_same), upd_same, by show 1 + 3 ≤ sizeLine; decide, fun a4 h4 => ?_⟩
  have x4 := x3.to (o := .lst (sgSizes.map V.int)) h4
  refine ⟨c, a4, sgSizes, rfl, SqL.of upd_same, by decide +kernel, by decide +kernel, fun v8 H8 e8 ⟨R, rs, ev, hR, lR, hbd⟩ => ?_⟩
  subst ev
  have lR2 : rs.length = 4 := lR
  have x8 := x4.trans e8
  refine fun D hD => ?_
  have e1 := x8.to (o := .dK []) hD
  have hD0 := x8.free hD
  have nRD : R ≠ D := ne_of_none hR hD
  refine ⟨_, rfl, a, _, rfl, .inl (e1.sqL ha), ?_⟩
  rw [lnv]
  refine ⟨_, rfl, by decide, by decide, ?_⟩
  refine for_it (walk_range (lo := 0) (n := 4)) (fun i σ H3 => ∃ v6, ∃ tab : Tab, σ = [some (.int c), some (.ref a), some (.ref b), some (.int 4), some (.ref R), some (.ref D), v6] ∧ Ex H H3 ∧ H3 R = some (.lst (rs.map V.int)) ∧ H3 D = some (.dK (tD tab)) ∧ TabIn ns ms (ns.take i) tab)
    ⟨_, [], rfl, e1, (upd_ne nRD).trans hR, upd_same, ⟨fun p h => (nomatch h), fun p h => (nomatch h), List.nodup_nil, Nat.zero_le _⟩⟩ (fun _ _ _ _ _ => True.intro) (fun i x σ H3 H4 hi p y => ?_) (fun σ H3 p => ?_)
  · obtain ⟨v6, tab, rfl, e3, hR3, hD3, ti⟩ := p
    obtain ⟨rfl, rfl⟩ := y
    have hsz : ∀ i : Nat, i < 4 → ∃ s, sgSizes[i]? = some s := fun i hi => ⟨sgSizes[i]'(show i < 4 from hi), List.getElem?_eq_getElem _⟩
    obtain ⟨s, hs⟩ := hsz i hi
    obtain ⟨r, atr, r0, r1⟩ := row_at lR hbd hs (j := 0 + (i : Int)) (by omega)
    obtain ⟨n, hn, hng, atn⟩ := at_in (xs := ns) V.str (j := 0 + (i : Int)) (by omega) (by omega)
    have hng : ns[i]? = some n := by rw [← hng]; congr 1; omega
    have hnot := not_take nd hng
    have tl : tab.length < sizeLine := by
      have h1 := ti.len
      rw [List.length_take] at h1
      exact Nat.lt_of_le_of_lt (show _ ≤ 1000 by omega) (by decide)
    have et : ns.take (i + 1) = ns.take i ++ [n] := take_next hng
    have put : ∀ y : Str, putK (tD tab) (.inr n) (.str y) = tD (tab ++ [(n, y)]) := fun y => tD_put y (ti.none hnot)
    refine ⟨_, rfl, _, rfl, _, _, _, .int r, rfl, rfl, SqL.of hR3, atr, rfl, _, rfl, itE (fun cc => ?_) fun cc => ?_⟩
    · refine ⟨_, rfl, _, rfl, _, _, _, .str n, rfl, rfl, e3.sqL ha, atn, _, rfl, _, rfl, _, rfl, _, _, _, .str n, rfl, rfl, e3.sqL ha, atn, D, _, rfl, DPut.k (k := .inr n) hD3 (by rw [tD_len]; exact tl), ?_⟩
      rw [put]
      refine ⟨_, _, rfl, e3.mut hD0, (upd_ne nRD).trans hR3, upd_same, ?_⟩
      rw [et]
      exact ti.snoc hnot (.inl hn)
    · have skip : ∃ v6, ∃ tab' : Tab, [some (V.int c), some (.ref a), some (.ref b), some (.int 4), some (.ref R), some (.ref D), some (.int (0 + (i : Int)))] = [some (V.int c), some (.ref a), some (.ref b), some (.int 4), some (.ref R), some (.ref D), v6] ∧ Ex H H4 ∧ H4 R = some (.lst (rs.map V.int)) ∧ H4 D = some (.dK (tD tab')) ∧ TabIn ns ms (ns.take (i + 1)) tab' := ⟨_, tab, rfl, e3, hR3, hD3, by rw [et]; exact ti.more n⟩
      refine ⟨_, rfl, _, rfl, _, _, _, .int r, rfl, rfl, SqL.of hR3, atr, _, _, rfl, rfl, _, rfl, itE (fun c2 => ?_) fun c2 => ?_⟩
      · refine ⟨_, rfl, _, _, rfl, rfl, _, rfl, itE (fun c3 => ?_) fun c3 => ?_⟩
        · have h2 : (2 : Int) ≤ r := ofT c2
          have h3 : r < 4 := ofT c3
          obtain ⟨m, hm, _, atm⟩ := at_in (xs := ms) V.str (j := r - 2) (by omega) (by omega)
          refine ⟨_, rfl, _, rfl, _, rfl, _, _, _, .int r, rfl, rfl, SqL.of hR3, atr, _, _, rfl, rfl, _, _, _, .str m, rfl, rfl, e3.sqL hb, atm, _, rfl, _, rfl, _, rfl, _, _, _, .str n, rfl, rfl, e3.sqL ha, atn, D, _, rfl, DPut.k (k := .inr n) hD3 (by rw [tD_len]; exact tl), ?_⟩
          rw [put]
          refine ⟨_, _, rfl, e3.mut hD0, (upd_ne nRD).trans hR3, upd_same, ?_⟩
          rw [et]
          exact ti.snoc hnot (.inr hm)
        · exact skip
      · exact ⟨_, rfl, iteF skip⟩
  · obtain ⟨v6, tab, rfl, e3, hR3, hD3, ti⟩ := p
    rw [← lns, List.take_length] at ti
    exact ⟨_, rfl, q.of e3 ⟨D, tab, rfl, hD3, ti⟩⟩
end
end K25
set_option pp.maxSteps 1500
set_option pp.deepTerms false
/-! the law's system -/
namespace K25
open PySem PySem.Spec PyProof.Rows L2
theorem NamP.ne {c0 j k : Nat} {x y : Str} (hx : NamP c0 j x) (hy : NamP c0 k y) (hj : j < 6) (hk : k < 6) (n : j ≠ k) : x ≠ y := fun e => by
  subst e
  have h := hx.2.symm.trans hy.2
  simp only [List.cons.injEq, and_true] at h
  omega
theorem NamP.zz {c0 k : Nat} {x : Str} (hx : NamP c0 k x) : x ≠ "zzz" := fun e => by
  subst e
  have h := hx.2
  have z : (("zzz" : Str)).cps.toList.filter (fun c => decide (110 ≤ c)) = [122, 122, 122] := by decide +kernel
  rw [z] at h
  have h2 := congrArg List.length h
  simp at h2
structure Sys (st : Int) (rows : List Row) (ft : Tab) (L : List Int) (ns ms : List Str) : Prop where
  sy : SyIn st rows ft L
  lns : ns.length = 4
  lms : ms.length = 2
  nmn : ∀ x ∈ ns, NmOk x
  nmm : ∀ x ∈ ms, NmOk x
  ndn : ns.Nodup
  zz : ∀ x ∈ ns, x ≠ "zzz"
  lnd : L.Nodup
  l5 : L.length ≤ 5
  rl : ∀ r ∈ rows, r.1 ∈ L ∧ r.2.2 ∈ L
  ftne : ft ≠ []
  ft2 : ft.length ≤ 2
theorem sys_of {c0 : Nat} {N : List Str} {L : List Int} {rows : List Row} {ft : Tab} {st : Int} {n0 n1 m0 m1 : Str} (lN : N.length = 6) (hN : ∀ k n, N[k]? = some n → NamP c0 k n) (mid : MidOk (N.take 4) L 5 rows) (Lnd : L.Nodup) (L5 : L.length ≤ 5) (Lrg : ∀ l ∈ L, 0 ≤ l ∧ l ≤ 99) (hr0 : ∃ r ∈ rows, (N.take 4)[0]? = some r.2.1)
    (g0 : N[0]? = some n0) (g1 : N[1]? = some n1) (k0 : (N.drop 4)[0]? = some m0) (k1 : (N.drop 4)[1]? = some m1) (hf : FtIs n0 n1 m0 m1 rows ft) (hst : st ∈ L) : Sys st rows ft L (N.take 4) (N.drop 4) := by
  have ok : ∀ x ∈ N, NmOk x ∧ x ≠ "zzz" := fun x hx => by
    obtain ⟨k, hk, e⟩ := List.getElem_of_mem hx
    have h := hN k x (by rw [List.getElem?_eq_getElem hk, e])
    exact ⟨h.1, h.zz⟩
  have nd : N.Nodup := by
    rw [List.Nodup, List.pairwise_iff_getElem]
    intro i j hi hj hij
    exact NamP.ne (hN i _ (List.getElem?_eq_getElem hi)) (hN j _ (List.getElem?_eq_getElem hj)) (by omega) (by omega) (Nat.ne_of_lt hij)
  have ne01 : n0 ≠ n1 := NamP.ne (hN 0 _ g0) (hN 1 _ g1) (by decide) (by decide) (by decide)
  have t4 : ∀ {k : Nat} {x : Str}, k < 4 → N[k]? = some x → x ∈ N.take 4 := fun {k x} hk h => by
    have h2 : (N.take 4)[k]? = some x := by rw [List.getElem?_take, if_pos hk]; exact h
    exact List.mem_of_getElem? h2
  have d4 : ∀ {k : Nat} {x : Str}, (N.drop 4)[k]? = some x → x ∈ N := fun {k x} h => List.mem_of_mem_drop (List.mem_of_getElem? h)
  have hw0 : n0 ∈ wdsOf rows := by
    obtain ⟨r, hr, e⟩ := hr0
    rw [List.getElem?_take, if_pos (by decide), g0] at e
    exact List.mem_map.mpr ⟨r, hr, (Option.some.inj e).symm⟩
  have sub : ∀ x ∈ wdsOf rows, x ∈ N.take 4 := fun x hx => by
    obtain ⟨r, hr, rfl⟩ := List.mem_map.mp hx
    exact (mid.lab r hr).2.1
  have mlen := mid.len
  have o0 := ok n0 (List.mem_of_getElem? g0)
  have o1 := ok n1 (List.mem_of_getElem? g1)
  have p0 := ok m0 (d4 k0)
  have p1 := ok m1 (d4 k1)
  have ftok : TbOk ft ∧ ft.length ≤ 2 ∧ ft ≠ [] ∧ ∀ p ∈ ft, p.1 ∈ wdsOf rows := by
    rcases hf with rfl | ⟨m, hm, hm1, rfl⟩
    · refine ⟨⟨by simp, by show 1 ≤ 50; decide, fun p hp => ?_⟩, by show 1 ≤ 2; decide, by simp, fun p hp => ?_⟩
      · rw [List.mem_singleton.mp hp]; exact ⟨o0.1, p0.1⟩
      · rw [List.mem_singleton.mp hp]; exact hw0
    · have om : NmOk m := by rcases hm with rfl | rfl; exact p0.1; exact p1.1
      refine ⟨⟨by simp [ne01], by show 2 ≤ 50; decide, fun p hp => ?_⟩, by show 2 ≤ 2; decide, by simp, fun p hp => ?_⟩
      · simp only [List.mem_cons, List.not_mem_nil, or_false] at hp
        rcases hp with rfl | rfl
        · exact ⟨o0.1, p0.1⟩
        · exact ⟨o1.1, om⟩
      · simp only [List.mem_cons, List.not_mem_nil, or_false] at hp
        rcases hp with rfl | rfl
        · exact hw0
        · exact hm1
  obtain ⟨f1, f2, f3, f4⟩ := ftok
  refine ⟨⟨mid.nd, mid.pos, by omega, fun r hr => ?_, fun s => Nat.le_trans (mid.cn s) (by decide), by omega, hst, Lrg st hst, fun r hr _ => (mid.lab r hr).2.2, mid.live, f1, by omega, f4, ?_⟩, ?_, ?_, fun x hx => (ok x (List.mem_of_mem_take hx)).1, fun x hx => (ok x (List.mem_of_mem_drop hx)).1, ?_, fun x hx => (ok x (List.mem_of_mem_take hx)).2, Lnd, L5, fun r hr => ⟨(mid.lab r hr).1, (mid.lab r hr).2.2⟩, f3, f2⟩
  · obtain ⟨h1, h2, h3⟩ := mid.lab r hr
    exact ⟨Lrg _ h1, (ok _ (List.mem_of_mem_take h2)).1, (Lrg _ h3).1, (Lrg _ h3).2⟩
  · have h := nodup_subP text_inj (insAll_nodup (xs := wdsOf rows) List.nodup_nil) (fun x hx => sub x ((insAll_mem.mp hx).elim (fun z => nomatch z) id))
    rw [List.length_take] at h
    omega
  · rw [List.length_take]; omega
  · rw [List.length_drop]; omega
  · exact nd.sublist (List.take_sublist 4 N)
theorem cutV_to {α : Type} (f : α → V) {xs : List α} {n : Nat} (h : n ≤ xs.length) {hi : Int} (e : hi = ((n : Nat) : Int)) : cutV (xs.map f) none (some hi) = (xs.take n).map f := by
  subst e
  unfold cutV
  rw [HT.sIx_nat, HT.sIx_none, List.length_map, Nat.min_eq_left h, List.map_take]
  rfl
theorem cutV_from {α : Type} (f : α → V) {xs : List α} {n : Nat} (h : n ≤ xs.length) {lo : Int} (e : lo = ((n : Nat) : Int)) : cutV (xs.map f) (some lo) none = (xs.drop n).map f := by
  subst e
  unfold cutV
  rw [HT.sIx_nat, HT.sIx_none, List.length_map, Nat.min_eq_left h, List.map_drop]
  exact List.take_of_length_le (by rw [List.length_drop, List.length_map]; exact Nat.le_refl _)
section
variable {P : Program} {w : World} {K : PySem.W.Frag} {mg : Str → Option Value} {base : Heap}
def sp__law_system (K : PySem.W.Frag) : Sp := fun vs H Q _ => ∃ a, ∃ sc : List Int, vs = [.ref a, .int 5, .int 4, .int 4] ∧ SqL K H a (sc.map V.int) ∧ Ret H Q fun v H' => ∃ r sl us fp nl ml, ∃ st : Int, ∃ rows ft L ns ms, v = .ref r ∧ H' r = some (.lst [.int st, .ref sl, .ref fp, .ref nl, .ref ml]) ∧
  H' sl = some (.lst us) ∧ NkA K H' us (rows.map kRow) ∧ H' fp = some (.dK (tD ft)) ∧ H' nl = some (.lst (ns.map V.str)) ∧ H' ml = some (.lst (ms.map V.str)) ∧ Sys st rows ft L ns ms
theorem sc__law_system : FnScope ["_law_script", "_law_most", "_law_extra", "_law_many", "_law_names_here", "_law_digit", "_law_table", "_law_labels", "_law_steps"] ["_law_script", "_law_most", "_law_extra", "_law_many"] d__law_system.scope := ⟨rfl, rfl, rfl, by decide +kernel, rfl, by decide +kernel, by decide +kernel⟩
theorem ok__law_system (T : Tp K mg) : Cal P w K mg base "_law_system" 4 ["_law_script", "_law_most", "_law_extra", "_law_many"] (sp__law_system K) := by
  refine ⟨_, T.glo 62, ?_⟩
  show Df P w K mg base (d__law_system.path K) 4 ["_law_script", "_law_most", "_law_extra", "_law_many"] (sp__law_system K)
  refine T.df 59 (d := d__law_system) rfl rfl sc__law_system (fun vs H Q E h => by obtain ⟨_, _, e, _⟩ := h; rw [e]; rfl) (fun _ _ _ _ _ _ us hl => match us, hl with | [_, _, _, _], _ => rfl) (fun cdv A outer s H vs Q E hr h => ?_)

  obtain ⟨a, sc, rfl, ha, q⟩ := h
  refine ⟨_, PSs.nox (pss_cons (ps_set (i := 4) sc__law_system.nd rfl (Or.inl rfl) (pe_cal (ok__law_names T) hr (by decide) rfl (pa_cons (pe_cal (ok__law_cell T) hr (by decide) rfl (pa_cons (pv 0) (pa_cons pe_int pa_nil))) (pa_cons (pe_op op_add (pv 3) pe_int) pa_nil))))
      (pss_cons (ps_asg (pe_cal (ok__law_machine T) hr (by decide) rfl (pa_cons (pe_cal (ok__law_cell T) hr (by decide) rfl (pa_cons (pv 0) (pa_cons pe_int pa_nil))) (pa_cons (pe_slice sl_list (pv 4) po_none (po_some (pv 3))) (pa_cons (pv 1) (pa_cons (pv 2) pa_nil))))) (pg_unl rfl (pgs_cons (pg_name (i := 7) sc__law_system.nd rfl (Or.inl rfl)) (pgs_cons (pg_name (i := 8) sc__law_system.nd rfl (Or.inl rfl)) pgs_nil))))
      (pss_cons (ps_set (i := 5) sc__law_system.nd rfl (Or.inl rfl) (pe_ix ix_list (pe_cal (ok__law_row T) hr (by decide) rfl (pa_cons (pe_cal (ok__law_cell T) hr (by decide) rfl (pa_cons (pv 0) (pa_cons pe_int pa_nil))) (pa_cons (pe_lst (pa_cons pe_int (pa_cons pe_int pa_nil))) pa_nil))) pe_int (fun _ _ => rfl)))
      (pss_cons (ps_set (i := 6) sc__law_system.nd rfl (Or.inl rfl) (pe_cal (ok__law_faults T) hr (by decide) rfl (pa_cons (pv 5) (pa_cons (pv 8) (pa_cons (pv 4) (pa_cons (pe_slice sl_list (pv 4) (po_some (pv 3)) po_none) pa_nil))))))
      (pss_one (ps_ret (pe_lst (pa_cons (pe_ix ix_list (pv 7) pe_int (fun _ _ => rfl)) (pa_cons (pv 8) (pa_cons (pv 6) (pa_cons (pe_slice sl_list (pv 4) po_none (po_some (pv 3))) (pa_cons (pe_slice sl_list (pv 4) (po_some (pv 3)) po_none) pa_nil)))))))))))), ?_⟩
  refine ⟨_, rfl, a, sc, 0, rfl, ha, fun v1 H1 e1 ⟨c1, ev⟩ => ?_⟩
  subst ev
  refine ⟨_, rfl, _, _, rfl, rfl, c1, rfl, fun v2 H2 e2 ⟨NL, N, c0, ev, hN, lN, nmN⟩ => ?_⟩
  subst ev
  have e12 := e1.trans e2
  refine ⟨_, rfl, a, sc, 1, rfl, e12.sqL ha, fun v3 H3 e3 ⟨c3, ev⟩ => ?_⟩
  subst ev
  have e13 := e12.trans e3
  have hN3 := e3 _ _ hN
  refine ⟨_, rfl, _, rfl, _, rfl, NL, _, rfl, SqL.of hN3, fun n4 hn4 => ?_⟩
  have c4 : cutV (N.map V.str) none (some 4) = (N.take 4).map V.str := cutV_to V.str (by omega) rfl
  have x4 := Ex.new (o := .lst (cutV (N.map V.str) none (some 4))) hn4
  refine ⟨_, rfl, _, rfl, c3, n4, N.take 4, rfl, by rw [← c4]; exact SqL.of upd_same, by rw [List.length_take]; omega, fun v5 H5 e5 ⟨r5, la, sa, us, L, rows, ev, hr5, hL, hS, nS, mid, Lnd, Lp, L5, Lrg, hr0⟩ => ?_⟩
  subst ev
  have e15 := (e13.trans x4).trans e5
  refine ⟨r5, _, rfl, SqL.of hr5, rfl, _, _, rfl, _, _, rfl, rfl, ?_⟩
  refine ⟨_, rfl, a, sc, 2, rfl, e15.sqL ha, fun v6 H6 e6 ⟨c6, ev⟩ => ?_⟩
  subst ev
  refine ⟨by show 2 ≤ sizeLine; decide, fun a7 h7 => ?_⟩
  have x7 := Ex.new (o := .lst ([3, 5].map V.int)) h7
  refine ⟨c6, a7, [3, 5], rfl, SqL.of upd_same, by decide, by decide, fun v8 H8 e8 ⟨a8, rs, ev, h8, l8, hb⟩ => ?_⟩
  subst ev
  have e58 := (e6.trans x7).trans e8
  have e18 := e15.trans e58
  obtain ⟨d, at0, _, _⟩ := row_at l8 hb (show ([3, 5] : List Int)[0]? = some 3 from rfl) (j := 0) rfl
  refine ⟨_, _, _, .int d, rfl, rfl, SqL.of h8, at0, ?_⟩
  have hN8 := e58 _ _ (e5 _ _ (x4 _ _ hN3))
  have hL8 := e58 _ _ hL
  have hS8 := e58 _ _ hS
  have nS8 := NkA.mono e58 _ _ nS
  refine ⟨_, rfl, _, rfl, _, rfl, _, rfl, _, rfl, _, rfl, NL, _, rfl, SqL.of hN8, fun m9 hm9 => ?_⟩
  have c9 : cutV (N.map V.str) (some 4) none = (N.drop 4).map V.str := cutV_from V.str (by omega) rfl
  have x9 := Ex.new (o := .lst (cutV (N.map V.str) (some 4) none)) hm9
  have g : ∀ j : Nat, j < 6 → ∃ n, N[j]? = some n := fun j hj => ⟨N[j]'(by omega), List.getElem?_eq_getElem _⟩
  obtain ⟨n0, g0⟩ := g 0 (by decide)
  obtain ⟨n1, g1⟩ := g 1 (by decide)
  obtain ⟨m0, g4⟩ := g 4 (by decide)
  obtain ⟨m1, g5⟩ := g 5 (by decide)
  have k0 : (N.drop 4)[0]? = some m0 := by rw [List.getElem?_drop]; exact g4
  have k1 : (N.drop 4)[1]? = some m1 := by rw [List.getElem?_drop]; exact g5
  have ne01 : n0 ≠ n1 := NamP.ne (nmN 0 _ g0) (nmN 1 _ g1) (by decide) (by decide) (by decide)
  have mlen := mid.len
  refine ⟨d, sa, NL, m9, us, rows, N, N.drop 4, n0, n1, m0, m1, rfl, SqL.of (x9 _ _ hS8), NkA.mono x9 _ _ nS8, SqL.of (x9 _ _ hN8), by rw [← c9]; exact SqL.of upd_same, g0, g1, k0, k1, ne01, by omega, fun v10 H10 e10 ⟨fp, ft, ev, hfp, hft⟩ => ?_⟩
  subst ev
  have e8x := x9.trans e10
  obtain ⟨st, hst, _, atst⟩ := at_in (xs := L) V.int (j := 0) (by omega) (by omega)
  have hN10 := e8x _ _ hN8
  refine ⟨_, rfl, _, _, _, .int st, rfl, rfl, SqL.of (e8x _ _ hL8), atst, _, rfl, _, rfl, _, rfl, _, rfl, _, rfl, NL, _, rfl, SqL.of hN10, fun nl hnl => ?_⟩
  have xn := Ex.new (o := .lst (cutV (N.map V.str) none (some 4))) hnl
  refine ⟨_, rfl, _, rfl, _, rfl, NL, _, rfl, SqL.of (xn _ _ hN10), fun ml hml => ?_⟩
  have xm := Ex.new (o := .lst (cutV (N.map V.str) (some 4) none)) hml
  refine ⟨by show 5 ≤ sizeLine; decide, fun rr hrr => ?_⟩
  have xr := Ex.new (o := .lst [.int st, .ref sa, .ref fp, .ref nl, .ref ml]) hrr
  have xx := (xn.trans xm).trans xr
  refine q.of ((e18.trans e8x).trans xx) ⟨rr, sa, us, fp, nl, ml, st, rows, ft, L, N.take 4, N.drop 4, rfl, upd_same, xx _ _ (e8x _ _ hS8), NkA.mono (e8x.trans xx) _ _ nS8, xx _ _ hfp, ?_, ?_, sys_of lN nmN mid Lnd L5 Lrg hr0 g0 g1 k0 k1 hft hst⟩
  · rw [← c4]
    exact (xm.trans xr) _ _ upd_same
  · rw [← c9]
    exact xr _ _ upd_same
end
end K25
set_option pp.maxSteps 1500
set_option pp.deepTerms false
/-! the law's estimates -/
namespace K25
open PySem PySem.Spec PyProof.Rows L2
structure LawIn (K : PySem.W.Frag) (H : Hp) (sl fp wp : Addr) (rows : List Row) (t tab : Tab) : Prop where
  steps : ∃ us, SqL K H sl us ∧ NkA K H us (rows.map kRow)
  ft : H fp = some (.dK (tD t))
  sg : H wp = some (.dK (tD tab))
  few : rows.length ≤ 16
theorem LawIn.mono {K : PySem.W.Frag} {H H' : Hp} {sl fp wp : Addr} {rows : List Row} {t tab : Tab} (h : LawIn K H sl fp wp rows t tab) (e : Ex H H') : LawIn K H' sl fp wp rows t tab := by
  obtain ⟨us, h1, h2⟩ := h.steps
  exact ⟨⟨us, e.sqL h1, NkA.mono e _ _ h2⟩, e _ _ h.ft, e _ _ h.sg, h.few⟩
/-- the keys' tuples and where they stand -/
theorem NkA.ln {K : PySem.W.Frag} {H : Hp} : ∀ {L : List Pr} {vs : List V}, NkA K H vs (L.map kPr) → ∃ M : LN, vs = M.map (fun p => V.ref p.2) ∧ M.map (·.1) = L.map kPr ∧ ∀ p ∈ M, Nk K H (.ref p.2) p.1 ∧ p.1.depth ≤ 8
  | [], _, h => by cases h; exact ⟨[], rfl, rfl, fun _ h => nomatch h⟩
  | p :: L, _, h => by
    rw [List.map_cons] at h
    cases h with
    | cons h1 h2 =>
      obtain ⟨M, e1, e2, e3⟩ := NkA.ln h2
      obtain ⟨a, b, rfl, _, _⟩ := Nk.pr h1
      refine ⟨(kPr p, a) :: M, by rw [List.map_cons, e1], by rw [List.map_cons, e2, List.map_cons], fun q hq => ?_⟩
      rcases List.mem_cons.mp hq with rfl | hq
      · exact ⟨h1, kPr_depth p⟩
      · exact e3 q hq
/-- unseen ends of the first rows -/
noncomputable def unsR (ft tab : Tab) (p : Pr) (rs : List Row) : List Pr := (rs.filter fun r => decide (r.1 = p.1) && (lk tab r.2.1).isNone).map (behind ft p)
theorem unsR_y {ft tab : Tab} {p : Pr} {rs : List Row} {r : Row} (h1 : r.1 = p.1) (h2 : lk tab r.2.1 = none) : unsR ft tab p (rs ++ [r]) = unsR ft tab p rs ++ [behind ft p r] := by
  unfold unsR
  rw [List.filter_append, List.map_append]
  simp [h1, h2]
theorem unsR_n {ft tab : Tab} {p : Pr} {rs : List Row} {r : Row} (h : ¬ (r.1 = p.1 ∧ lk tab r.2.1 = none)) : unsR ft tab p (rs ++ [r]) = unsR ft tab p rs := by
  unfold unsR
  rw [List.filter_append, List.map_append]
  have e : [r].filter (fun r => decide (r.1 = p.1) && (lk tab r.2.1).isNone) = [] := by
    rw [List.filter_eq_nil_iff]
    intro x hx hc
    rw [List.mem_singleton.mp hx, Bool.and_eq_true, decide_eq_true_eq, Option.isNone_iff_eq_none] at hc
    exact h hc
  rw [e]
  simp
/-- seen ends of the first rows -/
noncomputable def sgtR (ft tab : Tab) (s : Str) (p : Pr) (rs : List Row) : List Pr := (rs.filter fun r => decide (r.1 = p.1) && decide (lk tab r.2.1 = some s)).map (behind ft p)
theorem sgtR_y {ft tab : Tab} {s : Str} {p : Pr} {rs : List Row} {r : Row} (h1 : r.1 = p.1) (h2 : lk tab r.2.1 = some s) : sgtR ft tab s p (rs ++ [r]) = sgtR ft tab s p rs ++ [behind ft p r] := by
  unfold sgtR
  rw [List.filter_append, List.map_append]
  simp [h1, h2]
theorem sgtR_n {ft tab : Tab} {s : Str} {p : Pr} {rs : List Row} {r : Row} (h : ¬ (r.1 = p.1 ∧ lk tab r.2.1 = some s)) : sgtR ft tab s p (rs ++ [r]) = sgtR ft tab s p rs := by
  unfold sgtR
  rw [List.filter_append, List.map_append]
  have e : [r].filter (fun r => decide (r.1 = p.1) && decide (lk tab r.2.1 = some s)) = [] := by
    rw [List.filter_eq_nil_iff]
    intro x hx hc
    rw [List.mem_singleton.mp hx, Bool.and_eq_true, decide_eq_true_eq, decide_eq_true_eq] at hc
    exact h hc
  rw [e]
  simp
theorem sgtR_len (ft tab : Tab) (s : Str) (p : Pr) (rs : List Row) : (sgtR ft tab s p rs).length ≤ rs.length := by
  unfold sgtR
  rw [List.length_map]
  exact List.length_filter_le _ _
noncomputable def sgtE (ft tab : Tab) (s : Str) (rows : List Row) (E : List Pr) : List Pr := E.flatMap fun p => sgtR ft tab s p rows
theorem sgtE_snoc {ft tab : Tab} {s : Str} {rows : List Row} {E : List Pr} {p : Pr} : sgtE ft tab s rows (E ++ [p]) = sgtE ft tab s rows E ++ sgtR ft tab s p rows := by
  unfold sgtE
  rw [List.flatMap_append]
  simp
theorem sgtE_len (ft tab : Tab) (s : Str) (rows : List Row) : ∀ E : List Pr, (sgtE ft tab s rows E).length ≤ rows.length * E.length
  | [] => Nat.zero_le _
  | p :: E => by
    have h1 := sgtE_len ft tab s rows E
    have h2 := sgtR_len ft tab s p rows
    have e : sgtE ft tab s rows (p :: E) = sgtR ft tab s p rows ++ sgtE ft tab s rows E := rfl
    rw [e, List.length_append, List.length_cons, Nat.mul_succ]
    omega
theorem sgtE_mem {ft tab : Tab} {s : Str} {rows : List Row} {E : List Pr} {q : Pr} : q ∈ sgtE ft tab s rows E ↔ Ends rows ft tab s E q := by
  unfold sgtE sgtR Ends
  rw [List.mem_flatMap]
  constructor
  · rintro ⟨p, hp, h⟩
    obtain ⟨r, hr, e⟩ := List.mem_map.mp h
    obtain ⟨h1, h2⟩ := List.mem_filter.mp hr
    rw [Bool.and_eq_true, decide_eq_true_eq, decide_eq_true_eq] at h2
    exact ⟨p, hp, r, h1, h2.1, h2.2, e.symm⟩
  · rintro ⟨p, hp, r, hr, h1, h2, rfl⟩
    exact ⟨p, hp, List.mem_map.mpr ⟨r, List.mem_filter.mpr ⟨hr, by rw [Bool.and_eq_true, decide_eq_true_eq, decide_eq_true_eq]; exact ⟨h1, h2⟩⟩, rfl⟩⟩
section
variable {P : Program} {w : World} {K : PySem.W.Frag} {mg : Str → Option Value} {base : Heap}
def sp__law_pair_behind (K : PySem.W.Frag) : Sp := fun vs H Q _ => ∃ v u d t p r, vs = [v, u, .ref d] ∧ Nk K H v (kPr p) ∧ Nk K H u (kRow r) ∧ H d = some (.dK (tD t)) ∧ SrtBy .text p.2 ∧ p.2.length ≤ 10 ∧ Ret H Q fun v' H' => ∃ b, v' = .ref b ∧ Nk K H' v' (kPr (behind t p r))
theorem sc__law_pair_behind : FnScope ["_law_pair", "_law_step", "_law_table", "_law_names_here"] ["_law_pair", "_law_step", "_law_table"] d__law_pair_behind.scope := ⟨rfl, rfl, rfl, by decide +kernel, rfl, by decide +kernel, by decide +kernel⟩
theorem ok__law_pair_behind (T : Tp K mg) : Cal P w K mg base "_law_pair_behind" 1 ["_law_pair", "_law_step", "_law_table"] (sp__law_pair_behind K) := by
  refine ⟨_, T.glo 64, ?_⟩
  show Df P w K mg base (d__law_pair_behind.path K) 1 ["_law_pair", "_law_step", "_law_table"] (sp__law_pair_behind K)
  refine T.df 61 (d := d__law_pair_behind) rfl rfl sc__law_pair_behind (fun vs H Q E h => by obtain ⟨_, _, _, _, _, _, e, _⟩ := h; rw [e]; rfl) (fun _ _ _ _ _ _ us hl => match us, hl with | [_, _, _], _ => rfl) (fun cdv A outer s H vs Q E hr h => ?_)

  obtain ⟨v, u, d, t, p, r, rfl, hv, hu, hd, ps, pl, q⟩ := h
  refine ⟨_, PSs.nox (pss_cons (ps_set (i := 3) sc__law_pair_behind.nd rfl (Or.inl rfl) (pe_callTy (call_list_of) rfl (T.free 77) boot_list (pa_cons (pe_ix ix_tup (pv 0) pe_int (fun _ _ => rfl)) pa_nil)))
      (pss_cons (ps_if (PW.pt (pw_and (pt_cmp (pc_din (hu_of hr) (pe_ix ix_tup (pv 1) pe_int (fun _ _ => rfl)) (pv 2))) (pw_and1 (pt_cmpR (op_notInK hr) (pe_dget (by exact hu_of hr) (pv 2) (pe_ix ix_tup (pv 1) pe_int (fun _ _ => rfl)) (fun _ _ => rfl)) (pv 3) (by with_unfolding_all rfl)))))
      (pss_one (ps_expr (pe_bm PySem.F.plainAttrs_list PySem.F.slot_list_append PySem.F.type_list_append mt_append (pv 3) (pa_cons (pe_dget (by exact hu_of hr) (pv 2) (pe_ix ix_tup (pv 1) pe_int (fun _ _ => rfl)) (fun _ _ => rfl)) pa_nil)))) pss_nil)
      (pss_one (ps_ret (pe_tup (pa_cons (pe_ix ix_tup (pv 1) pe_int (fun _ _ => rfl)) (pa_cons (pe_callTy call_tuple_of rfl (T.free 80) boot_tuple (pa_cons (pe_callB (call_sortedK rfl hr) rfl (T.free 76) boot_sorted (pa_cons (pv 3) pa_nil)) pa_nil)) pa_nil))))))), ?_⟩
  obtain ⟨pa, pb, rfl, hpa, hpb⟩ := Nk.pr hv
  obtain ⟨ra, rfl, hra⟩ := Nk.row hu
  refine ⟨_, rfl, _, _, _, _, rfl, rfl, hpa, rfl, pb, _, rfl, .inr hpb, fun l1 hl1 => ?_⟩
  have e1 := Ex.new (o := .lst (p.2.map V.str)) hl1
  refine ⟨_, rfl, _, _, _, _, rfl, rfl, e1.sqT hra, rfl, _, rfl, d, _, rfl, DGet.k (k := .inr r.2.1) (e1 _ _ hd), _, rfl, ?_⟩
  rw [valV_tD]
  cases hlk : lk t r.2.1 with
  | none =>
    refine itF rfl ?_
    refine ⟨_, rfl, _, _, _, _, rfl, rfl, (e1).sqT hra, rfl, ?_⟩
    refine ⟨_, rfl, l1, _, (p.2).map NestedKey.text, rfl, SqL.of upd_same, NkA.strs _, alk_texts _, fun k hk => ?_, fun us l4 hus hl4 => ?_⟩
    · obtain ⟨y, _, rfl⟩ := List.mem_map.mp hk
      exact Nat.zero_le _
    rw [srt_map] at hus
    obtain rfl := NkA.toStrs hus
    refine ⟨l4, _, rfl, .inl ⟨SqL.of upd_same, fun t1 ht1 => ?_⟩⟩
    refine ⟨by show 2 ≤ sizeLine; decide, fun t2 ht2 => ?_⟩
    have e5 := (((e1).to (o := .lst ((srtBy .text (p.2)).map V.str)) hl4).to (o := .tup ((srtBy .text (p.2)).map V.str)) ht1).to (o := .tup [.int r.2.2, .ref t1]) ht2
    have eb : behind t p r = (r.2.2, srtBy .text (p.2)) := by
      unfold behind
      rw [hlk]
      rw [SrtBy.fix text_inj (alk_texts _) ps]
    refine q.of e5 ⟨t2, rfl, ?_⟩
    rw [eb]
    exact Nk.ofPr (SqT.of upd_same) ((Ex.new ht2).sqT (SqT.of upd_same))
  | some n =>
    refine itT rfl ?_
    refine ⟨_, rfl, _, rfl, _, _, _, _, rfl, rfl, e1.sqT hra, rfl, d, .str n, rfl, .inl ⟨_, .inr r.2.1, .inl (e1 _ _ hd), rfl, by rw [valV_tD, hlk]; rfl⟩, _, rfl, l1, .text n, p.2.map .text, rfl, .text n, SqK.l (SqL.of upd_same) (NkA.strs _), Nat.zero_le _, _, rfl, itE (fun c => ?_) fun c => ?_⟩
    · have hn : n ∉ p.2 := fun z => ofnT c ((mem_map_inj text_inj).mpr z)
      refine ⟨_, rfl, .inl ⟨rfl, _, SqL.of upd_same⟩, _, rfl, _, rfl, _, _, _, _, rfl, rfl, e1.sqT hra, rfl, d, .str n, rfl, .inl ⟨_, .inr r.2.1, .inl (e1 _ _ hd), rfl, by rw [valV_tD, hlk]; rfl⟩, l1, _, _, rfl, rfl, upd_same, Nat.lt_of_le_of_lt (show (p.2.map V.str).length ≤ 100 by rw [List.length_map]; omega) (by decide), ?_⟩
      have e2 := e1.mut (o := .lst (p.2.map V.str ++ [V.str n])) hl1
      have hl2 : (upd (upd H l1 (.lst (p.2.map V.str))) l1 (.lst (p.2.map V.str ++ [V.str n]))) l1 = some (.lst ((p.2 ++ [n]).map V.str)) := by
        rw [map_snoc]
        exact upd_same
      refine ⟨_, rfl, _, _, _, _, rfl, rfl, (e2).sqT hra, rfl, ?_⟩
      refine ⟨_, rfl, l1, _, (p.2 ++ [n]).map NestedKey.text, rfl, SqL.of hl2, NkA.strs _, alk_texts _, fun k hk => ?_, fun us l4 hus hl4 => ?_⟩
      · obtain ⟨y, _, rfl⟩ := List.mem_map.mp hk
        exact Nat.zero_le _
      rw [srt_map] at hus
      obtain rfl := NkA.toStrs hus
      refine ⟨l4, _, rfl, .inl ⟨SqL.of upd_same, fun t1 ht1 => ?_⟩⟩
      refine ⟨by show 2 ≤ sizeLine; decide, fun t2 ht2 => ?_⟩
      have e5 := (((e2).to (o := .lst ((srtBy .text (p.2 ++ [n])).map V.str)) hl4).to (o := .tup ((srtBy .text (p.2 ++ [n])).map V.str)) ht1).to (o := .tup [.int r.2.2, .ref t1]) ht2
      have eb : behind t p r = (r.2.2, srtBy .text (p.2 ++ [n])) := by
        unfold behind
        rw [hlk]
        simp [hn]
      refine q.of e5 ⟨t2, rfl, ?_⟩
      rw [eb]
      exact Nk.ofPr (SqT.of upd_same) ((Ex.new ht2).sqT (SqT.of upd_same))
    · have hn : n ∈ p.2 := (mem_map_inj text_inj).mp (ofnF c)
      skip
      refine ⟨_, rfl, _, _, _, _, rfl, rfl, (e1).sqT hra, rfl, ?_⟩
      refine ⟨_, rfl, l1, _, (p.2).map NestedKey.text, rfl, SqL.of upd_same, NkA.strs _, alk_texts _, fun k hk => ?_, fun us l4 hus hl4 => ?_⟩
      · obtain ⟨y, _, rfl⟩ := List.mem_map.mp hk
        exact Nat.zero_le _
      rw [srt_map] at hus
      obtain rfl := NkA.toStrs hus
      refine ⟨l4, _, rfl, .inl ⟨SqL.of upd_same, fun t1 ht1 => ?_⟩⟩
      refine ⟨by show 2 ≤ sizeLine; decide, fun t2 ht2 => ?_⟩
      have e5 := (((e1).to (o := .lst ((srtBy .text (p.2)).map V.str)) hl4).to (o := .tup ((srtBy .text (p.2)).map V.str)) ht1).to (o := .tup [.int r.2.2, .ref t1]) ht2
      have eb : behind t p r = (r.2.2, srtBy .text (p.2)) := by
        unfold behind
        rw [hlk]
        rw [SrtBy.fix text_inj (alk_texts _) ps]
        simp [hn]
      refine q.of e5 ⟨t2, rfl, ?_⟩
      rw [eb]
      exact Nk.ofPr (SqT.of upd_same) ((Ex.new ht2).sqT (SqT.of upd_same))
end
end K25
/-! the law's estimates: _law_estimate, _law_later -/
namespace K25
open PySem PySem.Spec PyProof.Rows L2
theorem unmap {α : Type} {f : α → NestedKey} {L : List α} : ∀ {ks : List NestedKey}, (∀ k ∈ ks, ∃ p ∈ L, k = f p) → ∃ Fs : List α, ks = Fs.map f ∧ ∀ p ∈ Fs, p ∈ L
  | [], _ => ⟨[], rfl, fun _ h => nomatch h⟩
  | k :: ks, h => by
    obtain ⟨p, hp, rfl⟩ := h k List.mem_cons_self
    obtain ⟨Fs, rfl, e2⟩ := unmap (ks := ks) fun j hj => h j (List.mem_cons_of_mem _ hj)
    refine ⟨p :: Fs, rfl, fun q hq => ?_⟩
    rcases List.mem_cons.mp hq with rfl | hq
    · exact hp
    · exact e2 q hq
theorem at_nk {K : PySem.W.Frag} {H : Hp} {fv : List V} {Fd : List Pr} (n : NkA K H fv (Fd.map kPr)) {i : Nat} {p : Pr} (h : Fd[i]? = some p) : ∃ pa pb, atI fv ((0 : Int) + (i : Int)) = some (.ref pa) ∧ Nk K H (.ref pa) (kPr p) ∧ SqT K H pa [.int p.1, .ref pb] := by
  obtain ⟨v, hv, nv⟩ := NkA.get' n (show (Fd.map kPr)[i]? = some (kPr p) by rw [List.getElem?_map, h]; rfl)
  obtain ⟨a, b, rfl, h1, h2⟩ := Nk.pr nv
  refine ⟨a, b, ?_, nv, h1⟩
  rw [show (0 : Int) + (i : Int) = ((i : Nat) : Int) by omega]
  exact atI_nat hv
/-- a new list of pairs is given back -/
def GivesN (K : PySem.W.Frag) (H : Hp) (E : List Pr) : V → Hp → Prop := fun v H' => ∃ r us, v = .ref r ∧ H r = none ∧ H' r = some (.lst us) ∧ NkA K H' us (E.map kPr)
section
variable {P : Program} {w : World} {K : PySem.W.Frag} {mg : Str → Option Value} {base : Heap}
def sp__law_estimate (K : PySem.W.Frag) : Sp := fun vs H Q _ => ∃ a sl fp wp pvs rows t tab, ∃ L U : List Pr, vs = [.ref a, .ref sl, .ref fp, .ref wp] ∧ SqL K H a pvs ∧ NkA K H pvs (L.map kPr) ∧ LawIn K H sl fp wp rows t tab ∧ Uni rows t U ∧ (∀ p ∈ L, p ∈ U) ∧ Ret H Q (GivesN K H (cloL rows t tab U fun p => p ∈ L))
theorem sc__law_estimate : FnScope ["_law_pairs", "_law_steps", "_law_table", "_law_sights_here", "_law_found", "_law_at", "_law_step", "_law_end"] ["_law_pairs", "_law_steps", "_law_table", "_law_sights_here"] d__law_estimate.scope := ⟨rfl, rfl, rfl, by decide +kernel, rfl, by decide +kernel, by decide +kernel⟩
theorem ok__law_estimate (T : Tp K mg) : Cal P w K mg base "_law_estimate" 2 ["_law_pairs", "_law_steps", "_law_table", "_law_sights_here"] (sp__law_estimate K) := by
  refine ⟨_, T.glo 65, ?_⟩
  show Df P w K mg base (d__law_estimate.path K) 2 ["_law_pairs", "_law_steps", "_law_table", "_law_sights_here"] (sp__law_estimate K)
  refine T.df 62 (d := d__law_estimate) rfl rfl sc__law_estimate (fun vs H Q E h => by obtain ⟨_, _, _, _, _, _, _, _, _, _, e, _⟩ := h; rw [e]; rfl) (fun _ _ _ _ _ _ us hl => match us, hl with | [_, _, _, _], _ => rfl) (fun cdv A outer s H vs Q E hr h => ?_)

  obtain ⟨a, sl, fp, wp, pvs, rows, t, tab, L, U, rfl, ha, na, hI, u, hU, q⟩ := h
  refine ⟨_, PSs.nox (pss_cons (ps_set (i := 4) sc__law_estimate.nd rfl (Or.inl rfl) (pe_callB (call_sortedSetN rfl hr) rfl (T.free 76) boot_sorted (pa_cons (pe_callTy (call_setN rfl hr) rfl (T.free 79) boot_set (pa_cons (pv 0) pa_nil)) pa_nil)))
      (pss_cons (ps_for PassesOwn.never rfl (pi_range1 rfl (T.free 81) (pa_cons pe_int pa_nil)) (pg_name (i := 5) sc__law_estimate.nd rfl (Or.inl rfl))
      (pss_one (ps_if (pt_cmpR op_lt (pv 5) (pe_callB call_len_seq rfl (T.free 74) boot_len (pa_cons (pv 4) pa_nil)) (nomark _))
      (pss_one (ps_for PassesOwn.never rfl (pi_list (pv 1)) (pg_name (i := 6) sc__law_estimate.nd rfl (Or.inl rfl))
      (pss_one (ps_if (PW.pt (pw_and (pt_cmpR op_eq (pe_ix ix_tup (pv 6) pe_int (fun _ _ => rfl)) (pe_ix ix_tup (pe_ix ix_list (pv 4) (pv 5) (fun _ _ => rfl)) pe_int (fun _ _ => rfl)) (nomark _)) (pw_and1 (pt_cmp (pc_dnotin (hu_of hr) (pe_ix ix_tup (pv 6) pe_int (fun _ _ => rfl)) (pv 3))))))
      (pss_cons (ps_set (i := 7) sc__law_estimate.nd rfl (Or.inl rfl) (pe_cal (ok__law_pair_behind T) hr (by decide) rfl (pa_cons (pe_ix ix_list (pv 4) (pv 5) (fun _ _ => rfl)) (pa_cons (pv 6) (pa_cons (pv 2) pa_nil)))))
      (pss_one (ps_if (pt_cmpR (op_notInK hr) (pv 7) (pv 4) (by with_unfolding_all rfl))
      (pss_one (ps_expr (pe_bm PySem.F.plainAttrs_list PySem.F.slot_list_append PySem.F.type_list_append mt_append (pv 4) (pa_cons (pv 7) pa_nil)))) pss_nil))) pss_nil)))) pss_nil)))
      (pss_one (ps_ret (pe_callB (call_sortedK rfl hr) rfl (T.free 76) boot_sorted (pa_cons (pv 4) pa_nil)))))), ?_⟩
  obtain ⟨M, rfl, eM, kM⟩ := NkA.ln na
  refine ⟨_, rfl, a, M, U.map kPr, rfl, ha, kM, fun p hp => ?_, by rw [List.length_map]; exact Nat.lt_of_lt_of_le u.few (by decide), fun S Ls hS s1 s2 s3 => ?_⟩
  · have h : p.1 ∈ M.map (·.1) := List.mem_map.mpr ⟨p, hp, rfl⟩
    rw [eM] at h
    obtain ⟨q, hq, e⟩ := List.mem_map.mp h
    exact List.mem_map.mpr ⟨q, hU q hq, e⟩
  obtain ⟨Fs, eFs, inL⟩ := unmap (f := kPr) (L := L) (ks := Ls.map (·.1)) fun k hk => by
    obtain ⟨p, hp, rfl⟩ := List.mem_map.mp hk
    have h : p.1 ∈ M.map (·.1) := List.mem_map.mpr ⟨p, s1 p hp, rfl⟩
    rw [eM] at h
    obtain ⟨q, hq, e⟩ := List.mem_map.mp h
    exact ⟨q, hq, e.symm⟩
  have xS := Ex.new (o := SNO P w S Ls) hS
  refine ⟨S, Ls, rfl, upd_same, fun p hp => ⟨Nk.mono xS _ _ (kM p (s1 p hp)).1, (kM p (s1 p hp)).2⟩, (by rw [eFs]; exact alk_pr _), fun us F hus hF => ?_⟩
  rw [eFs] at s2 s3 hus
  rw [srt_map] at hus
  have e1 := xS.to (o := .lst us) hF
  have hF0 := xS.free hF
  have fsnd : Fs.Nodup := nodup_of_map_inj s3
  have fsm : ∀ p, p ∈ srtBy kPr Fs ↔ p ∈ L := fun p => by
    rw [srtBy_mem]
    refine ⟨inL p, fun hp => ?_⟩
    have h : kPr p ∈ M.map (·.1) := by rw [eM]; exact List.mem_map.mpr ⟨p, hp, rfl⟩
    obtain ⟨q, hq, e⟩ := List.mem_map.mp h
    have h2 := s2 q hq
    rw [e] at h2
    exact (mem_map_inj kPr_inj).mp h2
  have b0 : Bfs (succP rows t tab) (fun p => p ∈ L) 0 [] (srtBy kPr Fs) := Bfs.start ((srtBy_perm _ _).nodup_iff.mpr fsnd) fsm
  have lim : ∀ {n : Nat} {sn Fd : List Pr}, Bfs (succP rows t tab) (fun p => p ∈ L) n sn Fd → Fd.length < 60 := fun b => Nat.lt_of_le_of_lt (nodup_subP kPr_inj b.nd fun p hp => u.clo hU (b.reach p hp)) u.few
  have inU : ∀ {n : Nat} {sn Fd : List Pr}, Bfs (succP rows t tab) (fun p => p ∈ L) n sn Fd → ∀ p ∈ Fd, p ∈ U := fun b p hp => u.clo hU (b.reach p hp)
  obtain ⟨rus, hrs, nrs⟩ := hI.steps
  refine ⟨400, rfl, by decide, by decide, ?_⟩
  refine for_it (walk_range (lo := 0) (n := 400)) (fun i σ H3 => ∃ v5 v6 v7 fv, ∃ Fd : List Pr, σ = [some (.ref a), some (.ref sl), some (.ref fp), some (.ref wp), some (.ref F), v5, v6, v7] ∧ Ex H H3 ∧ H3 F = some (.lst fv) ∧ NkA K H3 fv (Fd.map kPr) ∧ Bfs (succP rows t tab) (fun p => p ∈ L) i [] Fd)
    ⟨_, _, _, us, srtBy kPr Fs, rfl, e1, upd_same, NkA.mono (Ex.new hF) _ _ hus, b0⟩ (fun _ _ _ _ _ => True.intro) (fun i x σ H3 H4 hi p y => ?_) (fun σ H3 p => ?_)
  · obtain ⟨v5, v6, v7, fv, Fd, rfl, e3, hF3, nF, bf⟩ := p
    obtain ⟨rfl, rfl⟩ := y
    have lf := nF.length
    rw [List.length_map] at lf
    refine ⟨_, rfl, _, rfl, F, fv, rfl, .inl (SqL.of hF3), _, _, rfl, rfl, _, rfl, itE (fun cc => ?_) fun cc => ?_⟩
    · have hlt : i < Fd.length := by have h := ofT cc; omega
      have hget : Fd[i]? = some Fd[i] := List.getElem?_eq_getElem hlt
      generalize Fd[i] = p at hget
      refine ⟨_, rfl, sl, rfl, ⟨_, e3.sqL hrs⟩, ?_⟩
      refine for_it (walk_list (xs := rus)) (fun j σ H5 => ∃ v6 v7 fv, ∃ Fd : List Pr, σ = [some (.ref a), some (.ref sl), some (.ref fp), some (.ref wp), some (.ref F), some (.int (0 + (i : Int))), v6, v7] ∧ Ex H H5 ∧ H5 F = some (.lst fv) ∧ NkA K H5 fv (Fd.map kPr) ∧ Bfs (succP rows t tab) (fun p => p ∈ L) i (unsR t tab p (rows.take j)) Fd ∧ Fd[i]? = some p)
        ⟨_, _, fv, Fd, rfl, e3, hF3, nF, bf, hget⟩ (fun j σ H5 _ p => by obtain ⟨v6, v7, fv, Fd, rfl, e, _⟩ := p; exact e.sqL hrs) (fun j x σ H5 H6 hj p y => ?_) (fun σ H5 p => ?_)
      · clear bf hget hF3 nF lf cc hlt
        obtain ⟨v6, v7, fv, Fd, rfl, e5, hF5, nF, bf, hget⟩ := p
        obtain ⟨rfl, hx⟩ := y
        obtain ⟨k, hk, nk⟩ := NkA.get nrs hx
        rw [List.getElem?_map] at hk
        obtain ⟨r, hr0, rfl⟩ := Option.map_eq_some_iff.mp hk
        obtain ⟨ra, rfl, hra⟩ := Nk.row nk
        obtain ⟨pa, pb, atp, nkp, hpa⟩ := at_nk nF hget
        have I5 := hI.mono e5
        have er := take_next hr0
        have skip : ¬ (r.1 = p.1 ∧ lk tab r.2.1 = none) → ∃ w6 w7 fv, ∃ Fd : List Pr, [some (V.ref a), some (.ref sl), some (.ref fp), some (.ref wp), some (.ref F), some (.int (0 + (i : Int))), some (.ref ra), v7] = [some (V.ref a), some (.ref sl), some (.ref fp), some (.ref wp), some (.ref F), some (.int (0 + (i : Int))), w6, w7] ∧ Ex H H6 ∧ H6 F = some (.lst fv) ∧ NkA K H6 fv (Fd.map kPr) ∧ Bfs (succP rows t tab) (fun p => p ∈ L) i (unsR t tab p (rows.take (j + 1))) Fd ∧ Fd[i]? = some p := fun hc =>
          ⟨_, v7, fv, Fd, rfl, e5, hF5, nF, by rw [er, unsR_n hc]; exact bf, hget⟩
        refine ⟨_, rfl, _, _, _, _, rfl, rfl, e5.sqT hra, rfl, _, rfl, _, rfl, _, _, _, .ref pa, rfl, rfl, SqL.of hF5, atp, _, _, _, _, rfl, rfl, hpa, rfl, rfl, _, rfl, itE (fun c1 => ?_) fun c1 => ?_⟩
        · have h1 : r.1 = p.1 := by injection ofT c1
          refine ⟨_, rfl, _, _, _, _, rfl, rfl, e5.sqT hra, rfl, _, rfl, wp, _, rfl, DGet.k (k := .inr r.2.1) I5.sg, _, rfl, ?_⟩
          rw [valV_tD]
          cases hlk : lk tab r.2.1 with
          | some z =>
            refine itF rfl ?_
            exact skip (fun z => by rw [hlk] at z; cases z.2)
          | none =>
            refine itT rfl ?_
            have pU := inU bf p (List.mem_of_getElem? hget)
            refine ⟨_, rfl, _, rfl, _, _, _, .ref pa, rfl, rfl, SqL.of hF5, atp, _, rfl, _, rfl, .ref pa, .ref ra, fp, t, p, r, rfl, nkp, Nk.mono e5 _ _ nk, I5.ft, u.srt p pU, u.short p pU, fun v8 H8 e8 ⟨b8, ev, n8⟩ => ?_⟩
            subst ev
            have hF8 := e8 _ _ hF5
            have nF8 := NkA.mono e8 _ _ nF
            have eu := unsR_y (ft := t) (rs := rows.take j) h1 hlk
            rw [← er] at eu
            have hs : behind t p r ∈ succP rows t tab p := mem_succP.mpr ⟨r, List.mem_of_getElem? hr0, h1, hlk, rfl⟩
            refine ⟨_, rfl, _, rfl, F, kPr (behind t p r), Fd.map kPr, rfl, n8, SqK.l (SqL.of hF8) nF8, Nat.le_trans (kPr_depth _) (by decide), _, rfl, itE (fun c2 => ?_) fun c2 => ?_⟩
            · have hnew : behind t p r ∉ Fd := fun z => ofnT c2 ((mem_map_inj kPr_inj).mpr z)
              have lf := nF.length
              rw [List.length_map] at lf
              have l6 := lim bf
              have hi2 := (List.getElem?_eq_some_iff.mp hget).1
              refine ⟨_, rfl, .inl ⟨rfl, _, SqL.of hF8⟩, _, rfl, F, fv, _, rfl, rfl, hF8, Nat.lt_of_le_of_lt (show fv.length ≤ 100 by omega) (by decide), ?_⟩
              refine ⟨_, _, fv ++ [.ref b8], Fd ++ [behind t p r], rfl, (e5.trans e8).mut hF0, upd_same, ?_, ?_, ?_⟩
              · rw [map_snoc]
                exact NkA.append (NkA.other nF8 hF8) (.cons (Nk.upd hF8 lst_ne _ _ n8) .nil)
              · rw [eu]
                exact bf.new (Nat.le_of_lt hi2) (List.mem_of_getElem? hget) hnew hs
              · rw [List.getElem?_append_left hi2]
                exact hget
            · have hold : behind t p r ∈ Fd := (mem_map_inj kPr_inj).mp (ofnF c2)
              refine ⟨_, _, fv, Fd, rfl, e5.trans e8, hF8, nF8, ?_, hget⟩
              rw [eu]
              exact bf.old hold
        · exact skip (fun z => ofF c1 (by rw [z.1]))
      · clear bf hget hF3 nF lf cc hlt
        obtain ⟨v6, v7, fv, Fd, rfl, e5, hF5, nF, bf, hget⟩ := p
        have lr := nrs.length
        rw [List.length_map] at lr
        rw [lr, List.take_length] at bf
        exact ⟨_, _, _, fv, Fd, rfl, e5, hF5, nF, bf.next hget fun q hq => hq⟩
    · have hle : Fd.length ≤ i := by have h := ofF cc; omega
      exact ⟨_, _, _, fv, Fd, rfl, e3, hF3, nF, bf.skip hle⟩
  · obtain ⟨v5, v6, v7, fv, Fd, rfl, e3, hF3, nF, bf⟩ := p
    have l6 := lim bf
    refine ⟨_, rfl, F, fv, Fd.map kPr, rfl, SqL.of hF3, nF, alk_pr _, all_depth kPr_depth, fun us' p' hus' hp' => ?_⟩
    have eL : srtBy kPr Fd = cloL rows t tab U fun p => p ∈ L := cloL_ext u hU (srtBy_srt kPr_inj (alk_pr _) bf.nd) fun p => by rw [srtBy_mem]; exact bf.ends (by omega) p
    rw [srt_map, eL] at hus'
    exact q.of (e3.to hp') ⟨p', us', rfl, e3.free hp', upd_same, NkA.mono (Ex.new hp') _ _ hus'⟩
def sp__law_later (K : PySem.W.Frag) : Sp := fun vs H Q _ => ∃ a sl fp wp pvs rows t tab, ∃ E U : List Pr, ∃ s : Str, vs = [.ref a, .ref sl, .ref fp, .ref wp, .str s] ∧ SqL K H a pvs ∧ NkA K H pvs (E.map kPr) ∧ LawIn K H sl fp wp rows t tab ∧ Uni rows t U ∧ (∀ p ∈ E, p ∈ U) ∧ E.length < 200 ∧ Ret H Q (GivesN K H (laterE rows t tab U s E))
theorem sc__law_later : FnScope ["_law_pairs", "_law_steps", "_law_table", "_law_sights_here", "_law_sight", "_law_ends", "_law_pair", "_law_step"] ["_law_pairs", "_law_steps", "_law_table", "_law_sights_here", "_law_sight"] d__law_later.scope := ⟨rfl, rfl, rfl, by decide +kernel, rfl, by decide +kernel, by decide +kernel⟩
theorem ok__law_later (T : Tp K mg) : Cal P w K mg base "_law_later" 3 ["_law_pairs", "_law_steps", "_law_table", "_law_sights_here", "_law_sight"] (sp__law_later K) := by
  refine ⟨_, T.glo 66, ?_⟩
  show Df P w K mg base (d__law_later.path K) 3 ["_law_pairs", "_law_steps", "_law_table", "_law_sights_here", "_law_sight"] (sp__law_later K)
  refine T.df 63 (d := d__law_later) rfl rfl sc__law_later (fun vs H Q E h => by obtain ⟨_, _, _, _, _, _, _, _, _, _, _, e, _⟩ := h; rw [e]; rfl) (fun _ _ _ _ _ _ us hl => match us, hl with | [_, _, _, _, _], _ => rfl) (fun cdv A outer s H vs Q E hr h => ?_)

  obtain ⟨a, sl, fp, wp, pvs, rows, t, tab, E, U, s0, rfl, ha, na, hI, u, hU, hz, q⟩ := h
  refine ⟨_, PSs.nox (pss_cons (ps_set (i := 5) sc__law_later.nd rfl (Or.inl rfl) (pe_lst pa_nil))
      (pss_cons (ps_for PassesOwn.never rfl (pi_list (pv 0)) (pg_name (i := 6) sc__law_later.nd rfl (Or.inl rfl))
      (pss_one (ps_for PassesOwn.never rfl (pi_list (pv 1)) (pg_name (i := 7) sc__law_later.nd rfl (Or.inl rfl))
      (pss_one (ps_if (PW.pt (pw_and (pt_cmpR op_eq (pe_ix ix_tup (pv 7) pe_int (fun _ _ => rfl)) (pe_ix ix_tup (pv 6) pe_int (fun _ _ => rfl)) (nomark _)) (pw_and (pt_cmp (pc_din (hu_of hr) (pe_ix ix_tup (pv 7) pe_int (fun _ _ => rfl)) (pv 3))) (pw_and1 (pt_cmpR op_eq (pe_dget (by exact hu_of hr) (pv 3) (pe_ix ix_tup (pv 7) pe_int (fun _ _ => rfl)) (fun _ _ => rfl)) (pv 4) (nomark _))))))
      (pss_one (ps_expr (pe_bm PySem.F.plainAttrs_list PySem.F.slot_list_append PySem.F.type_list_append mt_append (pv 5) (pa_cons (pe_cal (ok__law_pair_behind T) hr (by decide) rfl (pa_cons (pv 6) (pa_cons (pv 7) (pa_cons (pv 2) pa_nil)))) pa_nil)))) pss_nil)))))
      (pss_one (ps_ret (pe_cal (ok__law_estimate T) hr (by decide) rfl (pa_cons (pv 5) (pa_cons (pv 1) (pa_cons (pv 2) (pa_cons (pv 3) pa_nil))))))))), ?_⟩
  obtain ⟨rus, hrs, nrs⟩ := hI.steps
  have few := hI.few
  refine ⟨by show 0 ≤ sizeLine; decide, fun N hN => ?_⟩
  have e1 := Ex.new (o := .lst []) hN
  refine ⟨_, rfl, a, rfl, ⟨_, e1.sqL ha⟩, ?_⟩
  refine for_it (walk_list (xs := pvs)) (fun i σ H3 => ∃ v6 v7 ws, σ = [some (.ref a), some (.ref sl), some (.ref fp), some (.ref wp), some (.str s0), some (.ref N), v6, v7] ∧ Ex H H3 ∧ H3 N = some (.lst ws) ∧ NkA K H3 ws ((sgtE t tab s0 rows (E.take i)).map kPr))
    ⟨_, _, [], rfl, e1, upd_same, .nil⟩ (fun i σ H3 _ p => by obtain ⟨v6, v7, ws, rfl, e, _⟩ := p; exact e.sqL ha) (fun i x σ H3 H4 hi p y => ?_) (fun σ H3 p => ?_)
  · obtain ⟨v6, v7, ws, rfl, e3, hN3, nN⟩ := p
    obtain ⟨rfl, hx⟩ := y
    obtain ⟨k, hk, nkp⟩ := NkA.get na hx
    rw [List.getElem?_map] at hk
    obtain ⟨p, hp0, rfl⟩ := Option.map_eq_some_iff.mp hk
    obtain ⟨pa, pb, rfl, hpa, hpb⟩ := Nk.pr nkp
    have pU := hU p (List.mem_of_getElem? hp0)
    have iE := (List.getElem?_eq_some_iff.mp hp0).1
    refine ⟨_, rfl, sl, rfl, ⟨_, e3.sqL hrs⟩, ?_⟩
    refine for_it (walk_list (xs := rus)) (fun j σ H5 => ∃ v7 ws, σ = [some (.ref a), some (.ref sl), some (.ref fp), some (.ref wp), some (.str s0), some (.ref N), some (.ref pa), v7] ∧ Ex H H5 ∧ H5 N = some (.lst ws) ∧ NkA K H5 ws ((sgtE t tab s0 rows (E.take i) ++ sgtR t tab s0 p (rows.take j)).map kPr))
      ⟨_, ws, rfl, e3, hN3, by show NkA K H4 ws ((sgtE t tab s0 rows (E.take i) ++ []).map kPr); rw [List.append_nil]; exact nN⟩ (fun j σ H5 _ p => by obtain ⟨v7, ws, rfl, e, _⟩ := p; exact e.sqL hrs) (fun j x σ H5 H6 hj p y => ?_) (fun σ H5 p => ?_)
    · clear hN3 nN
      obtain ⟨v7, ws, rfl, e5, hN5, nN⟩ := p
      obtain ⟨rfl, hx⟩ := y
      obtain ⟨k, hk, nk⟩ := NkA.get nrs hx
      rw [List.getElem?_map] at hk
      obtain ⟨r, hr0, rfl⟩ := Option.map_eq_some_iff.mp hk
      obtain ⟨ra, rfl, hra⟩ := Nk.row nk
      have I5 := hI.mono e5
      have er := take_next hr0
      have jr := (List.getElem?_eq_some_iff.mp hr0).1
      have skip : ¬ (r.1 = p.1 ∧ lk tab r.2.1 = some s0) → ∃ w7 ws, [some (V.ref a), some (.ref sl), some (.ref fp), some (.ref wp), some (.str s0), some (.ref N), some (.ref pa), some (.ref ra)] = [some (V.ref a), some (.ref sl), some (.ref fp), some (.ref wp), some (.str s0), some (.ref N), some (.ref pa), w7] ∧ Ex H H6 ∧ H6 N = some (.lst ws) ∧ NkA K H6 ws ((sgtE t tab s0 rows (E.take i) ++ sgtR t tab s0 p (rows.take (j + 1))).map kPr) := fun hc =>
        ⟨_, ws, rfl, e5, hN5, by rw [er, sgtR_n hc]; exact nN⟩
      refine ⟨_, rfl, _, _, _, _, rfl, rfl, e5.sqT hra, rfl, _, rfl, _, _, _, _, rfl, rfl, e5.sqT hpa, rfl, rfl, _, rfl, itE (fun c1 => ?_) fun c1 => ?_⟩
      · have h1 : r.1 = p.1 := by injection ofT c1
        refine ⟨_, rfl, _, _, _, _, rfl, rfl, e5.sqT hra, rfl, _, rfl, wp, _, rfl, DGet.k (k := .inr r.2.1) I5.sg, _, rfl, ?_⟩
        rw [valV_tD]
        cases hlk : lk tab r.2.1 with
        | none =>
          refine itF rfl ?_
          exact skip (fun z => by rw [hlk] at z; cases z.2)
        | some z =>
          refine itT rfl ?_
          refine ⟨_, rfl, _, rfl, _, _, _, _, rfl, rfl, e5.sqT hra, rfl, wp, .str z, rfl, .inl ⟨_, .inr r.2.1, .inl I5.sg, rfl, by rw [valV_tD, hlk]; rfl⟩, _, rfl, rfl, _, rfl, itE (fun c2 => ?_) fun c2 => ?_⟩
          · have hz2 : z = s0 := by injection ofT c2
            subst hz2
            have lw := nN.length
            rw [List.length_map, List.length_append] at lw
            have w1 := sgtE_len t tab z rows (E.take i)
            have w2 := sgtR_len t tab z p (rows.take j)
            rw [List.length_take] at w1 w2
            have w3 : rows.length * min i E.length ≤ 16 * 200 := Nat.mul_le_mul few (by omega)
            refine ⟨_, rfl, .inl ⟨rfl, _, SqL.of hN5⟩, _, rfl, _, rfl, _, rfl, .ref pa, .ref ra, fp, t, p, r, rfl, Nk.mono e5 _ _ nkp, Nk.mono e5 _ _ nk, I5.ft, u.srt p pU, u.short p pU, fun v8 H8 e8 ⟨b8, ev, n8⟩ => ?_⟩
            subst ev
            have hN8 := e8 _ _ hN5
            have nN8 := NkA.mono e8 _ _ nN
            refine ⟨N, ws, _, rfl, rfl, hN8, Nat.lt_of_le_of_lt (show ws.length ≤ 5000 by omega) (by decide), ?_⟩
            refine ⟨_, ws ++ [.ref b8], rfl, (e5.trans e8).mut hN, upd_same, ?_⟩
            rw [er, sgtR_y h1 hlk, ← List.append_assoc, map_snoc]
            exact NkA.append (NkA.other nN8 hN8) (.cons (Nk.upd hN8 lst_ne _ _ n8) .nil)
          · exact skip (fun q => by rw [hlk] at q; have h := q.2; cases h; exact ofF c2 rfl)
      · exact skip (fun z => ofF c1 (by rw [z.1]))
    · clear hN3 nN
      obtain ⟨v7, ws, rfl, e5, hN5, nN⟩ := p
      have lr := nrs.length
      rw [List.length_map] at lr
      rw [lr, List.take_length, ← sgtE_snoc, ← take_next hp0] at nN
      exact ⟨_, _, ws, rfl, e5, hN5, nN⟩
  · obtain ⟨v6, v7, ws, rfl, e3, hN3, nN⟩ := p
    have la := na.length
    rw [List.length_map] at la
    rw [la, List.take_length] at nN
    refine ⟨_, rfl, _, rfl, _, rfl, _, rfl, N, sl, fp, wp, ws, rows, t, tab, sgtE t tab s0 rows E, U, rfl, SqL.of hN3, nN, hI.mono e3, u, fun p hp => Ends.in_U u hU (sgtE_mem.mp hp), fun v5 H5 e5 hv => ?_⟩
    have e : (cloL rows t tab U fun p => p ∈ sgtE t tab s0 rows E) = laterE rows t tab U s0 E := cloL_congr u fun p => sgtE_mem
    rw [e] at hv
    obtain ⟨r, us, ev, hn, h1, h2⟩ := hv
    exact q v5 H5 (e3.trans e5) ⟨r, us, ev, e3.free hn, h1, h2⟩
end
end K25
/-! the law's splits, items, reached states -/
namespace K25
open PySem PySem.Spec PyProof.Rows L2
theorem hav_len (f : Str) (E : List Pr) : (hav f E).length ≤ E.length := List.length_filter_le _ _
theorem lac_len (f : Str) (E : List Pr) : (lac f E).length ≤ E.length := List.length_filter_le _ _
section
variable {P : Program} {w : World} {K : PySem.W.Frag} {mg : Str → Option Value} {base : Heap}
def sp__law_split (K : PySem.W.Frag) : Sp := fun vs H Q _ => ∃ a pvs, ∃ f : Str, ∃ E : List Pr, vs = [.ref a, .str f] ∧ SqL K H a pvs ∧ NkA K H pvs (E.map kPr) ∧ E.length < 1000 ∧ Ret H Q fun v H' => ∃ b, v = .ref b ∧ Nk K H' v (kIt (splitE f E))
theorem sc__law_split : FnScope ["_law_pairs", "_law_fault", "_law_having", "_law_lacking", "_law_pair"] ["_law_pairs", "_law_fault"] d__law_split.scope := ⟨rfl, rfl, rfl, by decide +kernel, rfl, by decide +kernel, by decide +kernel⟩
theorem ok__law_split (T : Tp K mg) : Cal P w K mg base "_law_split" 1 ["_law_pairs", "_law_fault"] (sp__law_split K) := by
  refine ⟨_, T.glo 68, ?_⟩
  show Df P w K mg base (d__law_split.path K) 1 ["_law_pairs", "_law_fault"] (sp__law_split K)
  refine T.df 65 (d := d__law_split) rfl rfl sc__law_split (fun vs H Q E h => by obtain ⟨_, _, _, _, e, _⟩ := h; rw [e]; rfl) (fun _ _ _ _ _ _ us hl => match us, hl with | [_, _], _ => rfl) (fun cdv A outer s H vs Q E hr h => ?_)

  obtain ⟨a, pvs, f, E, rfl, ha, na, hz, q⟩ := h
  refine ⟨_, PSs.nox (pss_cons (ps_set (i := 2) sc__law_split.nd rfl (Or.inl rfl) (pe_callB (call_sortedSetK rfl hr) rfl (T.free 76) boot_sorted (pa_cons (pe_callTy (call_setK rfl hr) rfl (T.free 79) boot_set (pa_cons (pe_lc (own := [("_law_pair", 4)]) rfl sc__law_split.nd (pi_list (pv 0)) (blkOk_by (N := ["_law_pairs", "_law_fault", "_law_having", "_law_lacking", "_law_pair"]) (sc := d__law_split.scope) (by decide +kernel)) (fun _ _ _ _ _ => (pg_name (i := 4) sc__law_split.nd rfl (Or.inl rfl))) (fun _ _ _ _ _ => pts_one (pt_cmpR (op_inKB K rfl hr) (pv 1) (pe_ix (ix_tupB K rfl) (pv 4) pe_int (fun _ _ => rfl)) (by with_unfolding_all rfl))) (fun _ _ _ _ _ => (pe_ix (ix_tupB K rfl) (pv 4) pe_int (fun _ _ => rfl)))) pa_nil)) pa_nil)))
      (pss_cons (ps_set (i := 3) sc__law_split.nd rfl (Or.inl rfl) (pe_callB (call_sortedSetK rfl hr) rfl (T.free 76) boot_sorted (pa_cons (pe_callTy (call_setK rfl hr) rfl (T.free 79) boot_set (pa_cons (pe_lc (own := [("_law_pair", 4)]) rfl sc__law_split.nd (pi_list (pv 0)) (blkOk_by (N := ["_law_pairs", "_law_fault", "_law_having", "_law_lacking", "_law_pair"]) (sc := d__law_split.scope) (by decide +kernel)) (fun _ _ _ _ _ => (pg_name (i := 4) sc__law_split.nd rfl (Or.inl rfl))) (fun _ _ _ _ _ => pts_one (pt_cmpR (op_notInKB K rfl hr) (pv 1) (pe_ix (ix_tupB K rfl) (pv 4) pe_int (fun _ _ => rfl)) (by with_unfolding_all rfl))) (fun _ _ _ _ _ => (pe_ix (ix_tupB K rfl) (pv 4) pe_int (fun _ _ => rfl)))) pa_nil)) pa_nil)))
      (pss_one (ps_ret (pe_tup (pa_cons (pe_callTy call_tuple_of rfl (T.free 80) boot_tuple (pa_cons (pv 2) pa_nil)) (pa_cons (pe_callTy call_tuple_of rfl (T.free 80) boot_tuple (pa_cons (pv 3) pa_nil)) pa_nil))))))), ?_⟩
  have hlen := na.length
  rw [List.length_map] at hlen
  refine ⟨_, rfl, a, rfl, ⟨pvs, ha⟩, fun Dh hDh => ?_⟩
  refine lc_it (walk_list (xs := pvs)) (fun i H1 => Ex H H1 ∧ H1 Dh = some (.lst (((hav f (E.take i)).map (·.1)).map V.int))) ⟨Ex.new hDh, upd_same⟩ (fun i H1 _ p => p.1.sqL ha) (fun i x H1 H2 hi p y => ?_) (fun H1 p => ?_)
  · obtain ⟨e, hd⟩ := p
    obtain ⟨rfl, hx⟩ := y
    obtain ⟨k, hk, nk⟩ := NkA.get na hx
    rw [List.getElem?_map] at hk
    obtain ⟨p, hp, rfl⟩ := Option.map_eq_some_iff.mp hk
    obtain ⟨pa, pb, rfl, hpa, hpb⟩ := Nk.pr nk
    have iE : i < E.length := (List.getElem?_eq_some_iff.mp hp).1
    refine ⟨rfl, ?_⟩
    refine ⟨_, rfl, _, rfl, _, _, _, _, rfl, rfl, e.sqT hpa, rfl, pb, .text f, p.2.map .text, rfl, .text f, SqK.t (e.sqT hpb) (NkA.strs _), Nat.zero_le _, _, rfl, ?_⟩
    refine itE (fun c => ?_) fun c => ?_
    · have hm := (mem_map_inj text_inj).mp (ofT c)
      refine ⟨_, rfl, _, _, _, _, rfl, rfl, e.sqT hpa, rfl, _, hd, ?_, e.mut hDh, ?_⟩
      · have h3 := hav_len f (E.take i)
        rw [List.length_take] at h3
        rw [List.length_map, List.length_map]
        exact Nat.lt_of_le_of_lt (show _ ≤ 1000 by omega) (by decide)
      · rw [take_next hp, hav_snoc_y hm, map_snoc, map_snoc]
        exact upd_same
    · have hm := (fun z => ofF c ((mem_map_inj text_inj).mpr z) : f ∉ p.2)
      refine ⟨e, ?_⟩
      rw [take_next hp, hav_snoc_n hm]
      exact hd
  obtain ⟨eh, hh⟩ := p
  rw [hlen, List.take_length] at hh
  have kvh : ((((hav f E).map (·.1)).map (Sum.inl : Int → Key)).map kV) = ((hav f E).map (·.1)).map V.int := by rw [List.map_map]; rfl
  refine ⟨Dh, ((hav f E).map (·.1)).map Sum.inl, rfl, by rw [kvh]; exact SqL.of hh, ?_, fun Sh hSh => ?_⟩
  · have h3 := hav_len f E
    rw [List.length_map, List.length_map]
    show _ < 4096
    omega
  have eih : insAll [] (((hav f E).map (·.1)).map (Sum.inl : Int → Key)) = (insAll [] ((hav f E).map (·.1))).map Sum.inl := insAll_inl _ []
  refine ⟨Sh, (insAll [] ((hav f E).map (·.1))).map Sum.inl, rfl, by rw [← eih]; exact upd_same, (by rw [toN_inl]; exact alk_nums _), fun uh ph huh hph => ?_⟩
  rw [toN_inl, srt_map] at huh
  obtain rfl := NkA.toInts huh
  have e2 := (eh.to (o := SKO w Sh (insAll [] (((hav f E).map (fun (x : Pr) => x.1)).map Sum.inl))) hSh).to (o := .lst ((sset ((hav f E).map (fun (x : Pr) => x.1))).map V.int)) hph
  have hal := e2.sqL ha
  have nal := NkA.mono e2 _ _ na
  refine ⟨_, rfl, a, rfl, ⟨pvs, hal⟩, fun Dl hDl => ?_⟩
  refine lc_it (walk_list (xs := pvs)) (fun i H1 => Ex _ H1 ∧ H1 Dl = some (.lst (((lac f (E.take i)).map (·.1)).map V.int))) ⟨Ex.new hDl, upd_same⟩ (fun i H1 _ p => p.1.sqL hal) (fun i x H1 H2 hi p y => ?_) (fun H1 p => ?_)
  · obtain ⟨e, hd⟩ := p
    obtain ⟨rfl, hx⟩ := y
    obtain ⟨k, hk, nk⟩ := NkA.get nal hx
    rw [List.getElem?_map] at hk
    obtain ⟨p, hp, rfl⟩ := Option.map_eq_some_iff.mp hk
    obtain ⟨pa, pb, rfl, hpa, hpb⟩ := Nk.pr nk
    have iE : i < E.length := (List.getElem?_eq_some_iff.mp hp).1
    refine ⟨rfl, ?_⟩
    refine ⟨_, rfl, _, rfl, _, _, _, _, rfl, rfl, e.sqT hpa, rfl, pb, .text f, p.2.map .text, rfl, .text f, SqK.t (e.sqT hpb) (NkA.strs _), Nat.zero_le _, _, rfl, ?_⟩
    refine itE (fun c => ?_) fun c => ?_
    · have hm := (fun z => ofnT c ((mem_map_inj text_inj).mpr z) : f ∉ p.2)
      refine ⟨_, rfl, _, _, _, _, rfl, rfl, e.sqT hpa, rfl, _, hd, ?_, e.mut hDl, ?_⟩
      · have h3 := lac_len f (E.take i)
        rw [List.length_take] at h3
        rw [List.length_map, List.length_map]
        exact Nat.lt_of_le_of_lt (show _ ≤ 1000 by omega) (by decide)
      · rw [take_next hp, lac_snoc_y hm, map_snoc, map_snoc]
        exact upd_same
    · have hm := (mem_map_inj text_inj).mp (ofnF c)
      refine ⟨e, ?_⟩
      rw [take_next hp, lac_snoc_n hm]
      exact hd
  obtain ⟨el, hl⟩ := p
  rw [hlen, List.take_length] at hl
  have kvl : ((((lac f E).map (·.1)).map (Sum.inl : Int → Key)).map kV) = ((lac f E).map (·.1)).map V.int := by rw [List.map_map]; rfl
  refine ⟨Dl, ((lac f E).map (·.1)).map Sum.inl, rfl, by rw [kvl]; exact SqL.of hl, ?_, fun Sl hSl => ?_⟩
  · have h3 := lac_len f E
    rw [List.length_map, List.length_map]
    show _ < 4096
    omega
  have eil : insAll [] (((lac f E).map (·.1)).map (Sum.inl : Int → Key)) = (insAll [] ((lac f E).map (·.1))).map Sum.inl := insAll_inl _ []
  refine ⟨Sl, (insAll [] ((lac f E).map (·.1))).map Sum.inl, rfl, by rw [← eil]; exact upd_same, (by rw [toN_inl]; exact alk_nums _), fun ul pl hul hpl => ?_⟩
  rw [toN_inl, srt_map] at hul
  obtain rfl := NkA.toInts hul
  have e4 := (el.to (o := SKO w Sl (insAll [] (((lac f E).map (fun (x : Pr) => x.1)).map Sum.inl))) hSl).to (o := .lst ((sset ((lac f E).map (fun (x : Pr) => x.1))).map V.int)) hpl
  have h2 := e4 ph _ upd_same
  refine ⟨_, rfl, ph, _, rfl, .inl ⟨SqL.of h2, fun t1 ht1 => ?_⟩⟩
  refine ⟨_, rfl, pl, _, rfl, .inl ⟨(Ex.new ht1).sqL (SqL.of upd_same), fun t2 ht2 => ?_⟩⟩
  refine ⟨by show 2 ≤ sizeLine; decide, fun t3 ht3 => ?_⟩
  refine q.of ((((e2.trans e4).to ht1).to ht2).to ht3) ⟨t3, rfl, ?_⟩
  exact Nk.ofItem (x := splitE f E) (SqT.of upd_same) (((Ex.new ht2).to ht3).sqT (SqT.of upd_same)) ((Ex.new ht3).sqT (SqT.of upd_same))
def sp__law_veil_item (K : PySem.W.Frag) : Sp := fun vs H Q _ => ∃ v l x, ∃ T : List Int, vs = [v, .ref l] ∧ Nk K H v (kIt x) ∧ SqL K H l (T.map V.int) ∧ SrtBy .num x.1 ∧ SrtBy .num x.2 ∧ (∀ s ∈ x.1, s ∈ T) ∧ (∀ s ∈ x.2, s ∈ T) ∧ T.length ≤ 20 ∧ Ret H Q fun v' H' => v' = .bl (decide (0 < x.2.length))
theorem sc__law_veil_item : FnScope ["_law_item", "_law_states", "_law_part", "_law_k"] ["_law_item", "_law_states"] d__law_veil_item.scope := ⟨rfl, rfl, rfl, by decide +kernel, rfl, by decide +kernel, by decide +kernel⟩
theorem ok__law_veil_item (T : Tp K mg) : Cal P w K mg base "_law_veil_item" 2 ["_law_item", "_law_states"] (sp__law_veil_item K) := by
  refine ⟨_, T.glo 69, ?_⟩
  show Df P w K mg base (d__law_veil_item.path K) 2 ["_law_item", "_law_states"] (sp__law_veil_item K)
  refine T.df 66 (d := d__law_veil_item) rfl rfl sc__law_veil_item (fun vs H Q E h => by obtain ⟨_, _, _, _, e, _⟩ := h; rw [e]; rfl) (fun _ _ _ _ _ _ us hl => match us, hl with | [_, _], _ => rfl) (fun cdv A outer s H vs Q E hr h => ?_)

  obtain ⟨v, l, x, TT, rfl, hv, hl, s1, s2, m1, m2, lT, q⟩ := h
  refine ⟨_, PSs.nox (pss_cons (ps_if (PW.pt (pw_or (pt_not (pt_val (pe_callB call_isi rfl (T.free 75) boot_isinstance (pa_cons (pv 0) (pa_cons (pe_bltn (v := .ty "tuple") rfl (T.free 80) boot_tuple rfl) pa_nil))))) (pw_or1 (pt_cmpR op_ne (pe_callB call_len_seq rfl (T.free 74) boot_len (pa_cons (pv 0) pa_nil)) pe_int (nomark _)))))
      (pss_one (ps_ret pe_bl)) pss_nil)
      (pss_cons (ps_for PassesOwn.never rfl (pi_tup (pv 0)) (pg_name (i := 2) sc__law_veil_item.nd rfl (Or.inl rfl))
      (pss_cons (ps_if (pt_not (pt_val (pe_callB call_isi rfl (T.free 75) boot_isinstance (pa_cons (pv 2) (pa_cons (pe_bltn (v := .ty "tuple") rfl (T.free 80) boot_tuple rfl) pa_nil)))))
      (pss_one (ps_ret pe_bl)) pss_nil)
      (pss_one (ps_for PassesOwn.never rfl (pi_range1 rfl (T.free 81) (pa_cons (pe_callB call_len_seq rfl (T.free 74) boot_len (pa_cons (pv 2) pa_nil)) pa_nil)) (pg_name (i := 3) sc__law_veil_item.nd rfl (Or.inl rfl))
      (pss_cons (ps_if (PW.pt (pw_or (pt_not (pt_val (pe_cal (ok__law_is_integer T) hr (by decide) rfl (pa_cons (pe_ix ix_tup (pv 2) (pv 3) (fun _ _ => rfl)) pa_nil)))) (pw_or1 (pt_cmpR (op_notInK hr) (pe_ix ix_tup (pv 2) (pv 3) (fun _ _ => rfl)) (pv 1) (by with_unfolding_all rfl)))))
      (pss_one (ps_ret pe_bl)) pss_nil)
      (pss_one (ps_if (PW.pt (pw_and (pt_cmpR op_gt (pv 3) pe_int (nomark _)) (pw_and1 (pt_cmpR op_le (pe_ix ix_tup (pv 2) (pv 3) (fun _ _ => rfl)) (pe_ix ix_tup (pv 2) (pe_op op_sub (pv 3) pe_int) (fun _ _ => rfl)) (nomark _)))))
      (pss_one (ps_ret pe_bl)) pss_nil)))))))
      (pss_one (ps_ret (pe_cmpR op_gt (pe_callB call_len_seq rfl (T.free 74) boot_len (pa_cons (pe_ix ix_tup (pv 0) pe_int (fun _ _ => rfl)) pa_nil)) pe_int (nomark _)))))), ?_⟩
  obtain ⟨ia, ib, ic, rfl, hia, hib, hic⟩ := Nk.item hv
  have L1 := len_in s1 m1
  have L2 := len_in s2 m2
  refine ⟨_, rfl, .ref ia, .ty "tuple", _, _, true, rfl, .ty _, tyx_T hia, kit_ty (by decide +kernel), true, rfl, iteF ?_⟩
  refine ⟨_, rfl, ia, _, rfl, .inr hia, rfl, _, rfl, ?_⟩
  refine itF rfl ?_
  refine ⟨_, rfl, ia, rfl, ⟨_, hia⟩, ?_⟩
  refine for_it (walk_tup (xs := [.ref ib, .ref ic])) (fun i σ H2 => ∃ v2 v3, σ = [some (.ref ia), some (.ref l), v2, v3] ∧ Ex H H2) ⟨_, _, rfl, Ex.refl _⟩ (fun i σ H2 _ p => by obtain ⟨v2, v3, rfl, e⟩ := p; exact e.sqT hia) (fun i y σ H2 H3 hi p y' => ?_) (fun σ H2 p => ?_)
  · obtain ⟨v2, v3, rfl, e2⟩ := p
    obtain ⟨rfl, hx⟩ := y'
    have side : ∃ (z : Addr) (L : List Int), y = .ref z ∧ SqT K H z (L.map V.int) ∧ L.Pairwise (· < ·) ∧ (∀ t ∈ L, t ∈ TT) ∧ L.length ≤ TT.length := by
      have hi2 : i < 2 := hi
      rcases i with _ | _ | i
      · cases hx
        exact ⟨ib, x.1, rfl, hib, srt_lt s1, m1, L1⟩
      · cases hx
        exact ⟨ic, x.2, rfl, hic, srt_lt s2, m2, L2⟩
      · omega
    obtain ⟨z, L, rfl, hzL, hp, hm, hlz⟩ := side
    refine ⟨_, rfl, .ref z, .ty "tuple", _, _, true, rfl, .ty _, tyx_T (e2.sqT hzL), kit_ty (by decide +kernel), true, rfl, iteF ?_⟩
    refine ⟨_, rfl, z, _, rfl, .inr (e2.sqT hzL), _, rfl, by omega, by rw [List.length_map]; omega, ?_⟩
    refine for_it (walk_range (lo := 0) (n := (L.map V.int).length)) (fun j σ H4 => ∃ v3, σ = [some (.ref ia), some (.ref l), some (.ref z), v3] ∧ Ex H H4) ⟨_, rfl, e2⟩ (fun _ _ _ _ _ => True.intro) (fun j y σ H4 H5 hj p y' => ?_) (fun σ H4 p => ?_)
    · obtain ⟨v3, rfl, e4⟩ := p
      obtain ⟨rfl, rfl⟩ := y'
      rw [List.length_map] at hj
      have hzero : ((0 : Int) + (j : Int)) = ((j : Nat) : Int) := by omega
      have atj : atI (L.map V.int) ((0 : Int) + (j : Int)) = some (.int L[j]) := by rw [hzero]; exact atI_nat (by rw [List.getElem?_map, List.getElem?_eq_getElem hj]; rfl)
      refine ⟨_, rfl, _, rfl, _, _, _, .int L[j], rfl, rfl, e4.sqT hzL, atj, L[j], rfl, fun v5 H6 e6 ev => ?_⟩
      subst ev
      have e46 := e4.trans e6
      refine ⟨_, rfl, iteF ?_⟩
      refine ⟨_, rfl, _, rfl, _, _, _, .int L[j], rfl, rfl, e46.sqT hzL, atj, _, rfl, l, .num L[j], TT.map .num, rfl, .num _, SqK.l (e46.sqL hl) (NkA.ints _), Nat.zero_le _, _, rfl, ?_⟩
      refine itF (nF ((mem_map_inj num_inj).mpr (hm _ (List.getElem_mem hj)))) ?_
      refine ⟨_, rfl, _, _, rfl, rfl, _, rfl, itE (fun c => ?_) fun c => ?_⟩
      · have hpos : (0 : Int) < 0 + (j : Int) := ofT c
        have hj1 : j - 1 < L.length := by omega
        have atk : atI (L.map V.int) ((0 : Int) + (j : Int) - 1) = some (.int L[j - 1]) := by
          rw [show (0 : Int) + (j : Int) - 1 = ((j - 1 : Nat) : Int) by omega]
          exact atI_nat (by rw [List.getElem?_map, List.getElem?_eq_getElem hj1]; rfl)
        refine ⟨_, rfl, _, rfl, _, _, _, .int L[j], rfl, rfl, e46.sqT hzL, atj, _, rfl, _, rfl, _, _, rfl, rfl, _, _, _, .int L[j - 1], rfl, rfl, e46.sqT hzL, atk, _, _, rfl, rfl, _, rfl, ?_⟩
        have hlt := List.pairwise_iff_getElem.mp hp (j - 1) j hj1 hj (by omega)
        refine itF (dF (by omega)) ?_
        exact ⟨_, rfl, e46⟩
      · exact ⟨_, rfl, e46⟩
    · obtain ⟨v3, rfl, e4⟩ := p
      exact ⟨_, _, rfl, e4⟩
  · obtain ⟨v2, v3, rfl, e2⟩ := p
    refine ⟨_, rfl, _, _, _, _, rfl, rfl, e2.sqT hia, rfl, ic, _, rfl, .inr (e2.sqT hic), ?_⟩
    refine ⟨_, _, rfl, rfl, ?_⟩
    refine q.of e2 (congrArg V.bl ?_)
    rw [List.length_map, Bool.eq_iff_iff, decide_eq_true_eq, decide_eq_true_eq]
    omega
end
end K25
set_option pp.maxSteps 1500
set_option pp.deepTerms false
/-! the law's reached states; all its estimates -/
namespace K25
open PySem PySem.Spec PyProof.Rows L2
def ClS (rows : List Row) (F : List Int) : Prop := ∀ r ∈ rows, r.1 ∈ F → r.2.2 ∈ F
structure Pass (rows : List Row) (st : Int) (F : List Int) : Prop where
  nd : F.Nodup
  hst : st ∈ F
  re : ∀ s ∈ F, RchS rows st s
theorem Pass.add {rows : List Row} {st : Int} {F : List Int} (p : Pass rows st F) {r : Row} (hr : r ∈ rows) (h1 : r.1 ∈ F) (h2 : r.2.2 ∉ F) : Pass rows st (F ++ [r.2.2]) where
  nd := by
    rw [List.nodup_append]
    exact ⟨p.nd, by simp, fun x hx y hy e => h2 (by rw [List.mem_singleton.mp hy] at e; rw [← e]; exact hx)⟩
  hst := List.mem_append_left _ p.hst
  re := fun s hs => (List.mem_append.mp hs).elim (p.re s) fun e => by rw [List.mem_singleton.mp e]; exact .step (p.re _ h1) (mem_succS.mpr ⟨r, hr, rfl, rfl⟩)
theorem Pass.ends {rows : List Row} {st : Int} {F : List Int} (p : Pass rows st F) (c : ClS rows F) (s : Int) : s ∈ F ↔ RchS rows st s :=
  ⟨p.re s, fun h => Reach.closed (C := fun s => s ∈ F) (fun s e => by rw [e]; exact p.hst) (fun a b ha hb => by
    obtain ⟨r, hr, e1, e2⟩ := mem_succS.mp hb
    rw [← e2]
    exact c r hr (by rw [e1]; exact ha)) h⟩
section
variable {P : Program} {w : World} {K : PySem.W.Frag} {mg : Str → Option Value} {base : Heap}
def sp__law_reached (K : PySem.W.Frag) : Sp := fun vs H Q _ => ∃ st : Int, ∃ sl us, ∃ rows : List Row, ∃ T : List Int, vs = [.int st, .ref sl] ∧ SqL K H sl us ∧ NkA K H us (rows.map kRow) ∧ T.length ≤ 20 ∧ st ∈ T ∧ (∀ r ∈ rows, r.1 ∈ T → r.2.2 ∈ T) ∧
  Ret H Q fun v H' => ∃ l, ∃ met : List Int, v = .ref l ∧ H' l = some (.lst (met.map V.int)) ∧ SrtBy .num met ∧ ∀ s, s ∈ met ↔ RchS rows st s
theorem sc__law_reached : FnScope ["_law_start", "_law_steps", "_law_found", "_law_state", "_law_step"] ["_law_start", "_law_steps"] d__law_reached.scope := ⟨rfl, rfl, rfl, by decide +kernel, rfl, by decide +kernel, by decide +kernel⟩
theorem ok__law_reached (T : Tp K mg) : Cal P w K mg base "_law_reached" 1 ["_law_start", "_law_steps"] (sp__law_reached K) := by
  refine ⟨_, T.glo 61, ?_⟩
  show Df P w K mg base (d__law_reached.path K) 1 ["_law_start", "_law_steps"] (sp__law_reached K)
  refine T.df 58 (d := d__law_reached) rfl rfl sc__law_reached (fun vs H Q E h => by obtain ⟨_, _, _, _, _, e, _⟩ := h; rw [e]; rfl) (fun _ _ _ _ _ _ us hl => match us, hl with | [_, _], _ => rfl) (fun cdv A outer s H vs Q E hr h => ?_)

  obtain ⟨st, sl, us, rows, TT, rfl, hs, ns, hT, h0, hc, q⟩ := h
  refine ⟨_, PSs.nox (pss_cons (ps_set (i := 2) sc__law_reached.nd rfl (Or.inl rfl) (pe_lst (pa_cons (pv 0) pa_nil)))
      (pss_cons (ps_for PassesOwn.never rfl (pi_range1 rfl (T.free 81) (pa_cons pe_int pa_nil)) (pg_name (i := 3) sc__law_reached.nd rfl (Or.inl rfl))
      (pss_one (ps_for PassesOwn.never rfl (pi_list (pv 1)) (pg_name (i := 4) sc__law_reached.nd rfl (Or.inl rfl))
      (pss_one (ps_if (PW.pt (pw_and (pt_cmpR (op_inK hr) (pe_ix ix_tup (pv 4) pe_int (fun _ _ => rfl)) (pv 2) (by with_unfolding_all rfl)) (pw_and1 (pt_cmpR (op_notInK hr) (pe_ix ix_tup (pv 4) pe_int (fun _ _ => rfl)) (pv 2) (by with_unfolding_all rfl)))))
      (pss_one (ps_expr (pe_bm PySem.F.plainAttrs_list PySem.F.slot_list_append PySem.F.type_list_append mt_append (pv 2) (pa_cons (pe_ix ix_tup (pv 4) pe_int (fun _ _ => rfl)) pa_nil)))) pss_nil)))))
      (pss_one (ps_ret (pe_callB (call_sortedK rfl hr) rfl (T.free 76) boot_sorted (pa_cons (pv 2) pa_nil)))))), ?_⟩
  refine ⟨_, rfl, by show 1 ≤ sizeLine; decide, fun F hF => ?_⟩
  have e1 := Ex.new (o := .lst [.int st]) hF
  have lus := ns.length
  rw [List.length_map] at lus
  have lim : ∀ {Fd : List Int}, Pass rows st Fd → Fd.length ≤ 20 := fun p => Nat.le_trans (nodup_subP num_inj p.nd fun s hs => RchS.sub h0 hc (p.re s hs)) hT
  refine ⟨100, rfl, by decide, by decide, ?_⟩
  refine for_it (walk_range (lo := 0) (n := 100)) (fun i σ H3 => ∃ v3 v4, ∃ Fd : List Int, σ = [some (.int st), some (.ref sl), some (.ref F), v3, v4] ∧ Ex H H3 ∧ H3 F = some (.lst (Fd.map V.int)) ∧ Pass rows st Fd ∧ (ClS rows Fd ∨ i + 1 ≤ Fd.length))
    ⟨_, _, [st], rfl, e1, upd_same, ⟨by simp, List.mem_singleton.mpr rfl, fun s hs => by rw [List.mem_singleton.mp hs]; exact .base rfl⟩, .inr (Nat.le_refl _)⟩ (fun _ _ _ _ _ => True.intro) (fun i x σ H3 H4 hi p y => ?_) (fun σ H3 p => ?_)
  · obtain ⟨v3, v4, Fd, rfl, e3, hF3, ps, cl⟩ := p
    obtain ⟨rfl, rfl⟩ := y
    refine ⟨_, rfl, sl, rfl, ⟨_, e3.sqL hs⟩, ?_⟩
    refine for_it (walk_list (xs := us)) (fun j σ H5 => ∃ v4, ∃ Fe : List Int, σ = [some (.int st), some (.ref sl), some (.ref F), some (.int (0 + (i : Int))), v4] ∧ Ex H H5 ∧ H5 F = some (.lst (Fe.map V.int)) ∧ Pass rows st Fe ∧ ((Fe = Fd ∧ ∀ r ∈ rows.take j, r.1 ∈ Fd → r.2.2 ∈ Fd) ∨ (¬ ClS rows Fd ∧ Fd.length + 1 ≤ Fe.length)))
      ⟨_, Fd, rfl, e3, hF3, ps, .inl ⟨rfl, fun r h => by simp at h⟩⟩ (fun j σ H5 _ p => by obtain ⟨v4, Fe, rfl, e, _⟩ := p; exact e.sqL hs) (fun j x σ H5 H6 hj p y => ?_) (fun σ H5 p => ?_)
    · obtain ⟨v4, Fe, rfl, e5, hF5, pe, cl2⟩ := p
      obtain ⟨rfl, hx⟩ := y
      obtain ⟨k, hk, nk⟩ := NkA.get ns hx
      rw [List.getElem?_map] at hk
      obtain ⟨r, hr0, rfl⟩ := Option.map_eq_some_iff.mp hk
      obtain ⟨ra, rfl, hra⟩ := Nk.row nk
      have hrm := List.mem_of_getElem? hr0
      have skip : (r.1 ∈ Fe → r.2.2 ∈ Fe) → ∃ w4, ∃ Fe : List Int, [some (V.int st), some (.ref sl), some (.ref F), some (.int (0 + (i : Int))), some (.ref ra)] = [some (V.int st), some (.ref sl), some (.ref F), some (.int (0 + (i : Int))), w4] ∧ Ex H H6 ∧ H6 F = some (.lst (Fe.map V.int)) ∧ Pass rows st Fe ∧ ((Fe = Fd ∧ ∀ r ∈ rows.take (j + 1), r.1 ∈ Fd → r.2.2 ∈ Fd) ∨ (¬ ClS rows Fd ∧ Fd.length + 1 ≤ Fe.length)) := fun hh => by
        refine ⟨_, Fe, rfl, e5, hF5, pe, ?_⟩
        rcases cl2 with ⟨rfl, c⟩ | c
        · refine .inl ⟨rfl, fun z hz => ?_⟩
          rw [take_next hr0] at hz
          rcases List.mem_append.mp hz with hz | hz
          · exact c z hz
          · rw [List.mem_singleton.mp hz]; exact hh
        · exact .inr c
      refine ⟨_, rfl, _, _, _, _, rfl, rfl, e5.sqT hra, rfl, _, rfl, F, .num r.1, Fe.map .num, rfl, .num _, SqK.l (SqL.of hF5) (NkA.ints _), Nat.zero_le _, _, rfl, itE (fun c1 => ?_) fun c1 => ?_⟩
      · have h1 : r.1 ∈ Fe := (mem_map_inj num_inj).mp (ofT c1)
        refine ⟨_, rfl, _, _, _, _, rfl, rfl, e5.sqT hra, rfl, _, rfl, F, .num r.2.2, Fe.map .num, rfl, .num _, SqK.l (SqL.of hF5) (NkA.ints _), Nat.zero_le _, _, rfl, itE (fun c2 => ?_) fun c2 => ?_⟩
        · have h2 : r.2.2 ∉ Fe := fun z => ofnT c2 ((mem_map_inj num_inj).mpr z)
          have l20 := lim pe
          refine ⟨_, rfl, .inl ⟨rfl, _, SqL.of hF5⟩, _, rfl, _, _, _, _, rfl, rfl, e5.sqT hra, rfl, F, _, _, rfl, rfl, hF5, Nat.lt_of_le_of_lt (show (Fe.map V.int).length ≤ 100 by rw [List.length_map]; omega) (by decide), ?_⟩
          refine ⟨_, Fe ++ [r.2.2], rfl, e5.mut hF, ?_, pe.add hrm h1 h2, .inr ?_⟩
          · rw [map_snoc]
            exact upd_same
          · rw [List.length_append, List.length_singleton]
            rcases cl2 with ⟨rfl, c⟩ | ⟨c, l⟩
            · exact ⟨fun z => h2 (z r hrm h1), Nat.le_refl _⟩
            · exact ⟨c, by omega⟩
        · exact skip fun _ => (mem_map_inj num_inj).mp (ofnF c2)
      · exact skip fun z => absurd ((mem_map_inj num_inj).mpr z) (ofF c1)
    · obtain ⟨v4, Fe, rfl, e5, hF5, pe, cl2⟩ := p
      rw [lus, List.take_length] at cl2
      refine ⟨_, _, Fe, rfl, e5, hF5, pe, ?_⟩
      rcases cl2 with ⟨rfl, c⟩ | ⟨c, l⟩
      · exact .inl c
      · rcases cl with cl | cl
        · exact absurd cl c
        · exact .inr (by omega)
  · obtain ⟨v3, v4, Fd, rfl, e3, hF3, ps, cl⟩ := p
    have l20 := lim ps
    have cl : ClS rows Fd := cl.elim id fun z => by omega
    refine ⟨_, rfl, F, _, Fd.map .num, rfl, SqL.of hF3, NkA.ints _, alk_nums _, fun k hk => (by obtain ⟨x, _, rfl⟩ := List.mem_map.mp hk; exact Nat.zero_le _), fun us' p' hus' hp' => ?_⟩
    rw [srt_map] at hus'
    obtain rfl := NkA.toInts hus'
    refine q.of (e3.to hp') ⟨p', srtBy .num Fd, rfl, upd_same, srtBy_srt num_inj (alk_nums _) ps.nd, fun s => ?_⟩
    rw [srtBy_mem]
    exact ps.ends cl s
/-- sorted(set(list(d.values()))) -/
theorem kinds_rd {i : Nat} {σ : L2.St} {H : Hp} {Q : VK} {d : Addr} {tab : Tab} (hv : σ[i]? = some (some (.ref d))) (hd : H d = some (.dK (tD tab))) (hl : tab.length ≤ 50) (h : ∀ p H', Ex H H' → H' p = some (.lst ((nmsOf tab).map V.str)) → Q (.ref p) H') :
    tCB (rSortSetK K w) (tCons (tCB (rSetK K w) (tCons (tListVals (tVar i)) tNil)) tNil) σ H Q := by
  refine ⟨.ref d, hv, d, _, rfl, .inl hd, fun p hp => ?_⟩
  have kv : (((tab.map (fun (p : Str × Str) => p.2)).map (Sum.inr : Str → Key)).map kV) = (tD tab).map (·.2) := by
    unfold tD
    rw [List.map_map, List.map_map, List.map_map]
    rfl
  have e1 := Ex.new (o := .lst ((tD tab).map (·.2))) hp
  refine ⟨p, (tab.map (fun (p : Str × Str) => p.2)).map Sum.inr, rfl, by rw [kv]; exact SqL.of upd_same, ?_, fun S hS => ?_⟩
  · rw [List.length_map, List.length_map]
    show _ < 4096
    omega
  have ei : insAll [] ((tab.map (fun (p : Str × Str) => p.2)).map (Sum.inr : Str → Key)) = (insAll [] (tab.map (fun (p : Str × Str) => p.2))).map Sum.inr := insAll_inr _ []
  have e2 := e1.to (o := SKO w S (insAll [] ((tab.map (fun (p : Str × Str) => p.2)).map (Sum.inr : Str → Key)))) hS
  refine ⟨S, (insAll [] (tab.map (fun (p : Str × Str) => p.2))).map Sum.inr, rfl, by rw [← ei]; exact upd_same, (by rw [toN_inr]; exact alk_texts _), fun us p hus hp => ?_⟩
  rw [toN_inr, srt_map] at hus
  obtain rfl := NkA.toStrs hus
  exact h p _ (e2.to hp) upd_same
theorem sqL_ne {H : Hp} {a d : Addr} {vs : List V} {o : HO} (h : SqL K H a vs) (n : a ≠ d) : SqL K (upd H d o) a vs := by
  rcases h with h | h
  · refine .inl ?_
    rcases h with h | ⟨q, h⟩
    · exact .inl (by rw [upd_ne n]; exact h)
    · exact .inr ⟨q, by rw [upd_ne n]; exact h⟩
  · exact .inr h
theorem LkA.other {H : Hp} {d : Addr} {ys zs : List V} (hd : H d = some (.lst ys)) : ∀ {kss : List (List NestedKey)} {vs : List V}, LkA K H vs kss → (∀ a, V.ref a ∈ vs → a ≠ d) → LkA K (upd H d (.lst zs)) vs kss
  | _, _, .nil, _ => .nil
  | _, _, .cons h n t, hn => .cons (sqL_ne h (hn _ List.mem_cons_self)) (NkA.upd hd lst_ne _ _ n) (LkA.other hd t fun a ha => hn a (List.mem_cons_of_mem _ ha))
def kE (E : List Pr) : List NestedKey := E.map kPr
theorem kE_inj (a b : List Pr) (h : kE a = kE b) : a = b := map_inj kPr_inj h
theorem kE_mem {G : List (List Pr)} {E : List Pr} : kE E ∈ G.map kE ↔ E ∈ G := by
  rw [List.mem_map]
  constructor
  · rintro ⟨F, hF, e⟩
    rw [← kE_inj _ _ e]
    exact hF
  · exact fun h => ⟨E, h, rfl⟩
/-- what the rows of sights are: tuples, not long -/
def RowsOk (K : PySem.W.Frag) (H : Hp) (rvs : List V) : Prop := ∀ (k : Nat) (v : V), rvs[k]? = some v → ∃ b xs, v = .ref b ∧ SqT K H b xs ∧ xs.length ≤ k
theorem RowsOk.mono {H H' : Hp} {rvs : List V} (h : RowsOk K H rvs) (e : Ex H H') : RowsOk K H' rvs := fun k v hv => let ⟨b, xs, e1, e2, e3⟩ := h k v hv; ⟨b, xs, e1, e.sqT e2, e3⟩
theorem RowsOk.other {H : Hp} {d : Addr} {ys zs : List V} {rvs : List V} (h : RowsOk K H rvs) (hd : H d = some (.lst ys)) : RowsOk K (upd H d (.lst zs)) rvs := fun k v hv => let ⟨b, xs, e1, e2, e3⟩ := h k v hv; ⟨b, xs, e1, sqT_upd e2 hd lst_ne, e3⟩
theorem RowsOk.snoc {H : Hp} {rvs : List V} (h : RowsOk K H rvs) {b : Addr} {xs : List V} (hb : SqT K H b xs) (hl : xs.length ≤ rvs.length) : RowsOk K H (rvs ++ [.ref b]) := fun k v hv => by
  rcases Nat.lt_or_ge k rvs.length with l | l
  · rw [List.getElem?_append_left l] at hv
    exact h k v hv
  · rw [List.getElem?_append_right l] at hv
    have h3 := (List.getElem?_eq_some_iff.mp hv).1
    simp only [List.length_cons, List.length_nil] at h3
    have e0 : k - rvs.length = 0 := by omega
    rw [e0] at hv
    cases hv
    exact ⟨b, xs, rfl, hb, by omega⟩
def sp__law_all_estimates (K : PySem.W.Frag) : Sp := fun vs H Q _ => ∃ st : Int, ∃ sl fp wp rows t tab, ∃ U : List Pr, vs = [.int st, .ref sl, .ref fp, .ref wp, .int 120] ∧ LawIn K H sl fp wp rows t tab ∧ Uni rows t U ∧ (st, []) ∈ U ∧ tab.length ≤ 50 ∧
  Ret H Q fun v H' => ∃ r F R vs, ∃ G : List (List Pr), v = .ref r ∧ H' r = some (.lst [.ref F, .ref R]) ∧ H' F = some (.lst vs) ∧ LkA K H' vs (G.map kE) ∧ G.length ≤ 200 ∧ (∀ E ∈ G, ReE rows t tab U st (nmsOf tab) E) ∧ (120 < G.length ∨ (G.Nodup ∧ ∀ E, ReE rows t tab U st (nmsOf tab) E → E ∈ G))
theorem sc__law_all_estimates : FnScope ["_law_start", "_law_steps", "_law_table", "_law_sights_here", "_law_most", "_law_kinds", "_law_found", "_law_rows", "_law_at", "_law_sight", "_law_later_here"] ["_law_start", "_law_steps", "_law_table", "_law_sights_here", "_law_most"] d__law_all_estimates.scope := ⟨rfl, rfl, rfl, by decide +kernel, rfl, by decide +kernel, by decide +kernel⟩
theorem ok__law_all_estimates (T : Tp K mg) : Cal P w K mg base "_law_all_estimates" 4 ["_law_start", "_law_steps", "_law_table", "_law_sights_here", "_law_most"] (sp__law_all_estimates K) := by
  refine ⟨_, T.glo 67, ?_⟩
  show Df P w K mg base (d__law_all_estimates.path K) 4 ["_law_start", "_law_steps", "_law_table", "_law_sights_here", "_law_most"] (sp__law_all_estimates K)
  refine T.df 64 (d := d__law_all_estimates) rfl rfl sc__law_all_estimates (fun vs H Q E h => by obtain ⟨_, _, _, _, _, _, _, _, e, _⟩ := h; rw [e]; rfl) (fun _ _ _ _ _ _ us hl => match us, hl with | [_, _, _, _, _], _ => rfl) (fun cdv A outer s H vs Q E hr h => ?_)

  obtain ⟨st, sl, fp, wp, rows, t, tab, U, rfl, hI, u, hU, htl, q⟩ := h
  refine ⟨_, PSs.nox (pss_cons (ps_set (i := 5) sc__law_all_estimates.nd rfl (Or.inl rfl) (pe_callB (call_sortedSetK rfl hr) rfl (T.free 76) boot_sorted (pa_cons (pe_callTy (call_setK rfl hr) rfl (T.free 79) boot_set (pa_cons (pe_listVals rfl hr rfl (T.free 77) (pv 3)) pa_nil)) pa_nil)))
      (pss_cons (ps_set (i := 6) sc__law_all_estimates.nd rfl (Or.inl rfl) (pe_lst (pa_cons (pe_cal (ok__law_estimate T) hr (by decide) rfl (pa_cons (pe_lst (pa_cons (pe_tup (pa_cons (pv 0) (pa_cons (pe_tup pa_nil) pa_nil))) pa_nil)) (pa_cons (pv 1) (pa_cons (pv 2) (pa_cons (pv 3) pa_nil))))) pa_nil)))
      (pss_cons (ps_set (i := 7) sc__law_all_estimates.nd rfl (Or.inl rfl) (pe_lst (pa_cons (pe_tup pa_nil) pa_nil)))
      (pss_cons (ps_for PassesOwn.never rfl (pi_range1 rfl (T.free 81) (pa_cons (pv 4) pa_nil)) (pg_name (i := 8) sc__law_all_estimates.nd rfl (Or.inl rfl))
      (pss_one (ps_if (PW.pt (pw_and (pt_cmpR op_lt (pv 8) (pe_callB call_len_seq rfl (T.free 74) boot_len (pa_cons (pv 6) pa_nil)) (nomark _)) (pw_and1 (pt_cmpR op_le (pe_callB call_len_seq rfl (T.free 74) boot_len (pa_cons (pv 6) pa_nil)) (pv 4) (nomark _)))))
      (pss_one (ps_for PassesOwn.never rfl (pi_list (pv 5)) (pg_name (i := 9) sc__law_all_estimates.nd rfl (Or.inl rfl))
      (pss_cons (ps_set (i := 10) sc__law_all_estimates.nd rfl (Or.inl rfl) (pe_cal (ok__law_later T) hr (by decide) rfl (pa_cons (pe_ix ix_list (pv 6) (pv 8) (fun _ _ => rfl)) (pa_cons (pv 1) (pa_cons (pv 2) (pa_cons (pv 3) (pa_cons (pv 9) pa_nil)))))))
      (pss_one (ps_if (PW.pt (pw_and (pt_cmpR op_gt (pe_callB call_len_seq rfl (T.free 74) boot_len (pa_cons (pv 10) pa_nil)) pe_int (nomark _)) (pw_and1 (pt_cmpR (op_notInL hr) (pv 10) (pv 6) (by with_unfolding_all rfl)))))
      (pss_cons (ps_expr (pe_bm PySem.F.plainAttrs_list PySem.F.slot_list_append PySem.F.type_list_append mt_append (pv 6) (pa_cons (pv 10) pa_nil)))
      (pss_one (ps_expr (pe_bm PySem.F.plainAttrs_list PySem.F.slot_list_append PySem.F.type_list_append mt_append (pv 7) (pa_cons (pe_op op_catA (pe_ix ix_list (pv 7) (pv 8) (fun _ _ => rfl)) (pe_tup (pa_cons (pv 9) pa_nil))) pa_nil))))) pss_nil))))) pss_nil)))
      (pss_one (ps_ret (pe_lst (pa_cons (pv 6) (pa_cons (pv 7) pa_nil))))))))), ?_⟩
  refine kinds_rd rfl hI.sg htl fun lK H1 e1 hK => ?_
  have I1 := hI.mono e1
  have nk50 : (nmsOf tab).length ≤ 50 := by
    unfold nmsOf
    rw [srtBy_len]
    have h := insAll_len (tab.map (·.2)) []
    rw [List.length_map] at h
    simp only [List.length_nil] at h
    omega
  refine ⟨_, rfl, by show 0 ≤ sizeLine; decide, fun t1 ht1 => ?_⟩
  refine ⟨by show 2 ≤ sizeLine; decide, fun t2 ht2 => ?_⟩
  refine ⟨by show 1 ≤ sizeLine; decide, fun l0 hl0 => ?_⟩
  have x0 := ((Ex.new (o := .tup []) ht1).to (o := .tup [.int st, .ref t1]) ht2).to (o := .lst [.ref t2]) hl0
  have n2 : Nk K (upd (upd (upd H1 t1 (.tup [])) t2 (.tup [.int st, .ref t1])) l0 (.lst [.ref t2])) (.ref t2) (kPr (st, [])) := Nk.mono (Ex.new hl0) _ _ (Nk.ofPr (p := (st, [])) (SqT.of upd_same) ((Ex.new ht2).sqT (SqT.of upd_same)))
  refine ⟨_, rfl, _, rfl, _, rfl, l0, sl, fp, wp, _, rows, t, tab, [(st, [])], U, rfl, SqL.of upd_same, .cons n2 .nil, I1.mono x0, u, fun p hp => by rw [List.mem_singleton.mp hp]; exact hU, fun v3 H3 e3 ⟨r0, us0, ev, hn0, h0, n0⟩ => ?_⟩
  subst ev
  have ef : (cloL rows t tab U fun p => p ∈ [(st, [])]) = firstE rows t tab U st := cloL_congr u fun p => List.mem_singleton
  rw [ef] at n0
  refine ⟨by show 1 ≤ sizeLine; decide, fun F hF => ?_⟩
  refine ⟨by show 0 ≤ sizeLine; decide, fun t4 ht4 => ?_⟩
  refine ⟨by show 1 ≤ sizeLine; decide, fun R hR => ?_⟩
  have x1 := ((Ex.new (o := .lst [.ref r0]) hF).to (o := .tup []) ht4).to (o := .lst [.ref t4]) hR
  have eA := ((e1.trans x0).trans e3)
  have e5 := eA.trans x1
  have hF0 : H F = none := eA.free hF
  have xF := Ex.new (o := .lst [.ref r0]) hF
  have hR0 : H R = none := ((eA.trans xF).to (o := .tup []) ht4).free hR
  have nFR : F ≠ R := ne_of_none ((Ex.new (o := .tup []) ht4) _ _ (upd_same (a := F) (o := .lst [.ref r0]))) hR
  have nr0F : r0 ≠ F := ne_of_none h0 hF
  have nr0R : r0 ≠ R := ne_of_none (((xF.to (o := .tup []) ht4)) _ _ h0) hR
  have hK1 := (x0.trans e3) _ _ hK
  have nKF : lK ≠ F := ne_of_none hK1 hF
  have nKR : lK ≠ R := ne_of_none (((xF.to (o := .tup []) ht4)) _ _ hK1) hR
  have g0 : LkA K (upd (upd (upd H3 F (.lst [.ref r0])) t4 (.tup [])) R (.lst [.ref t4])) [.ref r0] ([firstE rows t tab U st].map kE) := .cons (SqL.of (x1 _ _ h0)) (NkA.mono x1 _ _ n0) .nil
  have rr0 : RowsOk K (upd (upd (upd H3 F (.lst [.ref r0])) t4 (.tup [])) R (.lst [.ref t4])) [.ref t4] := fun k v hv => by
    cases k with
    | zero => cases hv; exact ⟨t4, [], rfl, (Ex.new hR).sqT (SqT.of upd_same), Nat.le_refl _⟩
    | succ k => simp at hv
  have b0 : Bfs (succE rows t tab U (nmsOf tab)) (fun E => E = firstE rows t tab U st) 0 [] [firstE rows t tab U st] := Bfs.start (by simp) (fun p => by simp)
  refine ⟨_, rfl, 120, rfl, by decide, by decide, ?_⟩
  refine for_it (walk_range (lo := 0) (n := 120)) (fun i σ H4 => ∃ v8 v9 v10 vs rvs, ∃ G : List (List Pr), σ = [some (.int st), some (.ref sl), some (.ref fp), some (.ref wp), some (.int 120), some (.ref lK), some (.ref F), some (.ref R), v8, v9, v10] ∧ Ex H H4 ∧ H4 lK = some (.lst ((nmsOf tab).map V.str)) ∧ H4 F = some (.lst vs) ∧ LkA K H4 vs (G.map kE) ∧ (∀ a, V.ref a ∈ vs → a ≠ F ∧ a ≠ R) ∧ H4 R = some (.lst rvs) ∧ rvs.length = G.length ∧ RowsOk K H4 rvs ∧ G.length ≤ 171 ∧ ((120 < G.length ∧ ∀ E ∈ G, ReE rows t tab U st (nmsOf tab) E) ∨ Bfs (succE rows t tab U (nmsOf tab)) (fun E => E = firstE rows t tab U st) i [] G))
    ⟨_, _, _, [.ref r0], [.ref t4], [firstE rows t tab U st], rfl, e5, x1 _ _ hK1, ((Ex.new (o := .tup []) ht4).to (o := .lst [.ref t4]) hR) _ _ upd_same, g0, fun a ha => (by cases List.mem_singleton.mp ha; exact ⟨nr0F, nr0R⟩), upd_same, rfl, rr0, by show 1 ≤ 171; decide, .inr b0⟩ (fun _ _ _ _ _ => True.intro) (fun i x σ H4 H5 hi p y => ?_) (fun σ H4 p => ?_)
  · clear hF hR x1 xF h0 hK1 g0 rr0 b0
    obtain ⟨v8, v9, v10, vs, rvs, G, rfl, e6, hK6, hF6, lkG, neG, hR6, lR, rok, lim, st6⟩ := p
    obtain ⟨rfl, rfl⟩ := y
    have lv := lkG.length
    rw [List.length_map] at lv
    have skip : (120 < G.length ∨ G.length ≤ i) → ∃ v8 v9' v10' vs rvs, ∃ G : List (List Pr), [some (V.int st), some (.ref sl), some (.ref fp), some (.ref wp), some (.int 120), some (.ref lK), some (.ref F), some (.ref R), some (.int (0 + (i : Int))), v9, v10] = [some (V.int st), some (.ref sl), some (.ref fp), some (.ref wp), some (.int 120), some (.ref lK), some (.ref F), some (.ref R), v8, v9', v10'] ∧ Ex H H5 ∧ H5 lK = some (.lst ((nmsOf tab).map V.str)) ∧ H5 F = some (.lst vs) ∧ LkA K H5 vs (G.map kE) ∧ (∀ a, V.ref a ∈ vs → a ≠ F ∧ a ≠ R) ∧ H5 R = some (.lst rvs) ∧ rvs.length = G.length ∧ RowsOk K H5 rvs ∧ G.length ≤ 171 ∧ ((120 < G.length ∧ ∀ E ∈ G, ReE rows t tab U st (nmsOf tab) E) ∨ Bfs (succE rows t tab U (nmsOf tab)) (fun E => E = firstE rows t tab U st) (i + 1) [] G) := fun hh => by
      refine ⟨_, _, _, vs, rvs, G, rfl, e6, hK6, hF6, lkG, neG, hR6, lR, rok, lim, ?_⟩
      rcases st6 with c | b
      · exact .inl c
      · rcases hh with h | h
        · exact .inl ⟨h, fun E hE => b.reach E hE⟩
        · exact .inr (b.skip h)
    refine ⟨_, rfl, _, rfl, F, vs, rfl, .inl (SqL.of hF6), _, _, rfl, rfl, _, rfl, itE (fun cc => ?_) fun cc => ?_⟩
    · refine ⟨_, rfl, F, vs, rfl, .inl (SqL.of hF6), _, rfl, _, _, rfl, rfl, _, rfl, itE (fun c2 => ?_) fun c2 => ?_⟩
      · have hlt : i < G.length := by have h := ofT cc; omega
        have h120 : G.length ≤ 120 := by have h := ofT c2; omega
        have bf : Bfs (succE rows t tab U (nmsOf tab)) (fun E => E = firstE rows t tab U st) i [] G := st6.elim (fun z => by omega) id
        clear skip st6
        have hget : G[i]? = some G[i] := List.getElem?_eq_getElem hlt
        generalize G[i] = E at hget
        refine ⟨_, rfl, lK, rfl, ⟨_, SqL.of hK6⟩, ?_⟩
        refine for_it (walk_list (xs := (nmsOf tab).map V.str)) (fun j σ H7 => ∃ v9 v10 vs rvs, ∃ G : List (List Pr), σ = [some (.int st), some (.ref sl), some (.ref fp), some (.ref wp), some (.int 120), some (.ref lK), some (.ref F), some (.ref R), some (.int (0 + (i : Int))), v9, v10] ∧ Ex H H7 ∧ H7 lK = some (.lst ((nmsOf tab).map V.str)) ∧ H7 F = some (.lst vs) ∧ LkA K H7 vs (G.map kE) ∧ (∀ a, V.ref a ∈ vs → a ≠ F ∧ a ≠ R) ∧ H7 R = some (.lst rvs) ∧ rvs.length = G.length ∧ RowsOk K H7 rvs ∧ G.length ≤ 120 + j ∧ Bfs (succE rows t tab U (nmsOf tab)) (fun E => E = firstE rows t tab U st) i (succE rows t tab U ((nmsOf tab).take j) E) G ∧ G[i]? = some E)
          ⟨_, _, vs, rvs, G, rfl, e6, hK6, hF6, lkG, neG, hR6, lR, rok, h120, bf, hget⟩ (fun j σ H7 _ p => by obtain ⟨_, _, _, _, _, _, _, h, _⟩ := p; exact SqL.of h) (fun j x σ H7 H8 hj p y => ?_) (fun σ H7 p => ?_)
        · clear e6 hK6 hF6 lkG neG hR6 lR rok lim bf hget lv cc c2 hlt h120
          obtain ⟨v9, v10, vs, rvs, G, rfl, e6, hK6, hF6, lkG, neG, hR6, lR, rok, lim, bf, hget⟩ := p
          obtain ⟨rfl, hx⟩ := y
          rw [List.getElem?_map] at hx
          obtain ⟨s, hs, rfl⟩ := Option.map_eq_some_iff.mp hx
          have hsm := List.mem_of_getElem? hs
          have jn := (List.getElem?_eq_some_iff.mp hs).1
          obtain ⟨ae, use, hae, hsq, nE⟩ := lkG.get (show (G.map kE)[i]? = some (kE E) by rw [List.getElem?_map, hget]; rfl)
          have ati : atI vs ((0 : Int) + (i : Int)) = some (.ref ae) := by
            rw [show (0 : Int) + (i : Int) = ((i : Nat) : Int) by omega]
            exact atI_nat hae
          have rE := bf.reach E (List.mem_of_getElem? hget)
          have I6 := hI.mono e6
          have iG := (List.getElem?_eq_some_iff.mp hget).1
          refine ⟨_, rfl, _, rfl, _, _, _, .ref ae, rfl, rfl, SqL.of hF6, ati, _, rfl, _, rfl, _, rfl, _, rfl, ae, sl, fp, wp, use, rows, t, tab, E, U, s, rfl, hsq, nE, I6, u, ReE.sub rE, Nat.lt_trans (ReE.len u rE) (by decide), fun v11 H9 e9 ⟨r9, us9, ev, hn9, h9, n9⟩ => ?_⟩
          subst ev
          have e69 := e6.trans e9
          have hK9 := e9 _ _ hK6
          have hF9 := e9 _ _ hF6
          have hR9 := e9 _ _ hR6
          have lk9 := LkA.mono e9 lkG
          have rok9 := rok.mono e9
          have nr9F : r9 ≠ F := (ne_of_none hF6 hn9).symm
          have nr9R : r9 ≠ R := (ne_of_none hR6 hn9).symm
          have l9 := n9.length
          rw [List.length_map] at l9
          have fin : succE rows t tab U ((nmsOf tab).take (j + 1)) E = succE rows t tab U ((nmsOf tab).take j) E ∨ (succE rows t tab U ((nmsOf tab).take (j + 1)) E = succE rows t tab U ((nmsOf tab).take j) E ++ [laterE rows t tab U s E] ∧ laterE rows t tab U s E ∈ G) →
            ∃ v9 v10 vs rvs, ∃ G : List (List Pr), [some (V.int st), some (.ref sl), some (.ref fp), some (.ref wp), some (.int 120), some (.ref lK), some (.ref F), some (.ref R), some (.int (0 + (i : Int))), some (.str s), some (.ref r9)] = [some (V.int st), some (.ref sl), some (.ref fp), some (.ref wp), some (.int 120), some (.ref lK), some (.ref F), some (.ref R), some (.int (0 + (i : Int))), v9, v10] ∧ Ex H H9 ∧ H9 lK = some (.lst ((nmsOf tab).map V.str)) ∧ H9 F = some (.lst vs) ∧ LkA K H9 vs (G.map kE) ∧ (∀ a, V.ref a ∈ vs → a ≠ F ∧ a ≠ R) ∧ H9 R = some (.lst rvs) ∧ rvs.length = G.length ∧ RowsOk K H9 rvs ∧ G.length ≤ 120 + (j + 1) ∧ Bfs (succE rows t tab U (nmsOf tab)) (fun E => E = firstE rows t tab U st) i (succE rows t tab U ((nmsOf tab).take (j + 1)) E) G ∧ G[i]? = some E := fun hc => by
            refine ⟨_, _, vs, rvs, G, rfl, e69, hK9, hF9, lk9, neG, hR9, lR, rok9, by omega, ?_, hget⟩
            rcases hc with hc | ⟨hc, hm⟩
            · rw [hc]; exact bf
            · rw [hc]; exact bf.old hm
          refine ⟨_, rfl, r9, us9, rfl, .inl (SqL.of h9), _, _, rfl, rfl, _, rfl, itE (fun c3 => ?_) fun c3 => ?_⟩
          · have hL : laterE rows t tab U s E ≠ [] := fun z => by
              rw [z] at l9
              have h := ofT c3
              simp only [List.length_nil] at l9
              omega
            have es : succE rows t tab U ((nmsOf tab).take (j + 1)) E = succE rows t tab U ((nmsOf tab).take j) E ++ [laterE rows t tab U s E] := by rw [take_next hs, succE_snoc_y hL]
            refine ⟨_, rfl, _, rfl, F, r9, vs, us9, kE (laterE rows t tab U s E), G.map kE, rfl, rfl, SqL.of hF9, lk9, SqL.of h9, n9, fun k hk => Nat.le_trans (all_depth kPr_depth k hk) (by decide), _, rfl, itE (fun c4 => ?_) fun c4 => ?_⟩
            · have hnew : laterE rows t tab U s E ∉ G := fun z => ofnT c4 (kE_mem.mpr z)
              have lv := lkG.length
              rw [List.length_map] at lv
              have bn := bf.new (Nat.le_of_lt iG) (List.mem_of_getElem? hget) hnew (mem_succE.mpr ⟨s, hsm, rfl, hL⟩)
              refine ⟨_, rfl, .inl ⟨rfl, _, SqL.of hF9⟩, _, rfl, F, vs, _, rfl, rfl, hF9, Nat.lt_of_le_of_lt (show vs.length ≤ 1000 by omega) (by decide), ?_⟩
              have e10 := e69.mut (o := .lst (vs ++ [.ref r9])) hF0
              have hK10 := (upd_ne (o := .lst (vs ++ [.ref r9])) nKF).trans hK9
              have hR10 := (upd_ne (o := .lst (vs ++ [.ref r9])) nFR.symm).trans hR9
              have rok10 := rok9.other (zs := vs ++ [.ref r9]) hF9
              have lk10 : LkA K (upd H9 F (.lst (vs ++ [.ref r9]))) (vs ++ [.ref r9]) ((G ++ [laterE rows t tab U s E]).map kE) := by
                rw [List.map_append]
                exact LkA.append (LkA.other hF9 lk9 fun a ha => (neG a ha).1) (.cons (sqL_ne (SqL.of h9) nr9F) (NkA.other n9 hF9) .nil)
              have ne10 : ∀ a, V.ref a ∈ vs ++ [V.ref r9] → a ≠ F ∧ a ≠ R := fun a ha => by
                rcases List.mem_append.mp ha with ha | ha
                · exact neG a ha
                · cases List.mem_singleton.mp ha
                  exact ⟨nr9F, nr9R⟩
              have irv : i < rvs.length := by omega
              have hgr : rvs[i]? = some rvs[i] := List.getElem?_eq_getElem irv
              obtain ⟨rb, rxs, erb, hrb, lrb⟩ := rok10 i _ hgr
              rw [erb] at hgr
              have atr : atI rvs ((0 : Int) + (i : Int)) = some (.ref rb) := by
                rw [show (0 : Int) + (i : Int) = ((i : Nat) : Int) by omega]
                exact atI_nat hgr
              refine ⟨_, rfl, .inl ⟨rfl, _, SqL.of hR10⟩, _, rfl, _, rfl, _, _, _, .ref rb, rfl, rfl, SqL.of hR10, atr, _, rfl, by show 1 ≤ sizeLine; decide, fun t7 ht7 => ?_⟩
              have x7 := Ex.new (o := .tup [.str s]) ht7
              refine catA (x7.sqT hrb) (SqT.of upd_same) (Nat.le_trans (show rxs.length + 1 ≤ 1000 by omega) (by decide)) fun pr H11 e11 hpr => ?_
              have x11 := x7.trans e11
              have hR11 := x11 _ _ hR10
              refine ⟨R, rvs, _, rfl, rfl, hR11, Nat.lt_of_le_of_lt (show rvs.length ≤ 1000 by omega) (by decide), ?_⟩
              have hF11 : H11 F = some (.lst (vs ++ [.ref r9])) := x11 _ _ upd_same
              refine ⟨_, _, vs ++ [.ref r9], rvs ++ [.ref pr], G ++ [laterE rows t tab U s E], rfl, (e10.trans x11).mut hR0, (upd_ne nKR).trans (x11 _ _ hK10), (upd_ne nFR).trans hF11, LkA.other hR11 (LkA.mono x11 lk10) (fun a ha => (ne10 a ha).2), ne10, upd_same, ?_, ?_, ?_, ?_, ?_⟩
              · rw [List.length_append, List.length_append, lR]; rfl
              · exact ((rok10.mono x11).snoc hpr (by rw [List.length_append, List.length_singleton]; omega)).other hR11
              · rw [List.length_append, List.length_singleton]; omega
              · rw [es]; exact bn
              · rw [List.getElem?_append_left iG]; exact hget
            · exact fin (.inr ⟨es, kE_mem.mp (ofnF c4)⟩)
          · have hL : laterE rows t tab U s E = [] := by
              have h := ofF c3
              exact List.length_eq_zero_iff.mp (by omega)
            exact fin (.inl (by rw [take_next hs, succE_snoc_n hL]))
        · clear e6 hK6 hF6 lkG neG hR6 lR rok lim bf hget lv cc c2 hlt h120
          obtain ⟨v9, v10, vs, rvs, G, rfl, e6, hK6, hF6, lkG, neG, hR6, lR, rok, lim, bf, hget⟩ := p
          rw [List.length_map] at lim
          rw [List.length_map, List.take_length] at bf
          exact ⟨_, _, _, vs, rvs, G, rfl, e6, hK6, hF6, lkG, neG, hR6, lR, rok, by omega, .inr (bf.next hget fun q hq => hq)⟩
      · exact skip (.inl (by have h := ofF c2; omega))
    · exact skip (.inr (by have h := ofF cc; omega))
  · obtain ⟨v8, v9, v10, vs, rvs, G, rfl, e6, hK6, hF6, lkG, neG, hR6, lR, rok, lim, st6⟩ := p
    refine ⟨_, rfl, _, rfl, by show 2 ≤ sizeLine; decide, fun rr hrr => ?_⟩
    have xr := Ex.new (o := .lst [.ref F, .ref R]) hrr
    refine q.of (e6.to hrr) ⟨rr, F, R, vs, G, rfl, upd_same, xr _ _ hF6, LkA.mono xr lkG, by omega, ?_, ?_⟩
    · rcases st6 with c | b
      · exact c.2
      · exact fun E hE => b.reach E hE
    · rcases st6 with c | b
      · exact .inl c.1
      · rcases Nat.lt_or_ge 120 G.length with l | l
        · exact .inl l
        · exact .inr ⟨b.nd, fun E hE => (b.ends l E).mpr hE⟩
end
end K25
/-! the law's looks at a row, at a veil -/
namespace K25
open PySem PySem.Spec PyProof.Rows L2
section
variable {P : Program} {w : World} {K : PySem.W.Frag} {mg : Str → Option Value} {base : Heap}
theorem first_rd {i j1 j2 j3 : Nat} {σ : L2.St} {H : Hp} {Q : VK} {st : Int} {sl fp wp : Addr} {rows : List Row} {t tab : Tab} {U : List Pr} (h0 : σ[i]? = some (some (.int st))) (h1 : σ[j1]? = some (some (.ref sl))) (h2 : σ[j2]? = some (some (.ref fp))) (h3 : σ[j3]? = some (some (.ref wp)))
    (hI : LawIn K H sl fp wp rows t tab) (u : Uni rows t U) (hU : (st, []) ∈ U) (h : ∀ v H', Ex H H' → GivesN K H (firstE rows t tab U st) v H' → Q v H') :
    tCall (sp__law_estimate K) [] (fun _ _ _ => False) (tCons (tLst (tCons (tTup (tCons (tVar i) (tCons (tTup tNil) tNil))) tNil)) (tCons (tVar j1) (tCons (tVar j2) (tCons (tVar j3) tNil)))) σ H Q := by
  refine ⟨_, h0, by show 0 ≤ sizeLine; decide, fun t1 ht1 => ?_⟩
  refine ⟨by show 2 ≤ sizeLine; decide, fun t2 ht2 => ?_⟩
  refine ⟨by show 1 ≤ sizeLine; decide, fun l0 hl0 => ?_⟩
  have x0 := ((Ex.new (o := .tup []) ht1).to (o := .tup [.int st, .ref t1]) ht2).to (o := .lst [.ref t2]) hl0
  have n2 : Nk K (upd (upd (upd H t1 (.tup [])) t2 (.tup [.int st, .ref t1])) l0 (.lst [.ref t2])) (.ref t2) (kPr (st, [])) := Nk.mono (Ex.new hl0) _ _ (Nk.ofPr (p := (st, [])) (SqT.of upd_same) ((Ex.new ht2).sqT (SqT.of upd_same)))
  refine ⟨_, h1, _, h2, _, h3, l0, sl, fp, wp, _, rows, t, tab, [(st, [])], U, rfl, SqL.of upd_same, .cons n2 .nil, hI.mono x0, u, fun p hp => by rw [List.mem_singleton.mp hp]; exact hU, fun v3 H3 e3 ⟨r0, us0, ev, hn0, h0, n0⟩ => ?_⟩
  have ef : (cloL rows t tab U fun p => p ∈ [(st, [])]) = firstE rows t tab U st := cloL_congr u fun p => List.mem_singleton
  rw [ef] at n0
  exact h _ _ (x0.trans e3) ⟨r0, us0, ev, x0.free hn0, h0, n0⟩
def sp__law_tells (K : PySem.W.Frag) : Sp := fun vs H Q _ => ∃ a, ∃ ss : List Str, ∃ st : Int, ∃ sl fp wp rows t tab, ∃ f : Str, ∃ U : List Pr, vs = [.ref a, .int st, .ref sl, .ref fp, .ref wp, .str f] ∧ SqT K H a (ss.map V.str) ∧ LawIn K H sl fp wp rows t tab ∧ Uni rows t U ∧ (st, []) ∈ U ∧ (∀ s ∈ ss, NmOk s) ∧
  (∀ i, i < ss.length → sureB f (estR rows t tab U st (ss.take i)) = false ∧ estR rows t tab U st (ss.take (i + 1)) ≠ []) ∧ sureB f (estR rows t tab U st ss) = true ∧ Ret H Q fun v H' => v = .bl true
theorem sc__law_tells : FnScope ["_law_row_here", "_law_start", "_law_steps", "_law_table", "_law_sights_here", "_law_fault", "_law_pairs", "_law_sight"] ["_law_row_here", "_law_start", "_law_steps", "_law_table", "_law_sights_here", "_law_fault"] d__law_tells.scope := ⟨rfl, rfl, rfl, by decide +kernel, rfl, by decide +kernel, by decide +kernel⟩
theorem ok__law_tells (T : Tp K mg) : Cal P w K mg base "_law_tells" 4 ["_law_row_here", "_law_start", "_law_steps", "_law_table", "_law_sights_here", "_law_fault"] (sp__law_tells K) := by
  refine ⟨_, T.glo 71, ?_⟩
  show Df P w K mg base (d__law_tells.path K) 4 ["_law_row_here", "_law_start", "_law_steps", "_law_table", "_law_sights_here", "_law_fault"] (sp__law_tells K)
  refine T.df 68 (d := d__law_tells) rfl rfl sc__law_tells (fun vs H Q E h => by obtain ⟨_, _, _, _, _, _, _, _, _, _, _, e, _⟩ := h; rw [e]; rfl) (fun _ _ _ _ _ _ us hl => match us, hl with | [_, _, _, _, _, _], _ => rfl) (fun cdv A outer s H vs Q E hr h => ?_)

  obtain ⟨a, ss, st, sl, fp, wp, rows, t, tab, f, U, rfl, ha, hI, u, hU, hn, hb, hlast, q⟩ := h
  refine ⟨_, PSs.nox (pss_cons (ps_if (pt_not (pt_val (pe_callB call_isi rfl (T.free 75) boot_isinstance (pa_cons (pv 0) (pa_cons (pe_bltn (v := .ty "tuple") rfl (T.free 80) boot_tuple rfl) pa_nil)))))
      (pss_one (ps_ret pe_bl)) pss_nil)
      (pss_cons (ps_set (i := 6) sc__law_tells.nd rfl (Or.inl rfl) (pe_cal (ok__law_estimate T) hr (by decide) rfl (pa_cons (pe_lst (pa_cons (pe_tup (pa_cons (pv 1) (pa_cons (pe_tup pa_nil) pa_nil))) pa_nil)) (pa_cons (pv 2) (pa_cons (pv 3) (pa_cons (pv 4) pa_nil))))))
      (pss_cons (ps_for PassesOwn.never rfl (pi_tup (pv 0)) (pg_name (i := 7) sc__law_tells.nd rfl (Or.inl rfl))
      (pss_cons (ps_if (PW.pt (pw_or (pt_not (pt_val (pe_cal (ok__law_is_name T) hr (by decide) rfl (pa_cons (pv 7) pa_nil)))) (pw_or1 (pt_cmpR op_eq (pe_callB call_len_seq rfl (T.free 74) boot_len (pa_cons (pe_ix ix_tup (pe_cal (ok__law_split T) hr (by decide) rfl (pa_cons (pv 6) (pa_cons (pv 5) pa_nil))) pe_int (fun _ _ => rfl)) pa_nil)) pe_int (nomark _)))))
      (pss_one (ps_ret pe_bl)) pss_nil)
      (pss_cons (ps_set (i := 6) sc__law_tells.nd rfl (Or.inl rfl) (pe_cal (ok__law_later T) hr (by decide) rfl (pa_cons (pv 6) (pa_cons (pv 2) (pa_cons (pv 3) (pa_cons (pv 4) (pa_cons (pv 7) pa_nil)))))))
      (pss_one (ps_if (pt_cmpR op_eq (pe_callB call_len_seq rfl (T.free 74) boot_len (pa_cons (pv 6) pa_nil)) pe_int (nomark _))
      (pss_one (ps_ret pe_bl)) pss_nil)))))
      (pss_one (ps_ret (pe_cmpR op_eq (pe_callB call_len_seq rfl (T.free 74) boot_len (pa_cons (pe_ix ix_tup (pe_cal (ok__law_split T) hr (by decide) rfl (pa_cons (pv 6) (pa_cons (pv 5) pa_nil))) pe_int (fun _ _ => rfl)) pa_nil)) pe_int (nomark _))))))), ?_⟩
  refine ⟨_, rfl, .ref a, .ty "tuple", _, _, true, rfl, .ty _, tyx_T ha, kit_ty (by decide +kernel), true, rfl, iteF ?_⟩
  refine first_rd rfl rfl rfl rfl hI u hU fun v1 H1 e1 ⟨r1, us1, ev, hn1, h1, n1⟩ => ?_
  subst ev
  refine ⟨_, rfl, a, rfl, ⟨_, e1.sqT ha⟩, ?_⟩
  refine for_it (walk_tup (xs := ss.map V.str)) (fun i σ H3 => ∃ v7 r us, σ = [some (.ref a), some (.int st), some (.ref sl), some (.ref fp), some (.ref wp), some (.str f), some (.ref r), v7] ∧ Ex H H3 ∧ H3 r = some (.lst us) ∧ NkA K H3 us ((estR rows t tab U st (ss.take i)).map kPr))
    ⟨_, r1, us1, rfl, e1, h1, n1⟩ (fun i σ H3 _ p => by obtain ⟨v7, r, us, rfl, e, _⟩ := p; exact e.sqT ha) (fun i x σ H3 H4 hi p y => ?_) (fun σ H3 p => ?_)
  · obtain ⟨v7, r, us, rfl, e3, h3, n3⟩ := p
    obtain ⟨rfl, hx⟩ := y
    rw [List.getElem?_map] at hx
    obtain ⟨s, hs, rfl⟩ := Option.map_eq_some_iff.mp hx
    have iS := (List.getElem?_eq_some_iff.mp hs).1
    obtain ⟨hb1, hb2⟩ := hb i iS
    have el := estR_len u (st := st) (tab := tab) (ss.take i)
    refine ⟨_, rfl, s, rfl, hn s (List.mem_of_getElem? hs), fun v5 H5 e5 ev => ?_⟩
    subst ev
    refine ⟨_, rfl, iteF ?_⟩
    refine ⟨_, rfl, _, rfl, r, us, f, _, rfl, SqL.of (e5 _ _ h3), NkA.mono e5 _ _ n3, Nat.lt_trans el (by decide), fun v6 H6 e6 ⟨b6, ev, n6⟩ => ?_⟩
    subst ev
    obtain ⟨ia, ib, ic, ei, hia, hib, hic⟩ := Nk.item n6
    cases ei
    refine ⟨_, _, _, _, rfl, rfl, hia, rfl, ?_⟩
    have hne := unsure_split.mp hb1
    refine ⟨ic, _, rfl, .inr hic, rfl, _, rfl, itF (dF fun z => hne ?_) ?_⟩
    · injection z with z
      rw [List.length_map] at z
      exact List.length_eq_zero_iff.mp (by omega)
    have e56 := e5.trans e6
    refine ⟨_, rfl, _, rfl, _, rfl, _, rfl, _, rfl, r, sl, fp, wp, us, rows, t, tab, _, U, s, rfl, SqL.of (e56 _ _ h3), NkA.mono e56 _ _ n3, hI.mono (e3.trans e56), u, estR_sub _, Nat.lt_trans el (by decide), fun v7 H7 e7 ⟨r7, us7, ev, hn7, h7, n7⟩ => ?_⟩
    subst ev
    rw [← estR_snoc, ← take_next hs] at n7
    refine ⟨_, rfl, r7, us7, rfl, .inl (SqL.of h7), rfl, _, rfl, itF (dF fun z => hb2 ?_) ?_⟩
    · injection z with z
      have l7 := n7.length
      rw [List.length_map] at l7
      exact List.length_eq_zero_iff.mp (by omega)
    exact ⟨_, r7, us7, rfl, (e3.trans e56).trans e7, h7, n7⟩
  · obtain ⟨v7, r, us, rfl, e3, h3, n3⟩ := p
    rw [List.length_map, List.take_length] at n3
    refine ⟨_, rfl, _, rfl, r, us, f, _, rfl, SqL.of h3, n3, Nat.lt_trans (estR_len u _) (by decide), fun v6 H6 e6 ⟨b6, ev, n6⟩ => ?_⟩
    subst ev
    obtain ⟨ia, ib, ic, ei, hia, hib, hic⟩ := Nk.item n6
    cases ei
    refine ⟨_, _, _, _, rfl, rfl, hia, rfl, ?_⟩
    refine ⟨ic, _, rfl, .inr hic, rfl, ?_⟩
    refine q.of (e3.trans e6) (congrArg V.bl (dT ?_))
    rw [sure_split.mp hlast]
    rfl
end
end K25
/-! the law's look at a veil -/
namespace K25
open PySem PySem.Spec PyProof.Rows L2
/-- the law's own table of a fault -/
def xTab (bad : List Str) : Tab := bad.map fun x => (x, ("x" : Str))
theorem xTab_none {bad : List Str} {x : Str} (h : x ∉ bad) : lk (xTab bad) x = none := by
  rw [lk_none]
  unfold xTab
  rw [List.map_map]
  intro hm
  obtain ⟨y, hy, e⟩ := List.mem_map.mp hm
  exact h (e ▸ hy)
theorem prsOf_len (x : It2) : (prsOf x).length = x.1.length + x.2.length := by unfold prsOf; rw [List.length_append, List.length_map, List.length_map]
section
variable {P : Program} {w : World} {K : PySem.W.Frag} {mg : Str → Option Value} {base : Heap}
structure VeilIn (K : PySem.W.Frag) (H : Hp) (a : Addr) (us : List V) (sl b wp : Addr) (st : Int) (rows : List Row) (tab : Tab) (bad : List Str) (X : List It2) (U : List Pr) (T : List Int) : Prop where
  ha : SqL K H a us
  na : NkA K H us (X.map kIt)
  steps : ∃ rus, SqL K H sl rus ∧ NkA K H rus (rows.map kRow)
  few : rows.length ≤ 16
  sg : H wp = some (.dK (tD tab))
  tl : tab.length ≤ 50
  hb : SqL K H b (bad.map V.str)
  bn : bad.Nodup
  bl : bad.length ≤ 50
  tT : T.length ≤ 20
  t0 : st ∈ T
  tc : ∀ r ∈ rows, r.1 ∈ T → r.2.2 ∈ T
  u : Uni rows (xTab bad) U
  hU : (st, []) ∈ U
  s1 : ∀ x ∈ X, SrtBy .num x.1 ∧ SrtBy .num x.2
  mm : ∀ x ∈ X, (∀ s ∈ x.1, RchS rows st s) ∧ ∀ s ∈ x.2, RchS rows st s
  pU : ∀ x ∈ X, ∀ p ∈ prsOf x, p ∈ U
  lv : LawVeil rows st (xTab bad) tab U X
def sp__law_is_veil (K : PySem.W.Frag) : Sp := fun vs H Q _ => ∃ a us sl b wp st rows tab bad X U T, vs = [.ref a, .int st, .ref sl, .ref b, .ref wp] ∧ VeilIn K H a us sl b wp st rows tab bad X U T ∧ Ret H Q fun v H' => v = .bl true
theorem sc__law_is_veil : FnScope ["_law_thing", "_law_start", "_law_steps", "_law_bad", "_law_sights_here", "_law_states", "_law_item", "_law_table", "_law_word", "_law_first", "_law_pairs", "_law_sight", "_law_later_here", "_law_state"] ["_law_thing", "_law_start", "_law_steps", "_law_bad", "_law_sights_here"] d__law_is_veil.scope := ⟨rfl, rfl, rfl, by decide +kernel, rfl, by decide +kernel, by decide +kernel⟩
theorem ok__law_is_veil (T : Tp K mg) : Cal P w K mg base "_law_is_veil" 4 ["_law_thing", "_law_start", "_law_steps", "_law_bad", "_law_sights_here"] (sp__law_is_veil K) := by
  refine ⟨_, T.glo 70, ?_⟩
  show Df P w K mg base (d__law_is_veil.path K) 4 ["_law_thing", "_law_start", "_law_steps", "_law_bad", "_law_sights_here"] (sp__law_is_veil K)
  refine T.df 67 (d := d__law_is_veil) rfl rfl sc__law_is_veil (fun vs H Q E h => by obtain ⟨_, _, _, _, _, _, _, _, _, _, _, _, e, _⟩ := h; rw [e]; rfl) (fun _ _ _ _ _ _ us hl => match us, hl with | [_, _, _, _, _], _ => rfl) (fun cdv A outer s H vs Q E hr h => ?_)

  obtain ⟨a, us, sl, b, wp, st, rows, tab, bad, X, U, TT, rfl, h, q⟩ := h
  refine ⟨_, PSs.nox (pss_cons (ps_if (pt_not (pt_val (pe_callB call_isi rfl (T.free 75) boot_isinstance (pa_cons (pv 0) (pa_cons (pe_bltn (v := .ty "list") rfl (T.free 77) boot_list rfl) pa_nil)))))
      (pss_one (ps_ret pe_bl)) pss_nil)
      (pss_cons (ps_set (i := 5) sc__law_is_veil.nd rfl (Or.inl rfl) (pe_cal (ok__law_reached T) hr (by decide) rfl (pa_cons (pv 1) (pa_cons (pv 2) pa_nil))))
      (pss_cons (ps_for PassesOwn.never rfl (pi_list (pv 0)) (pg_name (i := 6) sc__law_is_veil.nd rfl (Or.inl rfl))
      (pss_one (ps_if (pt_not (pt_val (pe_cal (ok__law_veil_item T) hr (by decide) rfl (pa_cons (pv 6) (pa_cons (pv 5) pa_nil)))))
      (pss_one (ps_ret pe_bl)) pss_nil)))
      (pss_cons (ps_set (i := 7) sc__law_is_veil.nd rfl (Or.inl rfl) pe_dnewK)
      (pss_cons (ps_for PassesOwn.never rfl (pi_list (pv 3)) (pg_name (i := 8) sc__law_is_veil.nd rfl (Or.inl rfl))
      (pss_one (ps_dput (hu_of hr) (pv 7) (pv 8) pe_str rfl)))
      (pss_cons (ps_set (i := 9) sc__law_is_veil.nd rfl (Or.inl rfl) (pe_cal (ok__law_estimate T) hr (by decide) rfl (pa_cons (pe_lst (pa_cons (pe_tup (pa_cons (pv 1) (pa_cons (pe_tup pa_nil) pa_nil))) pa_nil)) (pa_cons (pv 2) (pa_cons (pv 7) (pa_cons (pv 4) pa_nil))))))
      (pss_cons (ps_if (pt_cmpR (op_notInK hr) (pe_cal (ok__law_split T) hr (by decide) rfl (pa_cons (pv 9) (pa_cons pe_str pa_nil))) (pv 0) (by with_unfolding_all rfl))
      (pss_one (ps_ret pe_bl)) pss_nil)
      (pss_cons (ps_for PassesOwn.never rfl (pi_list (pv 0)) (pg_name (i := 6) sc__law_is_veil.nd rfl (Or.inl rfl))
      (pss_cons (ps_setLc (i := 10) (own := [("_law_state", 13)]) rfl sc__law_is_veil.nd rfl rfl (sw_true rfl rfl rfl (by decide +kernel)) (pi_tup (pe_ix ix_tup (pv 6) pe_int (fun _ _ => rfl))) (blkOk_by (N := ["_law_thing", "_law_start", "_law_steps", "_law_bad", "_law_sights_here", "_law_states", "_law_item", "_law_table", "_law_word", "_law_first", "_law_pairs", "_law_sight", "_law_later_here", "_law_state"]) (sc := d__law_is_veil.scope) (by decide +kernel)) (fun _ _ _ _ _ => (pg_name (i := 13) sc__law_is_veil.nd rfl (Or.inl rfl))) (fun _ _ _ _ _ => pts_nil) (fun _ _ _ _ _ => (pe_tup (pa_cons (pv 13) (pa_cons (pe_tup (pa_cons pe_str pa_nil)) pa_nil)))))
      (pss_cons (ps_set (i := 10) sc__law_is_veil.nd rfl (Or.inl rfl) (pe_op op_cat (pv 10) (pe_lc (own := [("_law_state", 13)]) rfl sc__law_is_veil.nd (pi_tup (pe_ix ix_tup (pv 6) pe_int (fun _ _ => rfl))) (blkOk_by (N := ["_law_thing", "_law_start", "_law_steps", "_law_bad", "_law_sights_here", "_law_states", "_law_item", "_law_table", "_law_word", "_law_first", "_law_pairs", "_law_sight", "_law_later_here", "_law_state"]) (sc := d__law_is_veil.scope) (by decide +kernel)) (fun _ _ _ _ _ => (pg_name (i := 13) sc__law_is_veil.nd rfl (Or.inl rfl))) (fun _ _ _ _ _ => pts_nil) (fun _ _ _ _ _ => (pe_tup (pa_cons (pv 13) (pa_cons (pe_tup pa_nil) pa_nil)))))))
      (pss_one (ps_for PassesOwn.never rfl (pi_list (pe_callB (call_sortedSetK rfl hr) rfl (T.free 76) boot_sorted (pa_cons (pe_callTy (call_setK rfl hr) rfl (T.free 79) boot_set (pa_cons (pe_listVals rfl hr rfl (T.free 77) (pv 4)) pa_nil)) pa_nil))) (pg_name (i := 11) sc__law_is_veil.nd rfl (Or.inl rfl))
      (pss_cons (ps_set (i := 12) sc__law_is_veil.nd rfl (Or.inl rfl) (pe_cal (ok__law_later T) hr (by decide) rfl (pa_cons (pv 10) (pa_cons (pv 2) (pa_cons (pv 7) (pa_cons (pv 4) (pa_cons (pv 11) pa_nil)))))))
      (pss_one (ps_if (PW.pt (pw_and (pt_cmpR op_gt (pe_callB call_len_seq rfl (T.free 74) boot_len (pa_cons (pv 12) pa_nil)) pe_int (nomark _)) (pw_and1 (pt_cmpR (op_notInK hr) (pe_cal (ok__law_split T) hr (by decide) rfl (pa_cons (pv 12) (pa_cons pe_str pa_nil))) (pv 0) (by with_unfolding_all rfl)))))
      (pss_one (ps_ret pe_bl)) pss_nil))))))))
      (pss_one (ps_ret pe_bl)))))))))), ?_⟩
  have ha := h.ha
  have na := h.na
  obtain ⟨rus, hrs, nrs⟩ := h.steps
  have lus := na.length
  rw [List.length_map] at lus
  refine ⟨_, rfl, .ref a, .ty "list", _, _, true, rfl, .ty _, tyx_L ha, kit_ty (by decide +kernel), true, rfl, iteF ?_⟩
  refine ⟨_, rfl, _, rfl, st, sl, rus, rows, TT, rfl, hrs, nrs, h.tT, h.t0, h.tc, fun v1 H1 e1 ⟨lm, met, ev, hlm, ms, mm⟩ => ?_⟩
  subst ev
  have met20 : met.length ≤ 20 := Nat.le_trans (len_in ms fun s hs => RchS.sub h.t0 h.tc ((mm s).mp hs)) h.tT
  have len20 : ∀ x ∈ X, x.1.length ≤ 20 ∧ x.2.length ≤ 20 := fun x hx => ⟨Nat.le_trans (len_in (h.s1 x hx).1 fun s hs => RchS.sub h.t0 h.tc ((h.mm x hx).1 s hs)) h.tT, Nat.le_trans (len_in (h.s1 x hx).2 fun s hs => RchS.sub h.t0 h.tc ((h.mm x hx).2 s hs)) h.tT⟩
  refine ⟨_, rfl, a, rfl, ⟨_, e1.sqL ha⟩, ?_⟩
  refine for_it (walk_list (xs := us)) (fun i σ H2 => ∃ v6, σ = [some (.ref a), some (.int st), some (.ref sl), some (.ref b), some (.ref wp), some (.ref lm), v6, none, none, none, none, none, none, none] ∧ Ex H H2 ∧ H2 lm = some (.lst (met.map V.int))) ⟨_, rfl, e1, hlm⟩ (fun i σ H2 _ p => by obtain ⟨v6, rfl, e, _⟩ := p; exact e.sqL ha) (fun i y σ H2 H3 hi p y' => ?_) (fun σ H2 p => ?_)
  · obtain ⟨v6, rfl, e2, hlm2⟩ := p
    obtain ⟨rfl, hx⟩ := y'
    obtain ⟨k, hk, nk⟩ := NkA.get na hx
    rw [List.getElem?_map] at hk
    obtain ⟨x, hxX, rfl⟩ := Option.map_eq_some_iff.mp hk
    have hxm := List.mem_of_getElem? hxX
    refine ⟨_, rfl, _, rfl, _, lm, x, met, rfl, Nk.mono e2 _ _ nk, SqL.of hlm2, (h.s1 x hxm).1, (h.s1 x hxm).2, fun s hs => (mm s).mpr ((h.mm x hxm).1 s hs), fun s hs => (mm s).mpr ((h.mm x hxm).2 s hs), met20, fun v7 H7 e7 ev => ?_⟩
    subst ev
    have hne := h.lv.ne x hxm
    have hpos : 0 < x.2.length := List.length_pos_iff.mpr hne
    refine ⟨_, rfl, itF (by rw [dT hpos]; rfl) ?_⟩
    exact ⟨_, rfl, e2.trans e7, e7 _ _ hlm2⟩
  obtain ⟨v6, rfl, e2, hlm2⟩ := p
  refine fun D hD => ?_
  have e3 := e2.to (o := .dK []) hD
  have hD0 := e2.free hD
  refine ⟨_, rfl, b, rfl, ⟨_, e3.sqL h.hb⟩, ?_⟩
  refine for_it (walk_list (xs := bad.map V.str)) (fun i σ H4 => ∃ v8, σ = [some (.ref a), some (.int st), some (.ref sl), some (.ref b), some (.ref wp), some (.ref lm), v6, some (.ref D), v8, none, none, none, none, none] ∧ Ex H H4 ∧ H4 D = some (.dK (tD (xTab (bad.take i))))) ⟨_, rfl, e3, upd_same⟩ (fun i σ H4 _ p => by obtain ⟨v8, rfl, e, _⟩ := p; exact e.sqL h.hb) (fun i y σ H4 H5 hi p y' => ?_) (fun σ H4 p => ?_)
  · obtain ⟨v8, rfl, e4, hD4⟩ := p
    obtain ⟨rfl, hx⟩ := y'
    rw [List.getElem?_map] at hx
    obtain ⟨z, hz, rfl⟩ := Option.map_eq_some_iff.mp hx
    have hbl := h.bl
    refine ⟨_, rfl, _, rfl, D, _, rfl, DPut.k (k := .inr z) hD4 ?_, ?_⟩
    · rw [tD_len]
      unfold xTab
      rw [List.length_map, List.length_take]
      exact Nat.lt_of_le_of_lt (show _ ≤ 1000 by omega) (by decide)
    · refine ⟨_, rfl, e4.mut hD0, ?_⟩
      rw [tD_put _ (xTab_none (not_take h.bn hz)), take_next hz]
      unfold xTab
      rw [map_snoc]
      exact upd_same
  obtain ⟨v8, rfl, e4, hD4⟩ := p
  rw [List.length_map, List.take_length] at hD4
  have hI : LawIn K H4 sl D wp rows (xTab bad) tab := ⟨⟨rus, e4.sqL hrs, NkA.mono e4 _ _ nrs⟩, hD4, e4 _ _ h.sg, h.few⟩
  refine first_rd rfl rfl rfl rfl hI h.u h.hU fun v5 H5 e5 ⟨r5, us5, ev, hn5, h5, n5⟩ => ?_
  subst ev
  refine ⟨_, rfl, r5, us5, "x", _, rfl, SqL.of h5, n5, Nat.lt_trans (cloL_len h.u) (by decide), fun v6' H6 e6 ⟨b6, ev, n6⟩ => ?_⟩
  subst ev
  have e46 := (e4.trans e5).trans e6
  have hI6 := hI.mono (e5.trans e6)
  refine ⟨_, rfl, a, _, X.map kIt, rfl, n6, SqK.l (e46.sqL ha) (NkA.mono e46 _ _ na), Nat.le_trans (kIt_depth _) (by decide), _, rfl, itF (nF ((mem_map_inj kIt_inj).mpr h.lv.fst)) ?_⟩
  refine ⟨_, rfl, a, rfl, ⟨_, e46.sqL ha⟩, ?_⟩
  refine for_it (walk_list (xs := us)) (fun i σ H7 => ∃ v6 v10 v11 v12, σ = [some (.ref a), some (.int st), some (.ref sl), some (.ref b), some (.ref wp), some (.ref lm), v6, some (.ref D), v8, some (.ref r5), v10, v11, v12, none] ∧ Ex H6 H7) ⟨_, _, _, _, rfl, Ex.refl _⟩ (fun i σ H7 _ p => by obtain ⟨_, _, _, _, _, e⟩ := p; exact (e46.trans e).sqL ha) (fun i y σ H7 H8 hi p y' => ?_) (fun σ H7 p => ?_)
  · obtain ⟨v6, v10, v11, v12, rfl, e7⟩ := p
    obtain ⟨rfl, hx⟩ := y'
    obtain ⟨k, hk, nk⟩ := NkA.get na hx
    rw [List.getElem?_map] at hk
    obtain ⟨x, hxX, rfl⟩ := Option.map_eq_some_iff.mp hk
    have hxm := List.mem_of_getElem? hxX
    obtain ⟨l1, l2⟩ := len20 x hxm
    have eH := e46.trans e7
    obtain ⟨ia, ib, ic, rfl, hia, hib, hic⟩ := Nk.item (Nk.mono eH _ _ nk)
    refine ⟨_, rfl, _, _, _, _, rfl, rfl, hia, rfl, ib, rfl, ⟨_, hib⟩, fun D1 hD1 => ?_⟩
    refine lc_it (walk_tup (xs := x.1.map V.int)) (fun j H9 => ∃ ws, Ex H8 H9 ∧ H9 D1 = some (.lst ws) ∧ NkA K H9 ws (((x.1.take j).map (fun s => ((s, ["x"]) : Pr))).map kPr)) ⟨[], Ex.new hD1, upd_same, .nil⟩ (fun j H9 _ p => by obtain ⟨ws, e, _⟩ := p; exact e.sqT hib) (fun j z H9 H10 hj p y' => ?_) (fun H9 p => ?_)
    · obtain ⟨ws, e9, hw, nw⟩ := p
      obtain ⟨rfl, hz⟩ := y'
      rw [List.getElem?_map] at hz
      obtain ⟨s, hs, rfl⟩ := Option.map_eq_some_iff.mp hz
      have js := (List.getElem?_eq_some_iff.mp hs).1
      have lw := nw.length
      rw [List.length_map, List.length_map, List.length_take] at lw
      refine ⟨rfl, ?_⟩
      refine ⟨_, rfl, by show 1 ≤ sizeLine; decide, fun t1 ht1 => ?_⟩
      refine ⟨by show 2 ≤ sizeLine; decide, fun t2 ht2 => ?_⟩
      have xt := (Ex.new (o := .tup [.str "x"]) ht1).to (o := .tup [.int s, .ref t1]) ht2
      have hw2 := xt _ _ hw
      have nk2 : Nk K (upd (upd H10 t1 (.tup [.str "x"])) t2 (.tup [.int s, .ref t1])) (.ref t2) (kPr (s, ["x"])) := Nk.ofPr (p := (s, ["x"])) (SqT.of upd_same) ((Ex.new ht2).sqT (SqT.of upd_same))
      refine ⟨ws, hw2, Nat.lt_of_le_of_lt (show ws.length ≤ 100 by omega) (by decide), ws ++ [.ref t2], (e9.trans xt).mut hD1, upd_same, ?_⟩
      rw [take_next hs, map_snoc, map_snoc]
      exact NkA.append (NkA.other (NkA.mono xt _ _ nw) hw2) (.cons (Nk.upd hw2 lst_ne _ _ nk2) .nil)
    obtain ⟨ws1, e9, hw1, nw1⟩ := p
    rw [List.length_map, List.take_length] at nw1
    refine ⟨_, rfl, _, rfl, _, _, _, _, rfl, rfl, e9.sqT hia, rfl, ic, rfl, ⟨_, e9.sqT hic⟩, fun D2 hD2 => ?_⟩
    have hic9 := e9.sqT hic
    refine lc_it (walk_tup (xs := x.2.map V.int)) (fun j H11 => ∃ ws, Ex H9 H11 ∧ H11 D2 = some (.lst ws) ∧ NkA K H11 ws (((x.2.take j).map (fun s => ((s, []) : Pr))).map kPr)) ⟨[], Ex.new hD2, upd_same, .nil⟩ (fun j H11 _ p => by obtain ⟨ws, e, _⟩ := p; exact e.sqT hic9) (fun j z H11 H12 hj p y' => ?_) (fun H11 p => ?_)
    · obtain ⟨ws, e11, hw, nw⟩ := p
      obtain ⟨rfl, hz⟩ := y'
      rw [List.getElem?_map] at hz
      obtain ⟨s, hs, rfl⟩ := Option.map_eq_some_iff.mp hz
      have js := (List.getElem?_eq_some_iff.mp hs).1
      have lw := nw.length
      rw [List.length_map, List.length_map, List.length_take] at lw
      refine ⟨rfl, ?_⟩
      refine ⟨_, rfl, by show 0 ≤ sizeLine; decide, fun t1 ht1 => ?_⟩
      refine ⟨by show 2 ≤ sizeLine; decide, fun t2 ht2 => ?_⟩
      have xt := (Ex.new (o := .tup []) ht1).to (o := .tup [.int s, .ref t1]) ht2
      have hw2 := xt _ _ hw
      have nk2 : Nk K (upd (upd H12 t1 (.tup [])) t2 (.tup [.int s, .ref t1])) (.ref t2) (kPr (s, [])) := Nk.ofPr (p := (s, [])) (SqT.of upd_same) ((Ex.new ht2).sqT (SqT.of upd_same))
      refine ⟨ws, hw2, Nat.lt_of_le_of_lt (show ws.length ≤ 100 by omega) (by decide), ws ++ [.ref t2], (e11.trans xt).mut hD2, upd_same, ?_⟩
      rw [take_next hs, map_snoc, map_snoc]
      exact NkA.append (NkA.other (NkA.mono xt _ _ nw) hw2) (.cons (Nk.upd hw2 lst_ne _ _ nk2) .nil)
    obtain ⟨ws2, e11, hw2, nw2⟩ := p
    rw [List.length_map, List.take_length] at nw2
    have lw1 := nw1.length
    have lw2 := nw2.length
    rw [List.length_map, List.length_map] at lw1 lw2
    refine ⟨D1, D2, ws1, ws2, rfl, rfl, e11 _ _ hw1, hw2, Nat.le_trans (show _ ≤ 1000 by omega) (by decide), fun pl hpl => ?_⟩
    have xp := Ex.new (o := .lst (ws1 ++ ws2)) hpl
    have e12 := ((e9.trans e11).trans xp)
    have npl : NkA K (upd H11 pl (.lst (ws1 ++ ws2))) (ws1 ++ ws2) ((prsOf x).map kPr) := by
      unfold prsOf
      rw [List.map_append]
      exact NkA.append (NkA.mono (e11.trans xp) _ _ nw1) (NkA.mono xp _ _ nw2)
    refine kinds_rd rfl ((hI6.mono (e7.trans e12)).sg) h.tl fun lK HK eK hK => ?_
    refine ⟨lK, rfl, ⟨_, SqL.of hK⟩, ?_⟩
    have e13 := (e7.trans e12).trans eK
    have hpl13 := eK _ _ (upd_same (H := H11) (a := pl) (o := .lst (ws1 ++ ws2)))
    have npl13 := NkA.mono eK _ _ npl
    refine for_it (walk_list (xs := (nmsOf tab).map V.str)) (fun j σ H14 => ∃ v11 v12, σ = [some (.ref a), some (.int st), some (.ref sl), some (.ref b), some (.ref wp), some (.ref lm), some (.ref ia), some (.ref D), v8, some (.ref r5), some (.ref pl), v11, v12, none] ∧ Ex HK H14) ⟨_, _, rfl, Ex.refl _⟩ (fun j σ H14 _ p => by obtain ⟨_, _, _, e⟩ := p; exact SqL.of (e _ _ hK)) (fun j z σ H14 H15 hj p y' => ?_) (fun σ H14 p => ?_)
    · obtain ⟨v11, v12, rfl, e14⟩ := p
      obtain ⟨rfl, hz⟩ := y'
      rw [List.getElem?_map] at hz
      obtain ⟨s, hs, rfl⟩ := Option.map_eq_some_iff.mp hz
      have hsm := List.mem_of_getElem? hs
      have e1314 := e13.trans e14
      refine ⟨_, rfl, _, rfl, _, rfl, _, rfl, _, rfl, pl, sl, D, wp, _, rows, xTab bad, tab, prsOf x, U, s, rfl, SqL.of (e14 _ _ hpl13), NkA.mono e14 _ _ npl13, hI6.mono e1314, h.u, h.pU x hxm, by rw [prsOf_len]; omega, fun v16 H16 e16 ⟨r16, us16, ev, hn16, h16, n16⟩ => ?_⟩
      subst ev
      have l16 := n16.length
      rw [List.length_map] at l16
      refine ⟨_, rfl, r16, us16, rfl, .inl (SqL.of h16), _, _, rfl, rfl, _, rfl, itE (fun c => ?_) fun c => ?_⟩
      · have hL : laterE rows (xTab bad) tab U s (prsOf x) ≠ [] := fun z => by
          have hc := ofT c
          rw [z] at l16
          simp only [List.length_nil] at l16
          omega
        have hin := (h.lv.nxt x hxm s hsm).resolve_left hL
        refine ⟨_, rfl, r16, us16, "x", _, rfl, SqL.of h16, n16, Nat.lt_trans (cloL_len h.u) (by decide), fun v17 H17 e17 ⟨b17, ev, n17⟩ => ?_⟩
        subst ev
        have eall := ((e46.trans e1314).trans e16).trans e17
        refine ⟨_, rfl, a, _, X.map kIt, rfl, n17, SqK.l (eall.sqL ha) (NkA.mono eall _ _ na), Nat.le_trans (kIt_depth _) (by decide), _, rfl, itF (nF ((mem_map_inj kIt_inj).mpr hin)) ?_⟩
        exact ⟨_, _, rfl, (e14.trans e16).trans e17⟩
      · exact ⟨_, _, rfl, e14.trans e16⟩
    · obtain ⟨v11, v12, rfl, e14⟩ := p
      exact ⟨_, _, _, _, rfl, e13.trans e14⟩
  · obtain ⟨v6, v10, v11, v12, rfl, e7⟩ := p
    exact q.of (e46.trans e7) rfl
end
end K25
/-! the law's walks -/
namespace K25
open PySem PySem.Spec PyProof.Rows L2
section
variable {P : Program} {w : World} {K : PySem.W.Frag} {mg : Str → Option Value} {base : Heap}
def sp__law_walk (K : PySem.W.Frag) : Sp := fun vs H Q _ => ∃ a, ∃ ds : List Int, ∃ sl us, ∃ rows : List Row, ∃ st : Int, ∃ T : List Int, vs = [.ref a, .ref sl, .int st] ∧ SqL K H a (ds.map V.int) ∧ ds.length ≤ 100 ∧ SqL K H sl us ∧ NkA K H us (rows.map kRow) ∧ rows.length ≤ 16 ∧ st ∈ T ∧ (∀ r ∈ rows, r.1 ∈ T → r.2.2 ∈ T) ∧ (∀ s ∈ T, ∃ r ∈ rows, r.1 = s) ∧
  Ret H Q fun v H' => ∃ l, ∃ js : List Nat, ∃ rs s, v = .ref l ∧ H' l = some (.lst (js.map fun j => V.int (j : Nat))) ∧ Paired (fun j r => rows[j]? = some r) js rs ∧ PathR rows st rs s ∧ js.length ≤ 100
theorem sc__law_walk : FnScope ["_law_row_here", "_law_steps", "_law_start", "_law_path", "_law_state", "_law_digit", "_law_ways", "_law_number", "_law_k"] ["_law_row_here", "_law_steps", "_law_start"] d__law_walk.scope := ⟨rfl, rfl, rfl, by decide +kernel, rfl, by decide +kernel, by decide +kernel⟩
theorem ok__law_walk (T : Tp K mg) : Cal P w K mg base "_law_walk" 1 ["_law_row_here", "_law_steps", "_law_start"] (sp__law_walk K) := by
  refine ⟨_, T.glo 58, ?_⟩
  show Df P w K mg base (d__law_walk.path K) 1 ["_law_row_here", "_law_steps", "_law_start"] (sp__law_walk K)
  refine T.df 55 (d := d__law_walk) rfl rfl sc__law_walk (fun vs H Q E h => by obtain ⟨_, _, _, _, _, _, _, e, _⟩ := h; rw [e]; rfl) (fun _ _ _ _ _ _ us hl => match us, hl with | [_, _, _], _ => rfl) (fun cdv A outer s H vs Q E hr h => ?_)

  obtain ⟨a, ds, sl, us, rows, st, TT, rfl, ha, ld, hs, ns, few, t0, tc, live, q⟩ := h
  refine ⟨_, PSs.nox (pss_cons (ps_set (i := 3) sc__law_walk.nd rfl (Or.inl rfl) (pe_lst pa_nil))
      (pss_cons (ps_set (i := 4) sc__law_walk.nd rfl (Or.inr rfl) (pv 2))
      (pss_cons (ps_for PassesOwn.never rfl (pi_list (pv 0)) (pg_name (i := 5) sc__law_walk.nd rfl (Or.inl rfl))
      (pss_cons (ps_setLc (i := 6) (own := [("_law_k", 8)]) rfl sc__law_walk.nd rfl rfl (sw_true rfl rfl rfl (by decide +kernel)) (pi_range1 rfl (T.free 81) (pa_cons (pe_callB call_len_seq rfl (T.free 74) boot_len (pa_cons (pv 1) pa_nil)) pa_nil)) (blkOk_by (N := ["_law_row_here", "_law_steps", "_law_start", "_law_path", "_law_state", "_law_digit", "_law_ways", "_law_number", "_law_k"]) (sc := d__law_walk.scope) (by decide +kernel)) (fun _ _ _ _ _ => (pg_name (i := 8) sc__law_walk.nd rfl (Or.inl rfl))) (fun _ _ _ _ _ => pts_one (pt_cmpR op_eq (pe_ix (ix_tupB K rfl) (pe_ix (ix_listB K rfl) (pv 1) (pv 8) (fun _ _ => rfl)) pe_int (fun _ _ => rfl)) (pv 4) (nomark _))) (fun _ _ _ _ _ => (pv 8)))
      (pss_cons (ps_set (i := 7) sc__law_walk.nd rfl (Or.inl rfl) (pe_ix ix_list (pv 6) (pe_op op_mod (pe_callTy call_int1 rfl (T.free 83) boot_int (pa_cons (pv 5) pa_nil)) (pe_callB call_len_seq rfl (T.free 74) boot_len (pa_cons (pv 6) pa_nil))) (fun _ _ => rfl)))
      (pss_cons (ps_expr (pe_bm PySem.F.plainAttrs_list PySem.F.slot_list_append PySem.F.type_list_append mt_append (pv 3) (pa_cons (pv 7) pa_nil)))
      (pss_one (ps_set (i := 4) sc__law_walk.nd rfl (Or.inr rfl) (pe_ix ix_tup (pe_ix ix_list (pv 1) (pv 7) (fun _ _ => rfl)) pe_int (fun _ _ => rfl))))))))
      (pss_one (ps_ret (pv 3)))))), ?_⟩
  have lus := ns.length
  rw [List.length_map] at lus
  have rowAt : ∀ {j : Nat} {r : Row}, rows[j]? = some r → ∃ ra, atI us ((j : Nat) : Int) = some (.ref ra) ∧ SqT K H ra [.int r.1, .str r.2.1, .int r.2.2] := fun {j r} hj => by
    obtain ⟨rv, hrv, nrv⟩ := NkA.get' ns (show (rows.map kRow)[j]? = some (kRow r) by rw [List.getElem?_map, hj]; rfl)
    obtain ⟨ra, rfl, hra⟩ := Nk.row nrv
    exact ⟨ra, atI_nat hrv, hra⟩
  refine ⟨by show 0 ≤ sizeLine; decide, fun N hN => ?_⟩
  have e1 := Ex.new (o := .lst []) hN
  refine ⟨_, rfl, _, rfl, a, rfl, ⟨_, e1.sqL ha⟩, ?_⟩
  refine for_it (walk_list (xs := ds.map V.int)) (fun i σ H2 => ∃ v5 v6 v7 v8, ∃ s, ∃ js : List Nat, ∃ rs : List Row, σ = [some (.ref a), some (.ref sl), some (.int st), some (.ref N), some (.int s), v5, v6, v7, v8] ∧ Ex H H2 ∧ H2 N = some (.lst (js.map fun j => V.int (j : Nat))) ∧ js.length = i ∧ Paired (fun j r => rows[j]? = some r) js rs ∧ PathR rows st rs s ∧ s ∈ TT)
    ⟨_, _, _, _, st, [], [], rfl, e1, upd_same, rfl, .nil, .nil, t0⟩ (fun i σ H2 _ p => by obtain ⟨_, _, _, _, _, _, _, _, e, _⟩ := p; exact e.sqL ha) (fun i x σ H2 H3 hi p y => ?_) (fun σ H2 p => ?_)
  · obtain ⟨v5, v6, v7, v8, s, js, rs, rfl, e2, hN2, ljs, pr, pth, hsT⟩ := p
    obtain ⟨rfl, hx⟩ := y
    rw [List.getElem?_map] at hx
    obtain ⟨d, hd, rfl⟩ := Option.map_eq_some_iff.mp hx
    have id := (List.getElem?_eq_some_iff.mp hd).1
    refine ⟨_, rfl, sl, us, rfl, .inl (e2.sqL hs), _, rfl, by omega, by omega, fun D hD => ?_⟩
    refine lc_it (walk_range (lo := 0) (n := us.length)) (fun j H4 => Ex H3 H4 ∧ H4 D = some (.lst (ixV (rows.take j) s))) ⟨Ex.new hD, upd_same⟩ (fun _ _ _ _ => True.intro) (fun j x H4 H5 hj p y => ?_) (fun H4 p => ?_)
    · obtain ⟨e4, hD4⟩ := p
      obtain ⟨rfl, rfl⟩ := y
      rw [lus] at hj
      have hrj : rows[j]? = some rows[j] := List.getElem?_eq_getElem hj
      generalize rows[j] = r at hrj
      obtain ⟨ra, hra, hrt⟩ := rowAt hrj
      have ej : ((0 : Int) + (j : Int)) = ((j : Nat) : Int) := by omega
      have er := take_next hrj
      have lt : (rows.take j).length = j := by rw [List.length_take]; omega
      have e24 := e2.trans e4
      refine ⟨rfl, ?_⟩
      refine ⟨_, rfl, _, rfl, _, _, _, .ref ra, rfl, rfl, e24.sqL hs, (by rw [ej]; exact hra), _, _, _, _, rfl, rfl, e24.sqT hrt, rfl, _, rfl, rfl, _, rfl, itE (fun c => ?_) fun c => ?_⟩
      · have hc : r.1 = s := by injection ofT c
        refine ⟨_, rfl, _, hD4, ?_, e4.mut hD, ?_⟩
        · have h1 := idx_len (rows.take j) s
          unfold ixV
          rw [List.length_map]
          exact Nat.lt_of_le_of_lt (show _ ≤ 100 by omega) (by decide)
        · rw [er, ixV_y hc, lt]
          show (upd H5 D (.lst (ixV (rows.take j) s ++ [V.int ((0 : Int) + (j : Int))]))) D = _
          rw [ej]
          exact upd_same
      · have hc : ¬ r.1 = s := fun z => ofF c (by rw [z])
        rw [er, ixV_n hc]
        exact ⟨e4, hD4⟩
    obtain ⟨e4, hD4⟩ := p
    rw [lus, List.take_length] at hD4
    obtain ⟨r0, hr0, er0⟩ := live s hsT
    obtain ⟨i0, hi0, ei0⟩ := List.getElem_of_mem hr0
    have hmem : i0 ∈ idx rows s := idx_mem.mpr ⟨r0, by rw [List.getElem?_eq_getElem hi0, ei0], er0⟩
    have lpos : 0 < (idx rows s).length := List.length_pos_of_mem hmem
    have lix : ((ixV rows s).length : Nat) = (idx rows s).length := List.length_map _
    have b1 := Int.emod_nonneg d (show (((ixV rows s).length : Nat) : Int) ≠ 0 by omega)
    have b2 := Int.emod_lt_of_pos d (show (0 : Int) < (((ixV rows s).length : Nat) : Int) by omega)
    obtain ⟨n, hn, _, atn⟩ := at_in (xs := idx rows s) (fun i => V.int (i : Nat)) b1 (by omega)
    obtain ⟨r, hr1, hr2⟩ := idx_mem.mp hn
    have e24 := e2.trans e4
    have hN4 := e4 _ _ hN2
    refine ⟨_, rfl, _, rfl, .inl ⟨_, rfl, _, rfl, D, _, rfl, .inl (SqL.of hD4), _, _, rfl, rfl, by show (0 : Int) < _; omega, _, _, _, .int (n : Nat), rfl, rfl, SqL.of hD4, atn, ?_⟩⟩
    refine ⟨_, rfl, .inl ⟨rfl, _, SqL.of hN4⟩, _, rfl, N, _, _, rfl, rfl, hN4, Nat.lt_of_le_of_lt (show (js.map fun j => V.int (j : Nat)).length ≤ 1000 by rw [List.length_map]; omega) (by decide), ?_⟩
    have e5 := e24.mut (o := .lst ((js.map fun j => V.int (j : Nat)) ++ [V.int (n : Nat)])) hN
    obtain ⟨ra, hra, hrt⟩ := rowAt hr1
    refine ⟨_, rfl, _, rfl, _, _, _, .ref ra, rfl, rfl, e5.sqL hs, hra, _, _, _, _, rfl, rfl, e5.sqT hrt, rfl, ?_⟩
    have hrm := List.mem_of_getElem? hr1
    refine ⟨_, _, _, _, r.2.2, js ++ [n], rs ++ [r], rfl, e5, ?_, by rw [List.length_append, ljs]; rfl, paired_snoc (R := fun (j : Nat) (r : Row) => rows[j]? = some r) hr1 pr, .snoc pth hrm hr2, tc r hrm (by rw [hr2]; exact hsT)⟩
    rw [map_snoc]
    exact upd_same
  · obtain ⟨v5, v6, v7, v8, s, js, rs, rfl, e2, hN2, ljs, pr, pth, hsT⟩ := p
    rw [List.length_map] at ljs
    exact ⟨_, rfl, q.of e2 ⟨N, js, rs, s, rfl, hN2, pr, pth, by omega⟩⟩
def sp__law_seen (K : PySem.W.Frag) : Sp := fun vs H Q _ => ∃ sl us wp pl, ∃ rows : List Row, ∃ tab, ∃ js : List Nat, ∃ rs : List Row, vs = [.ref sl, .ref wp, .ref pl] ∧ SqL K H sl us ∧ NkA K H us (rows.map kRow) ∧ H wp = some (.dK (tD tab)) ∧ SqL K H pl (js.map fun j => V.int (j : Nat)) ∧ Paired (fun j r => rows[j]? = some r) js rs ∧ js.length ≤ 100 ∧
  Ret H Q fun v H' => ∃ l, v = .ref l ∧ H' l = some (.lst ((sgts tab rs).map V.str))
theorem sc__law_seen : FnScope ["_law_steps", "_law_table", "_law_path", "_law_words", "_law_number", "_law_word"] ["_law_steps", "_law_table", "_law_path"] d__law_seen.scope := ⟨rfl, rfl, rfl, by decide +kernel, rfl, by decide +kernel, by decide +kernel⟩
theorem ok__law_seen (T : Tp K mg) : Cal P w K mg base "_law_seen" 1 ["_law_steps", "_law_table", "_law_path"] (sp__law_seen K) := by
  refine ⟨_, T.glo 57, ?_⟩
  show Df P w K mg base (d__law_seen.path K) 1 ["_law_steps", "_law_table", "_law_path"] (sp__law_seen K)
  refine T.df 54 (d := d__law_seen) rfl rfl sc__law_seen (fun vs H Q E h => by obtain ⟨_, _, _, _, _, _, _, _, e, _⟩ := h; rw [e]; rfl) (fun _ _ _ _ _ _ us hl => match us, hl with | [_, _, _], _ => rfl) (fun cdv A outer s H vs Q E hr h => ?_)

  obtain ⟨sl, us, wp, pl, rows, tab, js, rs, rfl, hs, ns, hw, hp, pr, lj, q⟩ := h
  refine ⟨_, PSs.nox (pss_cons (ps_setLc (i := 3) (own := [("_law_number", 4)]) rfl sc__law_seen.nd rfl rfl (sw_true rfl rfl rfl (by decide +kernel)) (pi_list (pv 2)) (blkOk_by (N := ["_law_steps", "_law_table", "_law_path", "_law_words", "_law_number", "_law_word"]) (sc := d__law_seen.scope) (by decide +kernel)) (fun _ _ _ _ _ => (pg_name (i := 4) sc__law_seen.nd rfl (Or.inl rfl))) (fun _ _ _ _ _ => pts_nil) (fun _ _ _ _ _ => (pe_ix (ix_tupB K rfl) (pe_ix (ix_listB K rfl) (pv 0) (pv 4) (fun _ _ => rfl)) pe_int (fun _ _ => rfl))))
      (pss_one (ps_ret (pe_lc (own := [("_law_word", 5)]) rfl sc__law_seen.nd (pi_list (pv 3)) (blkOk_by (N := ["_law_steps", "_law_table", "_law_path", "_law_words", "_law_number", "_law_word"]) (sc := d__law_seen.scope) (by decide +kernel)) (fun _ _ _ _ _ => (pg_name (i := 5) sc__law_seen.nd rfl (Or.inl rfl))) (fun _ _ _ _ _ => pts_one (pt_cmp (pc_din (hu_of hr) (pv 5) (pv 1)))) (fun _ _ _ _ _ => (pe_dget (by exact hu_of hr) (pv 1) (pv 5) (fun _ _ => rfl))))))), ?_⟩
  have rowAt : ∀ {j : Nat} {r : Row}, rows[j]? = some r → ∃ ra, atI us ((j : Nat) : Int) = some (.ref ra) ∧ SqT K H ra [.int r.1, .str r.2.1, .int r.2.2] := fun {j r} hj => by
    obtain ⟨rv, hrv, nrv⟩ := NkA.get' ns (show (rows.map kRow)[j]? = some (kRow r) by rw [List.getElem?_map, hj]; rfl)
    obtain ⟨ra, rfl, hra⟩ := Nk.row nrv
    exact ⟨ra, atI_nat hrv, hra⟩
  have ll := Paired.length pr
  refine ⟨_, rfl, pl, rfl, ⟨_, hp⟩, fun D hD => ?_⟩
  refine lc_it (walk_list (xs := js.map fun j => V.int (j : Nat))) (fun i H1 => Ex H H1 ∧ H1 D = some (.lst ((wdsOf (rs.take i)).map V.str))) ⟨Ex.new hD, upd_same⟩ (fun i H1 _ p => p.1.sqL hp) (fun i x H1 H2 hi p y => ?_) (fun H1 p => ?_)
  · obtain ⟨e, hd⟩ := p
    obtain ⟨rfl, hx⟩ := y
    rw [List.getElem?_map] at hx
    obtain ⟨j, hj, rfl⟩ := Option.map_eq_some_iff.mp hx
    obtain ⟨r, hr, hrj⟩ := paired_get pr hj
    obtain ⟨ra, hra, hrt⟩ := rowAt hrj
    have ir := (List.getElem?_eq_some_iff.mp hr).1
    refine ⟨rfl, ?_⟩
    refine ⟨_, rfl, _, rfl, _, _, _, .ref ra, rfl, rfl, e.sqL hs, hra, _, _, _, _, rfl, rfl, e.sqT hrt, rfl, _, hd, ?_, e.mut hD, ?_⟩
    · unfold wdsOf
      rw [List.length_map, List.length_map, List.length_take]
      exact Nat.lt_of_le_of_lt (show _ ≤ 1000 by omega) (by decide)
    · rw [take_next hr]
      unfold wdsOf
      rw [map_snoc, map_snoc]
      exact upd_same
  obtain ⟨e1, hD1⟩ := p
  rw [List.length_map, ll, List.take_length] at hD1
  refine ⟨_, rfl, D, rfl, ⟨_, SqL.of hD1⟩, fun D2 hD2 => ?_⟩
  have hw1 := e1 _ _ hw
  refine lc_it (walk_list (xs := (wdsOf rs).map V.str)) (fun i H2 => Ex H1 H2 ∧ H2 D2 = some (.lst ((sgts tab (rs.take i)).map V.str))) ⟨Ex.new hD2, upd_same⟩ (fun i H2 _ p => SqL.of (p.1 _ _ hD1)) (fun i x H2 H3 hi p y => ?_) (fun H2 p => ?_)
  · obtain ⟨e, hd⟩ := p
    obtain ⟨rfl, hx⟩ := y
    unfold wdsOf at hx
    rw [List.getElem?_map, List.getElem?_map, Option.map_map] at hx
    obtain ⟨r, hr, rfl⟩ := Option.map_eq_some_iff.mp hx
    have ir := (List.getElem?_eq_some_iff.mp hr).1
    have er := take_next hr
    refine ⟨rfl, ?_⟩
    refine ⟨_, rfl, _, rfl, wp, _, rfl, DGet.k (k := .inr r.2.1) (e _ _ hw1), _, rfl, ?_⟩
    rw [valV_tD]
    cases hl : lk tab r.2.1 with
    | none =>
      refine itF rfl ?_
      rw [er, sgts_n hl]
      exact ⟨e, hd⟩
    | some z =>
      refine itT rfl ?_
      refine ⟨_, rfl, _, rfl, wp, .str z, rfl, .inl ⟨_, .inr r.2.1, .inl (e _ _ hw1), rfl, by rw [valV_tD, hl]; rfl⟩, _, hd, ?_, e.mut hD2, ?_⟩
      · have h1 := List.length_filterMap_le (fun r : Row => lk tab r.2.1) (rs.take i)
        unfold sgts
        rw [List.length_take] at h1
        rw [List.length_map]
        exact Nat.lt_of_le_of_lt (show _ ≤ 1000 by omega) (by decide)
      · rw [er, sgts_s hl, map_snoc]
        exact upd_same
  obtain ⟨e2, hD3⟩ := p
  have lw : (wdsOf rs).length = rs.length := List.length_map _
  rw [List.length_map, lw, List.take_length] at hD3
  exact q.of (e1.trans e2) ⟨D2, rfl, hD3⟩
end
end K25
/-! the law's look along a walk -/
namespace K25
open PySem PySem.Spec PyProof.Rows L2
theorem cutV_some {α : Type} (f : α → V) (xs : List α) (lo hi : Option Int) : ∃ ys : List α, cutV (xs.map f) lo hi = ys.map f ∧ ys.length ≤ xs.length := by
  refine ⟨(xs.drop (HT.sIx (xs.map f).length 0 lo)).take (HT.sIx (xs.map f).length (xs.map f).length hi - HT.sIx (xs.map f).length 0 lo), ?_, ?_⟩
  · unfold cutV
    rw [List.map_take, List.map_drop]
  · rw [List.length_take, List.length_drop]
    omega
theorem sgts_nm {tab : Tab} (h : TbOk tab) {rs : List Row} : ∀ s ∈ sgts tab rs, NmOk s := fun s hs => by
  unfold sgts at hs
  obtain ⟨r, _, e⟩ := List.mem_filterMap.mp hs
  exact (h.nm _ (lk_some_mem e)).2
section
variable {P : Program} {w : World} {K : PySem.W.Frag} {mg : Str → Option Value} {base : Heap}
structure WalkIn (K : PySem.W.Frag) (H : Hp) (cv dl m wp : Addr) (us : List V) (X : List It2) (ds : List Int) (S : Sy) (tab : Tab) (U : List Pr) (T : List Int) (f : Str) : Prop where
  hc : SqL K H cv us
  nc : NkA K H us (X.map kIt)
  hd : SqL K H dl (ds.map V.int)
  ld : ds.length ≤ 50
  d0 : ∃ d, ds[0]? = some d
  hM : MacO K H m S
  sg : H wp = some (.dK (tD tab))
  tk : TbOk tab
  u : Uni S.rows S.ft U
  hU : (S.st, []) ∈ U
  t0 : S.st ∈ T
  tc : ∀ r ∈ S.rows, r.1 ∈ T → r.2.2 ∈ T
  live : ∀ s ∈ T, ∃ r ∈ S.rows, r.1 = s
  hf : f ∈ nmsOf S.ft
  hE : ∀ E, ReE S.rows S.ft tab U S.st (nmsOf tab) E → splitE f E ∈ X ∧ sureB f E = false
def sp__law_veiled (K : PySem.W.Frag) : Sp := fun vs H Q _ => ∃ cv dl m wp us X ds S tab U T, ∃ f : Str, vs = [.ref cv, .ref dl, .ref m, .ref wp, .str f] ∧ WalkIn K H cv dl m wp us X ds S tab U T f ∧ Ret H Q fun v H' => v = .bl true
theorem sc__law_veiled : FnScope ["_law_cover", "_law_row_here", "_law_machine_here", "_law_sights_here", "_law_fault", "_law_steps", "_law_table", "_law_walk_here", "_law_seen_here", "_law_pairs", "_law_at"] ["_law_cover", "_law_row_here", "_law_machine_here", "_law_sights_here", "_law_fault"] d__law_veiled.scope := ⟨rfl, rfl, rfl, by decide +kernel, rfl, by decide +kernel, by decide +kernel⟩
theorem ok__law_veiled (T : Tp K mg) : Cal P w K mg base "_law_veiled" 6 ["_law_cover", "_law_row_here", "_law_machine_here", "_law_sights_here", "_law_fault"] (sp__law_veiled K) := by
  refine ⟨_, T.glo 72, ?_⟩
  show Df P w K mg base (d__law_veiled.path K) 6 ["_law_cover", "_law_row_here", "_law_machine_here", "_law_sights_here", "_law_fault"] (sp__law_veiled K)
  refine T.df 69 (d := d__law_veiled) rfl rfl sc__law_veiled (fun vs H Q E h => by obtain ⟨_, _, _, _, _, _, _, _, _, _, _, _, e, _⟩ := h; rw [e]; rfl) (fun _ _ _ _ _ _ us hl => match us, hl with | [_, _, _, _, _], _ => rfl) (fun cdv A outer s H vs Q E hr h => ?_)

  obtain ⟨cv, dl, m, wp, us, X, ds, S, tab, U, TT, f, rfl, h, q⟩ := h
  refine ⟨_, PSs.nox (pss_cons (ps_set (i := 5) sc__law_veiled.nd rfl (Or.inl rfl) (pe_prp (pv 2) T.clsM T.p_Machine_steps (ok_Machine_steps T) hr (by decide)))
      (pss_cons (ps_set (i := 6) sc__law_veiled.nd rfl (Or.inl rfl) (pe_prp (pv 2) T.clsM T.p_Machine_faults (ok_Machine_faults T) hr (by decide)))
      (pss_cons (ps_set (i := 7) sc__law_veiled.nd rfl (Or.inl rfl) (pe_cal (ok__law_walk T) hr (by decide) rfl (pa_cons (pe_slice sl_list (pv 1) (po_some pe_int) (po_some (pe_op op_add pe_int (pe_ix ix_list (pv 1) pe_int (fun _ _ => rfl))))) (pa_cons (pv 5) (pa_cons (pe_prp (pv 2) T.clsM T.p_Machine_start (ok_Machine_start T) hr (by decide)) pa_nil)))))
      (pss_cons (ps_set (i := 8) sc__law_veiled.nd rfl (Or.inl rfl) (pe_cal (ok__law_seen T) hr (by decide) rfl (pa_cons (pv 5) (pa_cons (pv 3) (pa_cons (pv 7) pa_nil)))))
      (pss_cons (ps_set (i := 9) sc__law_veiled.nd rfl (Or.inl rfl) (pe_cal (ok__law_estimate T) hr (by decide) rfl (pa_cons (pe_lst (pa_cons (pe_tup (pa_cons (pe_prp (pv 2) T.clsM T.p_Machine_start (ok_Machine_start T) hr (by decide)) (pa_cons (pe_tup pa_nil) pa_nil))) pa_nil)) (pa_cons (pv 5) (pa_cons (pv 6) (pa_cons (pv 3) pa_nil))))))
      (pss_cons (ps_for PassesOwn.never rfl (pi_range1 rfl (T.free 81) (pa_cons (pe_op op_add (pe_callB call_len_seq rfl (T.free 74) boot_len (pa_cons (pv 8) pa_nil)) pe_int) pa_nil)) (pg_name (i := 10) sc__law_veiled.nd rfl (Or.inl rfl))
      (pss_cons (ps_if (pt_cmpR op_gt (pv 10) pe_int (nomark _))
      (pss_one (ps_set (i := 9) sc__law_veiled.nd rfl (Or.inl rfl) (pe_cal (ok__law_later T) hr (by decide) rfl (pa_cons (pv 9) (pa_cons (pv 5) (pa_cons (pv 6) (pa_cons (pv 3) (pa_cons (pe_ix ix_list (pv 8) (pe_op op_sub (pv 10) pe_int) (fun _ _ => rfl)) pa_nil)))))))) pss_nil)
      (pss_cons (ps_if (pt_cmpR (op_notInK hr) (pe_cal (ok__law_split T) hr (by decide) rfl (pa_cons (pv 9) (pa_cons (pv 4) pa_nil))) (pv 0) (by with_unfolding_all rfl))
      (pss_one (ps_ret pe_bl)) pss_nil)
      (pss_one (ps_if (pt_cmpR (op_inK hr) (pv 4) (pe_ix ix_tup (pe_cal (ok_known T) hr (by decide) rfl (pa_cons (pv 2) (pa_cons (pe_mk T.mkrW (ok_Watch_init T) hr (by decide) rfl (T.glo 23) (pa_cons (pv 3) pa_nil)) (pa_cons (pe_callTy call_tuple_of rfl (T.free 80) boot_tuple (pa_cons (pe_slice sl_list (pv 8) po_none (po_some (pv 10))) pa_nil)) pa_nil)))) pe_int (fun _ _ => rfl)) (by with_unfolding_all rfl))
      (pss_one (ps_ret pe_bl)) pss_nil)))))
      (pss_one (ps_ret pe_bl)))))))), ?_⟩
  have u := h.u
  obtain ⟨A, M⟩ := id h.hM
  have few := M.ok.few
  refine ⟨_, rfl, m, _, _, rfl, M.at_, m, S, rfl, ⟨A, M⟩, fun v1 H1 e1 ⟨sl, rus, ev, hsl, nsl⟩ => ?_⟩
  subst ev
  have M1 := M.mono e1
  refine ⟨_, rfl, m, _, _, rfl, M1.at_, m, S, rfl, ⟨A, M1⟩, fun v2 H2 e2 ⟨fp, ev, hfp⟩ => ?_⟩
  subst ev
  have e12 := e1.trans e2
  obtain ⟨d0, hd0⟩ := h.d0
  have at0 : atI (ds.map V.int) ((0 : Nat) : Int) = some (.int d0) := atI_nat (by rw [List.getElem?_map, hd0]; rfl)
  refine ⟨_, rfl, _, rfl, _, rfl, _, _, _, .int d0, rfl, rfl, e12.sqL h.hd, at0, _, _, rfl, rfl, _, rfl, dl, _, rfl, e12.sqL h.hd, fun p3 hp3 => ?_⟩
  obtain ⟨ds', eds, lds⟩ := cutV_some V.int ds (some 1) (some (1 + d0))
  rw [eds]
  have x3 := Ex.new (o := .lst (ds'.map V.int)) hp3
  have e3 := e12.trans x3
  have M3 := M.mono e3
  have hsl3 := x3 _ _ (e2 _ _ hsl)
  have nsl3 := NkA.mono (e2.trans x3) _ _ nsl
  refine ⟨_, rfl, _, rfl, m, _, _, rfl, M3.at_, m, S, rfl, ⟨A, M3⟩, fun v4 H4 e4 ev => ?_⟩
  subst ev
  have ld := h.ld
  have e34 := e3.trans e4
  refine ⟨p3, ds', sl, rus, S.rows, S.st, TT, rfl, SqL.of (e4 _ _ upd_same), by omega, SqL.of (e4 _ _ hsl3), NkA.mono e4 _ _ nsl3, few, h.t0, h.tc, h.live, fun v5 H5 e5 ⟨wl, js, rs, sE, ev, hwl, pr, pth, lj⟩ => ?_⟩
  subst ev
  have e35 := e34.trans e5
  have e45 := e4.trans e5
  refine ⟨_, rfl, _, rfl, _, rfl, sl, rus, wp, wl, S.rows, tab, js, rs, rfl, SqL.of (e45 _ _ hsl3), NkA.mono e45 _ _ nsl3, e35 _ _ h.sg, SqL.of hwl, pr, lj, fun v6 H6 e6 ⟨sn, ev, hsn⟩ => ?_⟩
  subst ev
  have e36 := e35.trans e6
  have hI : LawIn K H6 sl fp wp S.rows S.ft tab := ⟨⟨rus, SqL.of ((e45.trans e6) _ _ hsl3), NkA.mono (e45.trans e6) _ _ nsl3⟩, ((x3.trans e45).trans e6) _ _ hfp, e36 _ _ h.sg, few⟩
  have ne := fun k hk => path_ne (tab := tab) u h.hU pth (k := k) hk
  have kin : ∀ s ∈ sgts tab rs, s ∈ nmsOf tab := fun s hs => sgts_kind hs
  have re := fun k hk => est_re kin ne k hk
  have nm := sgts_nm h.tk (rs := rs)
  have lss : (sgts tab rs).length ≤ 100 := by
    have h1 := List.length_filterMap_le (fun r : Row => lk tab r.2.1) rs
    have h2 := Paired.length pr
    unfold sgts
    omega
  generalize sgts tab rs = ss at *
  have M6 := M.mono e36
  refine ⟨_, rfl, m, _, _, rfl, M6.at_, m, S, rfl, ⟨A, M6⟩, fun v7 H7 e7 ev => ?_⟩
  subst ev
  refine ⟨by show 0 ≤ sizeLine; decide, fun t1 ht1 => ?_⟩
  refine ⟨by show 2 ≤ sizeLine; decide, fun t2 ht2 => ?_⟩
  refine ⟨by show 1 ≤ sizeLine; decide, fun l0 hl0 => ?_⟩
  have x0 := ((Ex.new (o := .tup []) ht1).to (o := .tup [.int S.st, .ref t1]) ht2).to (o := .lst [.ref t2]) hl0
  have n2 : Nk K (upd (upd (upd H7 t1 (.tup [])) t2 (.tup [.int S.st, .ref t1])) l0 (.lst [.ref t2])) (.ref t2) (kPr (S.st, [])) := Nk.mono (Ex.new hl0) _ _ (Nk.ofPr (p := (S.st, [])) (SqT.of upd_same) ((Ex.new ht2).sqT (SqT.of upd_same)))
  refine ⟨_, rfl, _, rfl, _, rfl, l0, sl, fp, wp, _, S.rows, S.ft, tab, [(S.st, [])], U, rfl, SqL.of upd_same, .cons n2 .nil, hI.mono (e7.trans x0), u, fun p hp => by rw [List.mem_singleton.mp hp]; exact h.hU, fun v8 H8 e8 ⟨r8, us8, ev, hn8, h8, n8⟩ => ?_⟩
  subst ev
  have ef : (cloL S.rows S.ft tab U fun p => p ∈ [(S.st, [])]) = firstE S.rows S.ft tab U S.st := cloL_congr u fun p => List.mem_singleton
  rw [ef] at n8
  have e68 := (e7.trans x0).trans e8
  have e38 := e36.trans e68
  have hI8 := hI.mono e68
  have hsn8 := e68 _ _ hsn
  refine ⟨_, rfl, sn, _, rfl, .inl (SqL.of hsn8), _, _, rfl, rfl, _, rfl, by omega, by rw [List.length_map]; omega, ?_⟩
  refine for_it (walk_range (lo := 0) (n := (ss.map V.str).length + 1)) (fun i σ H9 => ∃ v10 r us, σ = [some (.ref cv), some (.ref dl), some (.ref m), some (.ref wp), some (.str f), some (.ref sl), some (.ref fp), some (.ref wl), some (.ref sn), some (.ref r), v10] ∧ Ex H8 H9 ∧ H9 r = some (.lst us) ∧ NkA K H9 us ((estR S.rows S.ft tab U S.st (ss.take (i - 1))).map kPr))
    ⟨_, r8, us8, rfl, Ex.refl _, h8, n8⟩ (fun _ _ _ _ _ => True.intro) (fun i x σ H9 H10 hi p y => ?_) (fun σ H9 p => ?_)
  · obtain ⟨v10, r, us9, rfl, e9, h9, n9⟩ := p
    obtain ⟨rfl, rfl⟩ := y
    have lsv : (ss.map V.str).length = ss.length := List.length_map _
    have il : i ≤ ss.length := by omega
    have hin := h.hE _ (re i il)
    refine ⟨_, rfl, _, _, rfl, rfl, _, rfl, itE (fun c => ?_) fun c => ?_⟩
    · have hpos : (0 : Int) < 0 + (i : Int) := ofT c
      have i1 : i - 1 < ss.length := by omega
      have hg : ss[i - 1]? = some ss[i - 1] := List.getElem?_eq_getElem i1
      generalize ss[i - 1] = s at hg
      have ats : atI (ss.map V.str) ((0 : Int) + (i : Int) - 1) = some (.str s) := by
        rw [show (0 : Int) + (i : Int) - 1 = ((i - 1 : Nat) : Int) by omega]
        exact atI_nat (by rw [List.getElem?_map, hg]; rfl)
      refine ⟨_, rfl, _, rfl, _, rfl, _, rfl, _, rfl, _, rfl, _, _, rfl, rfl, _, _, _, .str s, rfl, rfl, SqL.of (e9 _ _ hsn8), ats, r, sl, fp, wp, us9, S.rows, S.ft, tab, _, U, s, rfl, SqL.of h9, n9, hI8.mono e9, u, estR_sub _, Nat.lt_trans (estR_len u _) (by decide), fun v10 H10' e10 ⟨r, us9', ev, hn10, h10, n10⟩ => ?_⟩
      subst ev
      rw [← estR_snoc, ← take_next hg, show i - 1 + 1 = i by omega] at n10
      have e9 := e9.trans e10
      have h9 := h10
      have n9 := n10
      clear h10 n10
      generalize us9' = us9 at *
      refine ⟨_, rfl, _, rfl, r, us9, f, _, rfl, SqL.of h9, n9, Nat.lt_trans (estR_len u _) (by decide), fun v11 H11 e11 ⟨b11, ev, n11⟩ => ?_⟩
      subst ev
      have e38b := ((e38.trans e9).trans e11)
      refine ⟨_, rfl, cv, _, X.map kIt, rfl, n11, SqK.l (e38b.sqL h.hc) (NkA.mono e38b _ _ h.nc), Nat.le_trans (kIt_depth _) (by decide), _, rfl, itF (nF ((mem_map_inj kIt_inj).mpr hin.1)) ?_⟩
      have M11 := M.mono e38b
      refine ⟨_, rfl, _, rfl, _, rfl, fun x dx hx hdx ndx => ?_⟩
      have hsg11 := e38b _ _ h.sg
      have ndw : wp ≠ dx := ne_of_none hsg11 hdx
      have nxw : wp ≠ x := ne_of_none hsg11 hx
      have xw : Ex H11 (upd (upd H11 dx (.own x)) x (.ins (cW K) dx [])) := (Ex.new hdx).to (by rw [upd_ne ndx.symm]; exact hx)
      refine ⟨x, dx, wp, tab, rfl, upd_same, xw _ _ hsg11, h.tk, fun H12 b12 hW12 => ⟨rfl, ?_⟩⟩
      have e1112 : Ex H11 H12 := fun b o hb => b12 b o (ne_of_none hb hx) (xw b o hb)
      have e39 := e38b.trans e1112
      have hsn12 := ((e9.trans e11).trans e1112) _ _ hsn8
      refine ⟨_, rfl, _, rfl, _, rfl, sn, _, rfl, SqL.of hsn12, fun p13 hp13 => ?_⟩
      have c13 : cutV (ss.map V.str) none (some ((0 : Int) + (i : Int))) = (ss.take i).map V.str := cutV_to V.str (by omega) (by omega)
      have hs13 : SqL K (upd H12 p13 (.lst (cutV (ss.map V.str) none (some ((0 : Int) + (i : Int)))))) p13 ((ss.take i).map V.str) := by
        rw [← c13]
        exact SqL.of upd_same
      have x13 := Ex.new (o := .lst (cutV (ss.map V.str) none (some ((0 : Int) + (i : Int))))) hp13
      refine ⟨p13, _, rfl, .inl ⟨hs13, fun t14 ht14 => ?_⟩⟩
      have x14 := x13.to (o := .tup ((ss.take i).map V.str)) ht14
      have e40 := e39.trans x14
      refine ⟨m, x, S, tab, t14, ss.take i, U, rfl, ⟨A, M.mono e40⟩, hW12.mono x14, SqT.of upd_same, fun s hs => nm s (List.mem_of_mem_take hs), u, h.hU, fun k hk => ?_, ?_, fun v15 H15 e15 ⟨t15, a4, a5, a6, ev, ht15, ha4⟩ => ?_⟩
      · rw [List.length_take] at hk
        rw [List.take_take, Nat.min_eq_left (by omega)]
        exact ne k (by omega)
      · exact fun z => by have hf := h.hf; rw [z] at hf; cases hf
      subst ev
      refine ⟨_, _, _, _, rfl, rfl, ht15, rfl, ?_⟩
      refine ⟨a4, .text f, _, rfl, .text f, SqK.l ha4 (NkA.strs _), Nat.zero_le _, _, rfl, itF (dF fun z => ?_) ?_⟩
      · have z2 := (mem_map_inj text_inj).mp z
        have z3 := (List.mem_filter.mp z2).2
        rw [hin.2] at z3
        cases z3
      refine ⟨_, r, us9, rfl, ((((e9.trans e11).trans e1112).trans x14).trans e15), ?_, ?_⟩
      · exact (((e11.trans e1112).trans x14).trans e15) _ _ h9
      · rw [Nat.add_sub_cancel]
        exact NkA.mono (((e11.trans e1112).trans x14).trans e15) _ _ n9
    · have hz : i = 0 := by have h := ofF c; omega
      have n9 : NkA K H10 us9 ((estR S.rows S.ft tab U S.st (ss.take i)).map kPr) := by
        rw [hz] at n9 ⊢
        exact n9
      refine ⟨_, rfl, _, rfl, r, us9, f, _, rfl, SqL.of h9, n9, Nat.lt_trans (estR_len u _) (by decide), fun v11 H11 e11 ⟨b11, ev, n11⟩ => ?_⟩
      subst ev
      have e38b := ((e38.trans e9).trans e11)
      refine ⟨_, rfl, cv, _, X.map kIt, rfl, n11, SqK.l (e38b.sqL h.hc) (NkA.mono e38b _ _ h.nc), Nat.le_trans (kIt_depth _) (by decide), _, rfl, itF (nF ((mem_map_inj kIt_inj).mpr hin.1)) ?_⟩
      have M11 := M.mono e38b
      refine ⟨_, rfl, _, rfl, _, rfl, fun x dx hx hdx ndx => ?_⟩
      have hsg11 := e38b _ _ h.sg
      have ndw : wp ≠ dx := ne_of_none hsg11 hdx
      have nxw : wp ≠ x := ne_of_none hsg11 hx
      have xw : Ex H11 (upd (upd H11 dx (.own x)) x (.ins (cW K) dx [])) := (Ex.new hdx).to (by rw [upd_ne ndx.symm]; exact hx)
      refine ⟨x, dx, wp, tab, rfl, upd_same, xw _ _ hsg11, h.tk, fun H12 b12 hW12 => ⟨rfl, ?_⟩⟩
      have e1112 : Ex H11 H12 := fun b o hb => b12 b o (ne_of_none hb hx) (xw b o hb)
      have e39 := e38b.trans e1112
      have hsn12 := ((e9.trans e11).trans e1112) _ _ hsn8
      refine ⟨_, rfl, _, rfl, _, rfl, sn, _, rfl, SqL.of hsn12, fun p13 hp13 => ?_⟩
      have c13 : cutV (ss.map V.str) none (some ((0 : Int) + (i : Int))) = (ss.take i).map V.str := cutV_to V.str (by omega) (by omega)
      have hs13 : SqL K (upd H12 p13 (.lst (cutV (ss.map V.str) none (some ((0 : Int) + (i : Int)))))) p13 ((ss.take i).map V.str) := by
        rw [← c13]
        exact SqL.of upd_same
      have x13 := Ex.new (o := .lst (cutV (ss.map V.str) none (some ((0 : Int) + (i : Int))))) hp13
      refine ⟨p13, _, rfl, .inl ⟨hs13, fun t14 ht14 => ?_⟩⟩
      have x14 := x13.to (o := .tup ((ss.take i).map V.str)) ht14
      have e40 := e39.trans x14
      refine ⟨m, x, S, tab, t14, ss.take i, U, rfl, ⟨A, M.mono e40⟩, hW12.mono x14, SqT.of upd_same, fun s hs => nm s (List.mem_of_mem_take hs), u, h.hU, fun k hk => ?_, ?_, fun v15 H15 e15 ⟨t15, a4, a5, a6, ev, ht15, ha4⟩ => ?_⟩
      · rw [List.length_take] at hk
        rw [List.take_take, Nat.min_eq_left (by omega)]
        exact ne k (by omega)
      · exact fun z => by have hf := h.hf; rw [z] at hf; cases hf
      subst ev
      refine ⟨_, _, _, _, rfl, rfl, ht15, rfl, ?_⟩
      refine ⟨a4, .text f, _, rfl, .text f, SqK.l ha4 (NkA.strs _), Nat.zero_le _, _, rfl, itF (dF fun z => ?_) ?_⟩
      · have z2 := (mem_map_inj text_inj).mp z
        have z3 := (List.mem_filter.mp z2).2
        rw [hin.2] at z3
        cases z3
      refine ⟨_, r, us9, rfl, ((((e9.trans e11).trans e1112).trans x14).trans e15), ?_, ?_⟩
      · exact (((e11.trans e1112).trans x14).trans e15) _ _ h9
      · rw [Nat.add_sub_cancel]
        exact NkA.mono (((e11.trans e1112).trans x14).trans e15) _ _ n9
  · obtain ⟨v10, r, us9, rfl, e9, h9, n9⟩ := p
    exact q.of (e38.trans e9) rfl
end
end K25
/-! the pairs there are; tables that tell the same -/
namespace K25
open PySem PySem.Spec PyProof.Rows L2
/-! ### tables that tell the same -/
section
variable {rows : List Row} {ft gt tab : Tab} {U : List Pr} {st : Int} {kinds : List Str}
theorem behind_tab (h : ∀ w, lk ft w = lk gt w) : behind ft = behind gt := funext fun p => funext fun r => by
  unfold behind
  rw [h]
theorem succP_tab (h : ∀ w, lk ft w = lk gt w) : succP rows ft tab = succP rows gt tab := funext fun p => by
  unfold succP
  rw [behind_tab h]
theorem cloL_tab (h : ∀ w, lk ft w = lk gt w) (I : Pr → Prop) : cloL rows ft tab U I = cloL rows gt tab U I := by
  unfold cloL Clo
  rw [succP_tab h]
theorem firstE_tab (h : ∀ w, lk ft w = lk gt w) : firstE rows ft tab U st = firstE rows gt tab U st := cloL_tab h _
theorem laterE_tab (h : ∀ w, lk ft w = lk gt w) (s : Str) (E : List Pr) : laterE rows ft tab U s E = laterE rows gt tab U s E := by
  unfold laterE
  rw [cloL_tab h]
  unfold Ends
  rw [behind_tab h]
theorem estR_tab (h : ∀ w, lk ft w = lk gt w) (ss : List Str) : estR rows ft tab U st ss = estR rows gt tab U st ss := by
  unfold estR
  rw [firstE_tab h, show (fun E s => laterE rows ft tab U s E) = fun E s => laterE rows gt tab U s E from funext fun E => funext fun s => laterE_tab h s E]
theorem succE_tab (h : ∀ w, lk ft w = lk gt w) : succE rows ft tab U kinds = succE rows gt tab U kinds := funext fun E => by
  unfold succE
  rw [show (fun s => laterE rows ft tab U s E) = fun s => laterE rows gt tab U s E from funext fun s => laterE_tab h s E]
theorem ReE_tab (h : ∀ w, lk ft w = lk gt w) (E : List Pr) : ReE rows ft tab U st kinds E ↔ ReE rows gt tab U st kinds E := by
  unfold ReE
  rw [succE_tab h, firstE_tab h]
theorem Uni.ofTab (u : Uni rows ft U) (h : ∀ w, lk ft w = lk gt w) : Uni rows gt U := ⟨u.nd, u.few, fun p hp r hr e => by rw [← behind_tab h]; exact u.cl p hp r hr e, u.srt, u.short⟩
end
theorem nms_tab {s t : Tab} (hs : TbOk s) (ht : TbOk t) (h : ∀ w, lk s w = lk t w) : nmsOf s = nmsOf t := by
  have srt : ∀ t : Tab, SrtBy .text (nmsOf t) := fun t => srtBy_srt text_inj (alk_texts _) (insAll_nodup List.nodup_nil)
  have mem : ∀ {t : Tab}, TbOk t → ∀ x, x ∈ t.map (·.2) ↔ ∃ w, lk t w = some x := fun {t} ok x => by
    rw [List.mem_map]
    constructor
    · rintro ⟨p, hp, rfl⟩
      exact ⟨p.1, lk_mem ok.nd hp⟩
    · rintro ⟨w, e⟩
      exact ⟨_, lk_some_mem e, rfl⟩
  refine SrtBy.ext text_inj (srt s) (srt t) fun x => ?_
  rw [nmsOf_mem, nmsOf_mem, mem hs, mem ht]
  constructor
  · rintro ⟨w, e⟩; exact ⟨w, by rw [← h]; exact e⟩
  · rintro ⟨w, e⟩; exact ⟨w, by rw [h]; exact e⟩
/-! ### all pairs -/
def subs : List Str → List (List Str)
  | [] => [[]]
  | x :: xs => subs xs ++ (subs xs).map fun l => x :: l
theorem mem_subs : ∀ {N l : List Str}, l ∈ subs N ↔ l.Sublist N
  | [], l => by
    show l ∈ [[]] ↔ _
    rw [List.mem_singleton, List.sublist_nil]
  | x :: xs, l => by
    show l ∈ subs xs ++ (subs xs).map (fun l => x :: l) ↔ _
    rw [List.mem_append, List.mem_map, mem_subs, List.sublist_cons_iff]
    constructor
    · rintro (h | ⟨k, hk, rfl⟩)
      · exact .inl h
      · exact .inr ⟨k, rfl, mem_subs.mp hk⟩
    · rintro (h | ⟨k, rfl, hk⟩)
      · exact .inl h
      · exact .inr ⟨k, mem_subs.mpr hk, rfl⟩
theorem subs_nd : ∀ {N : List Str}, N.Nodup → (subs N).Nodup
  | [], _ => by show ([[]] : List (List Str)).Nodup; simp
  | x :: xs, h => by
    obtain ⟨h1, h2⟩ := List.nodup_cons.mp h
    show (subs xs ++ (subs xs).map fun l => x :: l).Nodup
    rw [List.nodup_append]
    refine ⟨subs_nd h2, ?_, fun a ha b hb e => ?_⟩
    · unfold List.Nodup
      rw [List.pairwise_map]
      refine (subs_nd h2).imp fun n e => ?_
      exact n (List.cons.inj e).2
    · obtain ⟨k, _, rfl⟩ := List.mem_map.mp hb
      rw [e] at ha
      exact h1 ((mem_subs.mp ha).subset List.mem_cons_self)
theorem subs_len : ∀ N : List Str, (subs N).length = 2 ^ N.length
  | [] => rfl
  | x :: xs => by
    show (subs xs ++ (subs xs).map fun l => x :: l).length = _
    rw [List.length_append, List.length_map, subs_len xs, List.length_cons, Nat.pow_succ]
    omega
theorem SrtBy.sub {α : Type} {f : α → NestedKey} {l N : List α} (h : SrtBy f N) (s : l.Sublist N) : SrtBy f l := by
  unfold SrtBy Srt at h ⊢
  exact h.sublist (s.map _)
theorem srt_sublist {l N : List Str} (hl : SrtBy .text l) (hN : SrtBy .text N) (h : ∀ x ∈ l, x ∈ N) : l.Sublist N := by
  have e : l = N.filter fun x => decide (x ∈ l) := by
    refine SrtBy.ext text_inj hl (hN.sub List.filter_sublist) fun x => ?_
    rw [List.mem_filter, decide_eq_true_eq]
    exact ⟨fun hx => ⟨h x hx, hx⟩, fun z => z.2⟩
  rw [e]
  exact List.filter_sublist
def prU (L : List Int) (N : List Str) : List Pr := L.flatMap fun s => (subs N).map fun l => (s, l)
theorem mem_prU {L : List Int} {N : List Str} {p : Pr} : p ∈ prU L N ↔ p.1 ∈ L ∧ p.2.Sublist N := by
  unfold prU
  rw [List.mem_flatMap]
  constructor
  · rintro ⟨s, hs, h⟩
    obtain ⟨l, hl, rfl⟩ := List.mem_map.mp h
    exact ⟨hs, mem_subs.mp hl⟩
  · rintro ⟨h1, h2⟩
    exact ⟨p.1, h1, List.mem_map.mpr ⟨p.2, mem_subs.mpr h2, rfl⟩⟩
theorem prU_nd {N : List Str} (hN : N.Nodup) : ∀ {L : List Int}, L.Nodup → (prU L N).Nodup
  | [], _ => List.nodup_nil
  | s :: L, h => by
    obtain ⟨h1, h2⟩ := List.nodup_cons.mp h
    show ((subs N).map (fun l => ((s, l) : Pr)) ++ prU L N).Nodup
    rw [List.nodup_append]
    refine ⟨?_, prU_nd hN h2, fun a ha b hb e => ?_⟩
    · unfold List.Nodup
      rw [List.pairwise_map]
      exact (subs_nd hN).imp fun n e => n (Prod.mk.inj e).2
    · obtain ⟨l, _, rfl⟩ := List.mem_map.mp ha
      rw [← e] at hb
      exact h1 (mem_prU.mp hb).1
theorem prU_len (L : List Int) (N : List Str) : (prU L N).length = L.length * 2 ^ N.length := by
  induction L with
  | nil => simp [prU]
  | cons s L ih =>
    show ((subs N).map (fun l => ((s, l) : Pr)) ++ prU L N).length = _
    rw [List.length_append, List.length_map, subs_len, ih, List.length_cons, Nat.succ_mul]
    omega
theorem mkU {rows : List Row} {t : Tab} {L : List Int} {N : List Str} (hL : L.Nodup) (l5 : L.length ≤ 5) (hc : ∀ r ∈ rows, r.2.2 ∈ L) (hN : SrtBy .text N) (n2 : N.length ≤ 2) (hv : ∀ w x, lk t w = some x → x ∈ N) : Uni rows t (prU L N) where
  nd := prU_nd hN.nodup hL
  few := by
    rw [prU_len]
    have h1 : 2 ^ N.length ≤ 2 ^ 2 := Nat.pow_le_pow_right (by decide) n2
    have h2 : L.length * 2 ^ N.length ≤ 5 * 4 := Nat.mul_le_mul l5 h1
    omega
  cl := fun p hp r hr _ => by
    obtain ⟨h1, h2⟩ := mem_prU.mp hp
    refine mem_prU.mpr ⟨hc r hr, ?_⟩
    unfold behind
    cases hl : lk t r.2.1 with
    | none => exact h2
    | some n =>
      show (if n ∈ p.2 then p.2 else srtBy .text (p.2 ++ [n])).Sublist N
      by_cases c : n ∈ p.2
      · rw [if_pos c]; exact h2
      · rw [if_neg c]
        have nd : (p.2 ++ [n]).Nodup := by
          rw [List.nodup_append]
          exact ⟨hN.nodup.sublist h2, by simp, fun a ha b hb e => c (by rw [List.mem_singleton.mp hb] at e; rw [← e]; exact ha)⟩
        refine srt_sublist (srtBy_srt text_inj (alk_texts _) nd) hN fun x hx => ?_
        rw [srtBy_mem, List.mem_append, List.mem_singleton] at hx
        rcases hx with hx | rfl
        · exact h2.subset hx
        · exact hv _ _ hl
  srt := fun p hp => hN.sub (mem_prU.mp hp).2
  short := fun p hp => Nat.le_trans (mem_prU.mp hp).2.length_le (by omega)
/-! ### states reached -/
theorem clo_rch {rows : List Row} {ft tab : Tab} {st : Int} {I : Pr → Prop} (hI : ∀ p, I p → RchS rows st p.1) {p : Pr} (h : Clo rows ft tab I p) : RchS rows st p.1 := by
  induction h with
  | base i => exact hI _ i
  | step _ m ih =>
    obtain ⟨r, hr, e1, _, rfl⟩ := mem_succP.mp m
    exact .step ih (mem_succS.mpr ⟨r, hr, e1, rfl⟩)
theorem ReE.rch {rows : List Row} {ft tab : Tab} {U : List Pr} {st : Int} {kinds : List Str} (u : Uni rows ft U) (hU : (st, []) ∈ U) {E : List Pr} (h : ReE rows ft tab U st kinds E) : ∀ p ∈ E, RchS rows st p.1 := by
  induction h with
  | base e =>
    subst e
    exact fun p hp => clo_rch (fun q e => by rw [e]; exact .base rfl) ((cloL_mem u fun q e => by rw [e]; exact hU).mp hp)
  | @step E' F h' m ih =>
    obtain ⟨s, _, e, _⟩ := mem_succE.mp m
    subst e
    have sub := ReE.sub h'
    intro p hp
    refine clo_rch (fun q e => ?_) ((cloL_mem u fun q => Ends.in_U u sub).mp hp)
    obtain ⟨z, hz, r, hr, e1, _, rfl⟩ := e
    exact .step (ih z hz) (mem_succS.mpr ⟨r, hr, e1, rfl⟩)
theorem split_rch {rows : List Row} {st : Int} {f : Str} {E : List Pr} (h : ∀ p ∈ E, RchS rows st p.1) : (∀ s ∈ (splitE f E).1, RchS rows st s) ∧ ∀ s ∈ (splitE f E).2, RchS rows st s := by
  constructor
  · intro s hs
    obtain ⟨p, hp, e⟩ := split_mem1.mp hs
    have := h p hp
    unfold prj at e
    rw [(Prod.mk.inj e).1] at this
    exact this
  · intro s hs
    obtain ⟨p, hp, e⟩ := split_mem2.mp hs
    have := h p hp
    unfold prj at e
    rw [(Prod.mk.inj e).1] at this
    exact this
/-! ### the law's own table -/
theorem xTab_lk {bad : List Str} {w : Str} : lk (xTab bad) w = some ("x" : Str) ↔ w ∈ bad := by
  constructor
  · intro h
    have h2 := lk_some_mem h
    unfold xTab at h2
    obtain ⟨y, hy, e⟩ := List.mem_map.mp h2
    rw [← (Prod.mk.inj e).1]
    exact hy
  · intro h
    by_cases c : lk (xTab bad) w = none
    · rw [lk_none] at c
      have m : (w, ("x" : Str)) ∈ xTab bad := List.mem_map.mpr ⟨w, h, rfl⟩
      exact absurd (List.mem_map.mpr ⟨_, m, rfl⟩ : w ∈ (xTab bad).map (·.1)) c
    · cases hl : lk (xTab bad) w with
      | none => exact absurd hl c
      | some z =>
        have h2 := lk_some_mem hl
        unfold xTab at h2
        obtain ⟨y, hy, e⟩ := List.mem_map.mp h2
        rw [← (Prod.mk.inj e).2]
theorem bad_mem {t : Tab} (h : TbOk t) {f w : Str} : w ∈ badOf t f ↔ lk t w = some f := by
  unfold badOf
  rw [List.mem_map]
  constructor
  · rintro ⟨p, hp, rfl⟩
    obtain ⟨h1, h2⟩ := List.mem_filter.mp hp
    rw [lk_mem h.nd h1, ofT h2]
  · intro e
    exact ⟨_, List.mem_filter.mpr ⟨lk_some_mem e, dT rfl⟩, rfl⟩
theorem bad_nd {t : Tab} (h : TbOk t) (f : Str) : (badOf t f).Nodup := h.nd.sublist (List.filter_sublist.map _)
theorem bad_len (t : Tab) (f : Str) : (badOf t f).length ≤ t.length := by
  unfold badOf
  rw [List.length_map]
  exact List.length_filter_le _ _
theorem xTab_val {bad : List Str} {w x : Str} (h : lk (xTab bad) w = some x) : x ∈ (["x"] : List Str) := by
  have h2 := lk_some_mem h
  unfold xTab at h2
  obtain ⟨y, hy, e⟩ := List.mem_map.mp h2
  rw [← (Prod.mk.inj e).2]
  exact List.mem_singleton.mpr rfl
theorem prs_in {L : List Int} {x : It2} (h1 : ∀ s ∈ x.1, s ∈ L) (h2 : ∀ s ∈ x.2, s ∈ L) : ∀ p ∈ prsOf x, p ∈ prU L ["x"] := fun p hp => by
  unfold prsOf at hp
  rcases List.mem_append.mp hp with h | h
  · obtain ⟨s, hs, rfl⟩ := List.mem_map.mp h
    exact mem_prU.mpr ⟨h1 s hs, List.Sublist.refl _⟩
  · obtain ⟨s, hs, rfl⟩ := List.mem_map.mp h
    exact mem_prU.mpr ⟨h2 s hs, List.nil_sublist _⟩
end K25
set_option pp.maxSteps 1500
set_option pp.deepTerms false
/-! the law -/
namespace K25
open PySem PySem.Spec PyProof.Rows L2
theorem ExB.tr {a : Addr} {H H1 H2 : Hp} (e : ExB a H H1) (g : ExB a H1 H2) : ExB a H H2 := fun b o n h => g b o n (e b o n h)
theorem nm_zzz : NmOk "zzz" := by
  refine ⟨by decide +kernel, by decide +kernel, ?_⟩
  decide +kernel
theorem nm_zz : NmOk "zz" := by
  refine ⟨by decide +kernel, by decide +kernel, ?_⟩
  decide +kernel
theorem zzz_tab {tab : Tab} (h : ∀ p ∈ tab, p.1 ≠ "zzz") : ([(("zzz" : Str), ("zz" : Str))] ++ tab).filter (fun p => !decide (p.1 ∈ (["zzz"] : List Str))) = tab := by
  rw [List.filter_append]
  have e1 : [(("zzz" : Str), ("zz" : Str))].filter (fun p => !decide (p.1 ∈ (["zzz"] : List Str))) = [] := by simp
  have e2 : tab.filter (fun p => !decide (p.1 ∈ (["zzz"] : List Str))) = tab := by
    rw [List.filter_eq_self]
    intro p hp
    have := h p hp
    simp [this]
  rw [e1, e2]
  rfl
def dgSizes : List Int := [21] ++ (List.replicate 20 [64]).flatten
section
variable {P : Program} {w : World} {K : PySem.W.Frag} {mg : Str → Option Value} {base : Heap}
def sp_law (K : PySem.W.Frag) : Sp := fun vs H Q _ => ∃ a, ∃ sc : List Int, vs = [.ref a] ∧ SqL K H a (sc.map V.int) ∧ Ret H Q fun v H' => v = .bl true
theorem sc_law : FnScope ["_law_script", "_law_sights_here", "_law_machine_here", "_law_watch", "_law_found", "_law_fault", "_law_start", "_law_steps", "_law_table", "_law_names_here", "_law_marks", "_law_bad", "_law_row_here", "_law_cover", "_law_every", "_law_k", "_law_digits", "_law_pairs"] ["_law_script"] d_law.scope := ⟨rfl, rfl, rfl, by decide +kernel, rfl, by decide +kernel, by decide +kernel⟩
theorem law_body (T : Tp K mg) {cdv : Value} {A : Around} {outer : List Env} {s : Shared} {H : Hp} {vs : List V} {Q : VK} {E : XK} (hr : Room 7 (A.deeper (envOfC d_law.qual d_law.scope s.heap.objs.size (d_law.path K) cdv))) (h : sp_law K vs H Q E) :
    ∃ t, PSs (cxOf CX0 P w K mg base ["_law_script", "_law_sights_here", "_law_machine_here", "_law_watch", "_law_found", "_law_fault", "_law_start", "_law_steps", "_law_table", "_law_names_here", "_law_marks", "_law_bad", "_law_row_here", "_law_cover", "_law_every", "_law_k", "_law_digits", "_law_pairs"] d_law.qual d_law.scope (d_law.path K) cdv A outer s H E) d_law.body t ∧ t { nx := fun _ H' => Q .non H', rt := Q } (start ["_law_script", "_law_sights_here", "_law_machine_here", "_law_watch", "_law_found", "_law_fault", "_law_start", "_law_steps", "_law_table", "_law_names_here", "_law_marks", "_law_bad", "_law_row_here", "_law_cover", "_law_every", "_law_k", "_law_digits", "_law_pairs"] vs) H := by
  obtain ⟨a, sc, rfl, ha, q⟩ := h
  refine ⟨_, PSs.nox (pss_cons (ps_asg (pe_cal (ok__law_system T) hr (by decide) rfl (pa_cons (pv 0) (pa_cons pe_int (pa_cons pe_int (pa_cons pe_int pa_nil))))) (pg_unl rfl (pgs_cons (pg_name (i := 6) sc_law.nd rfl (Or.inl rfl)) (pgs_cons (pg_name (i := 7) sc_law.nd rfl (Or.inl rfl)) (pgs_cons (pg_name (i := 8) sc_law.nd rfl (Or.inl rfl)) (pgs_cons (pg_name (i := 9) sc_law.nd rfl (Or.inl rfl)) (pgs_cons (pg_name (i := 10) sc_law.nd rfl (Or.inl rfl)) pgs_nil)))))))
      (pss_cons (ps_set (i := 1) sc_law.nd rfl (Or.inl rfl) (pe_cal (ok__law_sights T) hr (by decide) rfl (pa_cons (pe_cal (ok__law_cell T) hr (by decide) rfl (pa_cons (pv 0) (pa_cons pe_int pa_nil))) (pa_cons (pv 9) (pa_cons (pv 10) pa_nil)))))
      (pss_cons (ps_set (i := 2) sc_law.nd rfl (Or.inl rfl) (pe_mk T.mkrM (ok_Machine_init T) hr (by decide) rfl (T.glo 6) (pa_cons (pv 6) (pa_cons (pv 7) (pa_cons (pv 8) pa_nil)))))
      (pss_cons (ps_set (i := 3) sc_law.nd rfl (Or.inl rfl) (pe_mk T.mkrW (ok_Watch_init T) hr (by decide) rfl (T.glo 23) (pa_cons (pe_oneK hr pe_str pe_str) pa_nil)))
      (pss_cons (ps_aug (i := 3) sc_law.nd rfl (Or.inl rfl) (pe_callTy call_dictD rfl (T.free 78) boot_dict (pa_cons (pv 1) pa_nil)) (ip_own T.clsW T.watch.1 T.watch.2.2.1 (ok_Watch_ior T) hr (by decide) rfl))
      (pss_cons (ps_aug (i := 3) sc_law.nd rfl (Or.inl rfl) (pe_lst (pa_cons pe_str pa_nil)) (ip_own T.clsW T.watch.1 T.watch.2.2.2.1 (ok_Watch_isub T) hr (by decide) rfl))
      (pss_cons (ps_set (i := 4) sc_law.nd rfl (Or.inl rfl) (pe_ix ix_list (pe_cal (ok__law_all_estimates T) hr (by decide) rfl (pa_cons (pv 6) (pa_cons (pv 7) (pa_cons (pv 8) (pa_cons (pv 1) (pa_cons pe_int pa_nil)))))) pe_int (fun _ _ => rfl)))
      (pss_cons (ps_if (pt_cmpR op_gt (pe_callB call_len_seq rfl (T.free 74) boot_len (pa_cons (pv 4) pa_nil)) pe_int (nomark _))
      (pss_one (ps_ret pe_bl)) pss_nil)
      (pss_cons (ps_for PassesOwn.never rfl (pi_list (pe_callB (call_sortedSetK rfl hr) rfl (T.free 76) boot_sorted (pa_cons (pe_callTy (call_setK rfl hr) rfl (T.free 79) boot_set (pa_cons (pe_listVals rfl hr rfl (T.free 77) (pv 8)) pa_nil)) pa_nil))) (pg_name (i := 5) sc_law.nd rfl (Or.inr rfl))
      (pss_cons (ps_set (i := 11) sc_law.nd rfl (Or.inl rfl) (pe_cal (ok__law_bad_words T) hr (by decide) rfl (pa_cons (pv 8) (pa_cons (pv 5) pa_nil))))
      (pss_cons (ps_set (i := 12) sc_law.nd rfl (Or.inl rfl) (pe_cal (ok_telling T) hr (by decide) rfl (pa_cons (pv 2) (pa_cons (pv 3) (pa_cons (pv 5) pa_nil)))))
      (pss_cons (ps_set (i := 13) sc_law.nd rfl (Or.inl rfl) (pe_cal (ok_veil T) hr (by decide) rfl (pa_cons (pv 2) (pa_cons (pv 3) (pa_cons (pv 5) pa_nil)))))
      (pss_cons (ps_setLc (i := 14) (own := [("_law_pairs", 17)]) rfl sc_law.nd rfl rfl (sw_true rfl rfl rfl (by decide +kernel)) (pi_list (pv 4)) (blkOk_by (N := ["_law_script", "_law_sights_here", "_law_machine_here", "_law_watch", "_law_found", "_law_fault", "_law_start", "_law_steps", "_law_table", "_law_names_here", "_law_marks", "_law_bad", "_law_row_here", "_law_cover", "_law_every", "_law_k", "_law_digits", "_law_pairs"]) (sc := d_law.scope) (by decide +kernel)) (fun _ _ _ _ _ => (pg_name (i := 17) sc_law.nd rfl (Or.inl rfl))) (fun _ _ _ _ _ => pts_nil) (fun _ _ _ _ _ => (pe_cal (ok__law_split T) hr (by decide) rfl (pa_cons (pv 17) (pa_cons (pv 5) pa_nil)))))
      (pss_cons (ps_if (pt_not (pt_val (pe_cal (ok__law_flag T) hr (by decide) rfl (pa_cons (pe_cal (ok_is_veil T) hr (by decide) rfl (pa_cons (pv 2) (pa_cons (pv 3) (pa_cons (pv 5) (pa_cons (pe_lst pa_nil) pa_nil))))) (pa_cons pe_bl pa_nil)))))
      (pss_one (ps_ret pe_bl)) pss_nil)
      (pss_cons (ps_if (pt_not (pt_val (pe_cal (ok__law_flag T) hr (by decide) rfl (pa_cons (pe_cal (ok_is_veil T) hr (by decide) rfl (pa_cons (pv 2) (pa_cons (pv 3) (pa_cons (pv 5) (pa_cons (pv 14) pa_nil))))) (pa_cons (pe_cmpR op_isN (pv 12) pe_non (nomark _)) pa_nil)))))
      (pss_one (ps_ret pe_bl)) pss_nil)
      (pss_one (ps_if (pt_cmpR op_notN (pv 12) pe_non (nomark _))
      (pss_one (ps_if (PW.pt (pw_or (pt_cmpR op_notN (pv 13) pe_non (nomark _)) (pw_or1 (pt_not (pt_val (pe_cal (ok__law_tells T) hr (by decide) rfl (pa_cons (pv 12) (pa_cons (pv 6) (pa_cons (pv 7) (pa_cons (pv 8) (pa_cons (pv 1) (pa_cons (pv 5) pa_nil))))))))))))
      (pss_one (ps_ret pe_bl)) pss_nil)) (pss_cons (ps_if (pt_not (pt_val (pe_cal (ok__law_is_veil T) hr (by decide) rfl (pa_cons (pv 13) (pa_cons (pv 6) (pa_cons (pv 7) (pa_cons (pv 11) (pa_cons (pv 1) pa_nil))))))))
      (pss_one (ps_ret pe_bl)) pss_nil)
      (pss_cons (ps_if (pt_not (pt_val (pe_cal (ok__law_flag T) hr (by decide) rfl (pa_cons (pe_cal (ok_is_veil T) hr (by decide) rfl (pa_cons (pv 2) (pa_cons (pv 3) (pa_cons (pv 5) (pa_cons (pv 13) pa_nil))))) (pa_cons pe_bl pa_nil)))))
      (pss_one (ps_ret pe_bl)) pss_nil)
      (pss_one (ps_for PassesOwn.never rfl (pi_range1 rfl (T.free 81) (pa_cons pe_int pa_nil)) (pg_name (i := 15) sc_law.nd rfl (Or.inl rfl))
      (pss_cons (ps_set (i := 16) sc_law.nd rfl (Or.inl rfl) (pe_cal (ok__law_row T) hr (by decide) rfl (pa_cons (pe_cal (ok__law_cell T) hr (by decide) rfl (pa_cons (pv 0) (pa_cons (pe_op op_add pe_int (pv 15)) pa_nil))) (pa_cons (pe_op op_cat (pe_lst (pa_cons pe_int pa_nil)) (pe_op op_rep (pe_lst (pa_cons pe_int pa_nil)) pe_int)) pa_nil))))
      (pss_one (ps_if (pt_not (pt_val (pe_cal (ok__law_veiled T) hr (by decide) rfl (pa_cons (pv 13) (pa_cons (pv 16) (pa_cons (pv 2) (pa_cons (pv 1) (pa_cons (pv 5) pa_nil))))))))
      (pss_one (ps_ret pe_bl)) pss_nil))))))))))))))))
      (pss_one (ps_ret pe_bl))))))))))), ?_⟩
  refine ⟨_, rfl, a, sc, rfl, ha, fun v1 H1 e1 ⟨r1, sl, us, fp, nl, ml, st, rows, ft, L, ns, ms, ev, hr1, hsl, nsl, hfp, hnl, hml, sy⟩ => ?_⟩
  subst ev
  refine ⟨r1, _, rfl, SqL.of hr1, rfl, _, _, rfl, _, _, rfl, _, _, rfl, _, _, rfl, _, _, rfl, rfl, ?_⟩
  refine ⟨_, rfl, a, sc, 3, rfl, e1.sqL ha, fun v2 H2 e2 ⟨c2, ev⟩ => ?_⟩
  subst ev
  refine ⟨_, rfl, _, rfl, c2, nl, ml, ns, ms, rfl, SqL.of (e2 _ _ hnl), SqL.of (e2 _ _ hml), sy.lns, sy.lms, sy.ndn, fun v3 H3 e3 ⟨wp, tab, ev, hwp, ti⟩ => ?_⟩
  subst ev
  have e13 := e2.trans e3
  have hsl3 := e13 _ _ hsl
  have nsl3 := NkA.mono e13 _ _ nsl
  have hfp3 := e13 _ _ hfp
  have e03 := e1.trans e13
  have tk : TbOk tab := ⟨ti.nd, by have := ti.len; have := sy.lns; omega, fun p hp => ⟨sy.nmn _ (ti.key p hp), (ti.val p hp).elim (sy.nmn _) (sy.nmm _)⟩⟩
  have tzz : ∀ p ∈ tab, p.1 ≠ "zzz" := fun p hp => sy.zz _ (ti.key p hp)
  have t4 : tab.length ≤ 4 := by have := ti.len; have := sy.lns; omega
  clear hr1 hnl hml ti
  refine ⟨_, rfl, _, rfl, _, rfl, fun x dx hx hdx ndx => ?_⟩
  have xw : Ex H3 (upd (upd H3 dx (.own x)) x (.ins (cM K) dx [])) := (Ex.new hdx).to (by rw [upd_ne ndx.symm]; exact hx)
  refine ⟨x, dx, st, sl, us, rows, fp, ft, L, rfl, upd_same, SqL.of (xw _ _ hsl3), NkA.mono xw _ _ nsl3, xw _ _ hfp3, sy.sy, fun H4 S b4 hM so => ⟨rfl, ?_⟩⟩
  have e34 : Ex H3 H4 := fun b o hb => b4 b o (ne_of_none hb hx) (xw b o hb)
  refine fun D hD => ?_
  refine ⟨upd_same, [(.inr "zzz", .str "zz")], rfl, by show 1 ≤ 15; decide, ?_⟩
  have xD : Ex H4 (upd (upd H4 D (.dK [])) D (.dK (mergeK [] [(.inr "zzz", .str "zz")]))) := (Ex.new hD).mut hD
  have hD1 : (upd (upd H4 D (.dK [])) D (.dK (mergeK [] [(.inr "zzz", .str "zz")]))) D = some (.dK (tD [("zzz", "zz")])) := upd_same
  refine fun wx wdx hwx hwdx nwdx => ?_
  have hwx4 : H4 wx = none := xD.free hwx
  have nDx : D ≠ wx := ne_of_none hD1 hwx
  have nDdx : D ≠ wdx := ne_of_none hD1 hwdx
  have xw2 := (xD.to (o := .own wx) hwdx).b.mut (a := wx) (o := .ins (cW K) wdx [])
  refine ⟨wx, wdx, D, [("zzz", "zz")], rfl, upd_same, (upd_ne nDx).trans ((upd_ne nDdx).trans hD1), ⟨by simp, by show 1 ≤ 50; decide, fun p hp => by rw [List.mem_singleton.mp hp]; exact ⟨nm_zzz, nm_zz⟩⟩, fun H5 b5 hW5 => ⟨rfl, ?_⟩⟩
  have eB5 : ExB wx H4 H5 := xw2.tr b5
  have e45 : Ex H4 H5 := eB5.ex hwx4
  obtain ⟨wd, wt, hWa, hWb, hWc⟩ := id hW5
  have hwp4 := e34 _ _ hwp
  have hwp5 := e45 _ _ hwp4
  refine ⟨_, rfl, _, rfl, wp, _, rfl, .inl hwp5, fun p hp => ?_⟩
  have xp := Ex.new (o := .dK (tD tab)) hp
  refine ⟨wx, wd, _, rfl, xp _ _ hWa, wx, p, [("zzz", "zz")], tab, rfl, hW5.mono xp, upd_same, tk, fun p hp => ?_, by show 1 + tab.length ≤ 50; omega, fun H6 b6 hW6 => ?_⟩
  · rw [lk_cons, if_neg (fun z => tzz p hp z.symm)]
    rfl
  obtain ⟨wd2, wt2, hWa2, hWb2, hWc2⟩ := id hW6
  have eB6 : ExB wx H4 H6 := (eB5.trans xp).tr b6
  refine ⟨_, rfl, by show 1 ≤ sizeLine; decide, fun l hl => ?_⟩
  have xl := Ex.new (o := .lst [.str "zzz"]) hl
  refine ⟨wx, wd2, _, rfl, xl _ _ hWa2, wx, l, _, ["zzz"], rfl, hW6.mono xl, SqL.of upd_same, fun x hx => (by rw [List.mem_singleton.mp hx]; exact nm_zzz), fun H7 b7 hW7 => ?_⟩
  rw [zzz_tab tzz] at hW7
  have e47 : Ex H4 H7 := ((eB6.trans xl).tr b7).ex hwx4
  clear hWa hWb hWc hWa2 hWb2 hWc2 hW5 hW6 eB5 eB6 e45 hwp5 b5 b6 b7 xw2 hD1 xD xl xp hp hl
  have e37 := e34.trans e47
  have e07 := e03.trans e37
  have hM7 := hM.mono e47
  obtain ⟨est, erows, elk, ms4, met4⟩ := so
  subst est erows
  obtain ⟨A, M7⟩ := id hM7
  have few := M7.ok.few
  have tkS := M7.ok.ft
  have kft : nmsOf S.ft = nmsOf ft := nms_tab tkS sy.sy.tok elk
  have nft : SrtBy .text (nmsOf ft) := srtBy_srt text_inj (alk_texts _) (insAll_nodup List.nodup_nil)
  have n2 : (nmsOf ft).length ≤ 2 := Nat.le_trans (nmsOf_len _) sy.ft2
  have u : Uni S.rows ft (prU L (nmsOf ft)) := mkU sy.lnd sy.l5 (fun r hr => (sy.rl r hr).2) nft n2 fun w x e => nmsOf_mem.mpr (List.mem_map.mpr ⟨_, lk_some_mem e, rfl⟩)
  have hU : (S.st, []) ∈ prU L (nmsOf ft) := mem_prU.mpr ⟨sy.sy.tst, List.nil_sublist _⟩
  generalize prU L (nmsOf ft) = U at u hU
  have uS : Uni S.rows S.ft U := u.ofTab fun w => (elk w).symm
  have hI7 : LawIn K H7 sl fp wp S.rows ft tab := ⟨⟨us, SqL.of (e37 _ _ hsl3), NkA.mono e37 _ _ nsl3⟩, e37 _ _ hfp3, e47 _ _ hwp4, few⟩
  refine ⟨_, rfl, _, rfl, _, rfl, _, rfl, S.st, sl, fp, wp, S.rows, ft, tab, U, rfl, hI7, u, hU, tk.few, fun v8 H8 e8 ⟨r8, F, R, vs, G, ev, hr8, hF, lkG, g200, gre, gor⟩ => ?_⟩
  subst ev
  refine ⟨_, _, _, .ref F, rfl, rfl, SqL.of hr8, rfl, ?_⟩
  have e08 := e07.trans e8
  have lvs := lkG.length
  rw [List.length_map] at lvs
  refine ⟨_, rfl, F, vs, rfl, .inl (SqL.of hF), _, _, rfl, rfl, _, rfl, itE (fun c => ?_) fun c => ?_⟩
  · exact q.of e08 rfl
  have g120 : G.length ≤ 120 := by have h := ofF c; omega
  obtain ⟨gnd, gmem⟩ := gor.resolve_left (by omega)
  have gS : ∀ E, E ∈ G ↔ ReE S.rows S.ft tab U S.st (nmsOf tab) E := fun E => by
    rw [ReE_tab elk]
    exact ⟨gre E, gmem E⟩
  clear gor gre gmem hr8 c
  have metL : ∀ s ∈ S.met, s ∈ L := fun s hs => RchS.sub sy.sy.tst sy.sy.tcl ((met4 s).mp hs)
  have metn : S.met.length ≤ 20 := Nat.le_trans (len_in ms4 metL) sy.sy.tfew
  have sc5 : StC S.rows S.met := ⟨metn, fun s hs r hr e => (met4 _).mpr (.step ((met4 s).mp hs) (mem_succS.mpr ⟨r, hr, e, rfl⟩))⟩
  have stm : S.st ∈ S.met := (met4 _).mpr (.base rfl)
  have rchE : ∀ f E, ReE S.rows S.ft tab U S.st (nmsOf tab) E → (∀ s ∈ (splitE f E).1, RchS S.rows S.st s) ∧ ∀ s ∈ (splitE f E).2, RchS S.rows S.st s := fun f E h => split_rch (ReE.rch uS hU h)
  have itOk : ∀ f E, ReE S.rows S.ft tab U S.st (nmsOf tab) E → ItOk S (splitE f E) := fun f E h => ⟨sset_srt _, sset_srt _, fun s hs => (met4 s).mpr ((rchE f E h).1 s hs), fun s hs => (met4 s).mpr ((rchE f E h).2 s hs)⟩
  have hI8 := hI7.mono e8
  have hM8 := hM7.mono e8
  have hW8 := hW7.mono e8
  refine kinds_rd rfl hI8.ft (by have := sy.ft2; omega) fun lK H9 e9 hK => ?_
  refine ⟨lK, rfl, ⟨_, SqL.of hK⟩, ?_⟩
  refine for_it (walk_list (xs := (nmsOf ft).map V.str)) (fun i σ H10 => ∃ v5 v11 v12 v13 v14 v15 v16 v17, σ = [some (.ref a), some (.ref wp), some (.ref x), some (.ref wx), some (.ref F), v5, some (.int S.st), some (.ref sl), some (.ref fp), some (.ref nl), some (.ref ml), v11, v12, v13, v14, v15, v16, v17] ∧ Ex H9 H10)
    ⟨_, _, _, _, _, _, _, _, rfl, Ex.refl _⟩ (fun i σ H10 _ p => by obtain ⟨_, _, _, _, _, _, _, _, _, e⟩ := p; exact SqL.of (e _ _ hK)) (fun i y σ H10 H11 hi p y' => ?_) (fun σ H10 p => ?_)
  · obtain ⟨v5, v11, v12, v13, v14, v15, v16, v17, rfl, e10⟩ := p
    obtain ⟨rfl, hy⟩ := y'
    rw [List.getElem?_map] at hy
    obtain ⟨f, hf, rfl⟩ := Option.map_eq_some_iff.mp hy
    have hfm := List.mem_of_getElem? hf
    have hfS : f ∈ nmsOf S.ft := by rw [kft]; exact hfm
    have e8x := e9.trans e10
    refine ⟨_, rfl, _, rfl, fp, ft, f, rfl, (hI8.mono e8x).ft, sy.sy.tok, fun v12' H12 e12 ⟨bl, ev, hbl⟩ => ?_⟩
    subst ev
    have e8y := e8x.trans e12
    refine ⟨_, rfl, _, rfl, _, rfl, x, wx, S, tab, f, U, G, rfl, hM8.mono e8y, hW8.mono e8y, uS, hU, g120, fun E hE => (gS E).mpr hE, hfS, fun v13' H13 e13' ⟨rws, al, hv⟩ => ?_⟩
    have e8z := e8y.trans e13'
    refine ⟨_, rfl, _, rfl, _, rfl, x, wx, S, tab, f, U, G, rfl, hM8.mono e8z, hW8.mono e8z, uS, hU, g120, fun E hE => (gS E).mpr hE, hfS, fun v14' H14 e14 ⟨rws2, al2, hv2⟩ => ?_⟩
    have e8w := e8z.trans e14
    have hF14 := e8w _ _ hF
    have lk14 := LkA.mono e8w lkG
    refine ⟨_, rfl, F, rfl, ⟨_, SqL.of hF14⟩, fun D2 hD2 => ?_⟩
    refine lc_it (walk_list (xs := vs)) (fun j H15 => ∃ ws, Ex H14 H15 ∧ H15 D2 = some (.lst ws) ∧ NkA K H15 ws (((G.take j).map (splitE f)).map kIt)) ⟨[], Ex.new hD2, upd_same, .nil⟩ (fun j H15 _ p => by obtain ⟨ws, e, _⟩ := p; exact SqL.of (e _ _ hF14)) (fun j y H15 H16 hj p y' => ?_) (fun H15 p => ?_)
    · obtain ⟨ws, e15, hws, nws⟩ := p
      obtain ⟨rfl, hy⟩ := y'
      have jG : j < G.length := by omega
      have hget : G[j]? = some G[j] := List.getElem?_eq_getElem jG
      generalize G[j] = E at hget
      obtain ⟨ae, use, hae, hsq, nE⟩ := lk14.get (show (G.map kE)[j]? = some (kE E) by rw [List.getElem?_map, hget]; rfl)
      rw [hae] at hy
      cases hy
      have rE := (gS E).mp (List.mem_of_getElem? hget)
      have lws := nws.length
      rw [List.length_map, List.length_map, List.length_take] at lws
      refine ⟨rfl, ?_⟩
      refine ⟨_, rfl, _, rfl, ae, use, f, E, rfl, e15.sqL hsq, NkA.mono e15 _ _ nE, Nat.lt_trans (ReE.len uS rE) (by decide), fun v17 H17 e17 ⟨b17, ev, n17⟩ => ?_⟩
      subst ev
      have hw17 := e17 _ _ hws
      refine ⟨ws, hw17, Nat.lt_of_le_of_lt (show ws.length ≤ 1000 by omega) (by decide), ws ++ [.ref b17], (e15.trans e17).mut hD2, upd_same, ?_⟩
      rw [take_next hget, map_snoc, map_snoc]
      exact NkA.append (NkA.other (NkA.mono e17 _ _ nws) hw17) (.cons (Nk.upd hw17 lst_ne _ _ n17) .nil)
    obtain ⟨ws, e15, hws, nws⟩ := p
    rw [lvs, List.take_length] at nws
    have e8v := e8w.trans e15
    have hXe : ∀ z, z ∈ G.map (splitE f) ↔ ∃ E, ReE S.rows S.ft tab U S.st (nmsOf tab) E ∧ z = splitE f E := fun z => by
      rw [List.mem_map]
      constructor
      · rintro ⟨E, hE, rfl⟩; exact ⟨E, (gS E).mp hE, rfl⟩
      · rintro ⟨E, hE, rfl⟩; exact ⟨E, (gS E).mpr hE, rfl⟩
    -- is_veil of the empty list
    refine ⟨_, rfl, _, rfl, _, rfl, by show 0 ≤ sizeLine; decide, fun l0 hl0 => ?_⟩
    have xl0 := Ex.new (o := .lst []) hl0
    have e8u := e8v.trans xl0
    refine ⟨x, wx, S, tab, f, l0, [], [], rfl, hM8.mono e8u, hW8.mono e8u, SqL.of upd_same, .nil, fun z hz => (nomatch hz), sc5, stm, by show 0 < 1000; decide, hfS, fun v18 H18 e18 ⟨b18, ev, hb18⟩ => ?_⟩
    subst ev
    have hb18f : b18 = false := by
      cases b18 with
      | false => rfl
      | true => exact absurd (hb18.mp rfl) (veil_nil uS hU)
    subst hb18f
    refine ⟨false, false, rfl, fun v19 H19 e19 ev => ?_⟩
    subst ev
    refine ⟨_, rfl, itF rfl ?_⟩
    -- is_veil of all splits
    have e8t := (e8u.trans e18).trans e19
    have e15t := (xl0.trans e18).trans e19
    have hws19 := e15t _ _ hws
    have nws19 := NkA.mono e15t _ _ nws
    have lX : (G.map (splitE f)).length < 1000 := by rw [List.length_map]; omega
    refine ⟨_, rfl, _, rfl, _, rfl, _, rfl, x, wx, S, tab, f, D2, ws, G.map (splitE f), rfl, hM8.mono e8t, hW8.mono e8t, SqL.of hws19, nws19, fun z hz => ?_, sc5, stm, lX, hfS, fun v20 H20 e20 ⟨b20, ev, hb20⟩ => ?_⟩
    · obtain ⟨E, hE, rfl⟩ := (hXe z).mp hz
      exact itOk f E hE
    subst ev
    have e8s := e8t.trans e20
    have e13s : Ex H13 H20 := ((e14.trans e15).trans e15t).trans e20
    have e14s : Ex H14 H20 := (e15.trans e15t).trans e20
    have hI20 := hI8.mono (e8x.trans (e12.trans (e13'.trans e13s)))
    have hIs : LawIn K H20 sl fp wp S.rows ft tab := hI8.mono e8s
    rcases hv with ⟨r, ar, rfl, har, fs⟩ | ⟨rfl, nsu⟩
    · -- a row tells
      obtain ⟨jj, EE, hjj, sEE, hbef⟩ := id fs
      have rEE : ReE S.rows S.ft tab U S.st (nmsOf tab) EE := (al.mem EE).mp (List.mem_map.mpr ⟨_, List.mem_of_getElem? hjj, rfl⟩)
      have hb20f : b20 = false := by
        cases b20 with
        | false => rfl
        | true => exact absurd (hb20.mp rfl) (veil_false hXe rEE sEE)
      subst hb20f
      have hcov : v14' = .non := by
        rcases hv2 with ⟨e, _⟩ | ⟨nsu, _⟩
        · exact e
        · have hm := (al2.mem EE).mpr rEE
          obtain ⟨⟨E2, r2⟩, hm2, e2⟩ := List.mem_map.mp hm
          obtain ⟨k, hk, ek⟩ := List.getElem_of_mem hm2
          have h3 := nsu k E2 r2 (by rw [List.getElem?_eq_getElem hk, ek])
          simp only at e2
          rw [e2, sEE] at h3
          cases h3
      subst hcov
      refine ⟨_, rfl, rfl, false, false, rfl, fun v21 H21 e21 ev => ?_⟩
      subst ev
      refine ⟨_, rfl, itF rfl ?_⟩
      refine ⟨_, rfl, rfl, _, rfl, itT rfl ?_⟩
      refine ⟨_, rfl, rfl, _, rfl, itF rfl ?_⟩
      obtain ⟨k1, k2, k3⟩ := tells_ok al.chain fs
      have e13t := e13s.trans e21
      refine ⟨_, rfl, _, rfl, _, rfl, _, rfl, _, rfl, _, rfl, ar, r, S.st, sl, fp, wp, S.rows, ft, tab, f, U, rfl, e13t.sqT har, hIs.mono e21, u, hU, fun s hs => ?_, fun i hi => ?_, ?_, fun v22 H22 e22 ev => ?_⟩
      · obtain ⟨p, hp, rfl⟩ := List.mem_map.mp (nmsOf_mem.mp (k1 s hs))
        exact (tk.nm p hp).2
      · rw [← estR_tab elk, ← estR_tab elk]
        exact k2 i hi
      · rw [← estR_tab elk]
        exact k3
      subst ev
      refine ⟨_, rfl, itF rfl ?_⟩
      exact ⟨_, _, _, _, _, _, _, _, rfl, e10.trans ((((e12.trans e13').trans e13s).trans e21).trans e22)⟩
    · -- none tells
      have nsE : ∀ E, ReE S.rows S.ft tab U S.st (nmsOf tab) E → sureB f E = false := fun E hE => by
        have hm := (al.mem E).mpr hE
        obtain ⟨⟨E2, r2⟩, hm2, e2⟩ := List.mem_map.mp hm
        obtain ⟨k, hk, ek⟩ := List.getElem_of_mem hm2
        have h3 := nsu k E2 r2 (by rw [List.getElem?_eq_getElem hk, ek])
        simp only at e2
        rw [← e2]
        exact h3
      have hb20t : b20 = true := hb20.mpr (veil_true uS hU hXe nsE)
      subst hb20t
      rcases hv2 with ⟨_, r, jj, EE, hjj, sEE, _⟩ | ⟨_, rws3, al3, lc, usc, rfl, hlc, nlc⟩
      · have rEE := (al2.mem EE).mp (List.mem_map.mpr ⟨_, List.mem_of_getElem? hjj, rfl⟩)
        rw [nsE EE rEE] at sEE
        cases sEE
      refine ⟨_, rfl, rfl, true, true, rfl, fun v21 H21 e21 ev => ?_⟩
      subst ev
      refine ⟨_, rfl, itF rfl ?_⟩
      refine ⟨_, rfl, rfl, _, rfl, itF rfl ?_⟩
      have hXc : ∀ z, z ∈ veilL f rws3 ↔ ∃ E, ReE S.rows S.ft tab U S.st (nmsOf tab) E ∧ z = splitE f E := fun z => by
        unfold veilL
        rw [srtBy_mem, insAll_mem, List.mem_map]
        constructor
        · rintro (h | ⟨er, her, rfl⟩)
          · cases h
          · exact ⟨er.1, (al3.mem er.1).mp (List.mem_map.mpr ⟨er, her, rfl⟩), rfl⟩
        · rintro ⟨E, hE, rfl⟩
          obtain ⟨er, her, e⟩ := List.mem_map.mp ((al3.mem E).mpr hE)
          exact .inr ⟨er, her, by rw [← e]⟩
      have lXc : (veilL f rws3).length ≤ 120 := by
        unfold veilL
        rw [srtBy_len]
        have h1 := insAll_len (rws3.map fun (r : ER) => splitE f r.1) []
        rw [List.length_map] at h1
        simp only [List.length_nil] at h1
        have h2 := nodup_subP kEs_inj al3.nd (fun E hE => (gS E).mpr ((al3.mem E).mp hE))
        rw [List.length_map] at h2
        omega
      have e14t := e14s.trans e21
      have hlc21 := e14t _ _ hlc
      have nlc21 := NkA.mono e14t _ _ nlc
      have e8r := e8s.trans e21
      have e12t : Ex H12 H21 := (e13'.trans e13s).trans e21
      have hbl21 := e12t _ _ hbl
      have isv : IsVeil S tab f (veilL f rws3) := veil_true uS hU hXc nsE
      have ux : Uni S.rows (xTab (badOf ft f)) (prU L ["x"]) := mkU sy.lnd sy.l5 (fun r hr => (sy.rl r hr).2) (by unfold SrtBy Srt; simp) (by decide) fun w x e => xTab_val e
      have hlk : ∀ w, lk (xTab (badOf ft f)) w = some ("x" : Str) ↔ lk S.ft w = some f := fun w => by
        rw [xTab_lk, bad_mem sy.sy.tok, elk]
      have inL : ∀ z ∈ veilL f rws3, (∀ s ∈ z.1, s ∈ L) ∧ ∀ s ∈ z.2, s ∈ L := fun z hz => by
        obtain ⟨E, hE, rfl⟩ := (hXc z).mp hz
        exact ⟨fun s hs => RchS.sub sy.sy.tst sy.sy.tcl ((rchE f E hE).1 s hs), fun s hs => RchS.sub sy.sy.tst sy.sy.tcl ((rchE f E hE).2 s hs)⟩
      have hxU : (S.st, []) ∈ prU L ["x"] := mem_prU.mpr ⟨sy.sy.tst, List.nil_sublist _⟩
      have lv : LawVeil S.rows S.st (xTab (badOf ft f)) tab (prU L ["x"]) (veilL f rws3) := lawVeil ux hxU (fun z hz => prs_in (inL z hz).1 (inL z hz).2) hlk isv
      have hI21 := hIs.mono e21
      have blen := bad_len ft f
      have ft2 := sy.ft2
      have VI : VeilIn K H21 lc usc sl bl wp S.st S.rows tab (badOf ft f) (veilL f rws3) (prU L ["x"]) L :=
        { ha := SqL.of hlc21, na := nlc21, steps := hI21.steps, few := few, sg := hI21.sg, tl := tk.few, hb := SqL.of hbl21, bn := bad_nd sy.sy.tok f, bl := by omega, tT := sy.sy.tfew, t0 := sy.sy.tst, tc := sy.sy.tcl, u := ux, hU := hxU,
          s1 := fun z hz => (by obtain ⟨E, hE, rfl⟩ := (hXc z).mp hz; exact ⟨sset_srt _, sset_srt _⟩), mm := fun z hz => (by obtain ⟨E, hE, rfl⟩ := (hXc z).mp hz; exact rchE f E hE),
          pU := fun z hz => prs_in (inL z hz).1 (inL z hz).2, lv := lv }
      refine ⟨_, rfl, _, rfl, _, rfl, _, rfl, _, rfl, lc, usc, sl, bl, wp, S.st, S.rows, tab, badOf ft f, veilL f rws3, prU L ["x"], L, rfl, VI, fun v22 H22 e22 ev => ?_⟩
      subst ev
      refine ⟨_, rfl, itF rfl ?_⟩
      have e8q := e8r.trans e22
      refine ⟨_, rfl, _, rfl, _, rfl, _, rfl, x, wx, S, tab, f, lc, usc, veilL f rws3, rfl, hM8.mono e8q, hW8.mono e8q, SqL.of (e22 _ _ hlc21), NkA.mono e22 _ _ nlc21, fun z hz => ?_, sc5, stm, by omega, hfS, fun v23 H23 e23 ⟨b23, ev, hb23⟩ => ?_⟩
      · obtain ⟨E, hE, rfl⟩ := (hXc z).mp hz
        exact itOk f E hE
      subst ev
      have hb23t : b23 = true := hb23.mpr isv
      subst hb23t
      refine ⟨true, true, rfl, fun v24 H24 e24 ev => ?_⟩
      subst ev
      refine ⟨_, rfl, itF rfl ?_⟩
      have e8p := (e8q.trans e23).trans e24
      have hlc24 := (e22.trans (e23.trans e24)) _ _ hlc21
      have nlc24 := NkA.mono (e22.trans (e23.trans e24)) _ _ nlc21
      have e1024 := ((((e12.trans e12t).trans e22).trans e23).trans e24)
      refine ⟨3, rfl, by decide, by decide, ?_⟩
      refine for_it (walk_range (lo := 0) (n := 3)) (fun i σ H25 => ∃ v15 v16, σ = [some (.ref a), some (.ref wp), some (.ref x), some (.ref wx), some (.ref F), some (.str f), some (.int S.st), some (.ref sl), some (.ref fp), some (.ref nl), some (.ref ml), some (.ref bl), some .non, some (.ref lc), some (.ref D2), v15, v16, v17] ∧ Ex H24 H25)
        ⟨_, _, rfl, Ex.refl _⟩ (fun _ _ _ _ _ => True.intro) (fun i y σ H25 H26 hi p y' => ?_) (fun σ H25 p => ?_)
      · obtain ⟨v15, v16, rfl, e25⟩ := p
        obtain ⟨rfl, rfl⟩ := y'
        have e8o := e8p.trans e25
        have e0o := e08.trans e8o
        have ek : (4 : Int) + (0 + (i : Int)) = ((4 + i : Nat) : Int) := by omega
        refine ⟨_, rfl, _, rfl, _, _, rfl, rfl, a, sc, 4 + i, by rw [← ek]; rfl, e0o.sqL ha, fun v27 H27 e27 ⟨c27, ev⟩ => ?_⟩
        subst ev
        refine ⟨by show 1 ≤ sizeLine; decide, fun a1 h1 => ?_⟩
        refine ⟨by show 1 ≤ sizeLine; decide, fun a2 h2 => ?_⟩
        refine ⟨a2, 20, _, rfl, rfl, upd_same, by decide, by decide, by show 1 * 20 ≤ sizeLine; decide, fun a3 h3 => ?_⟩
        have y3 := ((Ex.new (o := .lst [.int 21]) h1).to (o := .lst [.int 64]) h2).to (o := .lst (List.replicate 20 [V.int 64]).flatten) h3
        refine ⟨a1, a3, _, _, rfl, rfl, (Ex.new h3) _ _ ((Ex.new h2) _ _ upd_same), upd_same, by show 1 + 20 ≤ sizeLine; decide, fun a4 h4 => ?_⟩
        have y4 := y3.to (o := .lst (dgSizes.map V.int)) h4
        refine ⟨c27, a4, dgSizes, rfl, SqL.of upd_same, by decide +kernel, by decide +kernel, fun v28 H28 e28 ⟨dl, ds, ev, hdl, lds, _⟩ => ?_⟩
        subst ev
        have lds : ds.length = 21 := lds
        have e2428 := ((e25.trans e27).trans y4).trans e28
        have e8n := e8p.trans e2428
        have hI28 := hI8.mono e8n
        have WI : WalkIn K H28 lc dl x wp usc (veilL f rws3) ds S tab U L f :=
          { hc := SqL.of (e2428 _ _ hlc24), nc := NkA.mono e2428 _ _ nlc24, hd := SqL.of hdl, ld := by omega, d0 := ⟨ds[0]'(by omega), List.getElem?_eq_getElem _⟩, hM := hM8.mono e8n, sg := hI28.sg, tk := tk, u := uS, hU := hU, t0 := sy.sy.tst, tc := sy.sy.tcl, live := sy.sy.live, hf := hfS,
            hE := fun E hE => ⟨(hXc _).mpr ⟨E, hE, rfl⟩, nsE E hE⟩ }
        refine ⟨_, rfl, _, rfl, _, rfl, _, rfl, _, rfl, lc, dl, x, wp, usc, veilL f rws3, ds, S, tab, U, L, f, rfl, WI, fun v29 H29 e29 ev => ?_⟩
        subst ev
        exact ⟨_, rfl, itF rfl ⟨_, _, rfl, e2428.trans e29⟩⟩
      · obtain ⟨v15, v16, rfl, e25⟩ := p
        exact ⟨_, _, _, _, _, _, _, _, rfl, (e10.trans e1024).trans e25⟩
  · obtain ⟨v5, v11, v12, v13, v14, v15, v16, v17, rfl, e10⟩ := p
    exact q.of ((e08.trans e9).trans e10) rfl
theorem law_all (T : Tp K mg) : mg "law" = some (.ref (d_law.path K)) ∧ ∃ fd, (∀ (s : Shared) (v : Value), BindsTo s fd ⟨[v], []⟩ [("_law_script", v)]) ∧ ∀ base : Heap, FnOk P w K mg base CX0 8 (d_law.path K) fd ["_law_script"] (sp_law K) := by
  obtain ⟨fd, F⟩ := T.fund 70 (d := d_law) rfl
  have F : FunD K d_law.name d_law.qual d_law.params d_law.body d_law.scope [] [] (d_law.path K) fd := F
  have b := FunD.bindsA (ps := ["_law_script"]) F fun _ _ _ _ _ _ us hl => match us, hl with | [_], _ => rfl
  exact ⟨T.glo 73, fd, fun s v => b s [v] rfl, fun base => F.ok sc_law (fun vs H Q E h => by obtain ⟨_, _, e, _⟩ := h; rw [e]; rfl) fun cdv A outer s H vs Q E hr h => law_body T hr h⟩
end
end K25
namespace K25
open PySem PySem.Spec PyProof.Rows L2
theorem facts {P : Program} {w : World} {K : PySem.W.Frag} {h : Heap} {mg : Str → Option Value} {f : Addr} (X : K.In h) (G : h.Ns mainGlobals mg) (hfa : mg ("law" : Str) = some (.ref f)) (c : Says K) :
    ∃ fd : FuncData, (∀ (s : Shared) (v : Value), BindsTo s fd ⟨[v], []⟩ [("_law_script", v)]) ∧ ∀ base : Heap, K.In base → base.Ns mainGlobals mg → FnOk P w K mg base CX0 8 f fd ["_law_script"] (sp_law K) := by
  have T : Tp K mg := ⟨c, h, X, G⟩
  obtain ⟨e, fd, b, F⟩ := law_all (P := P) (w := w) T
  have e2 := hfa.symm.trans e
  cases e2
  exact ⟨fd, b, fun base _ _ => F base⟩
end K25
open PySem PySem.W PySem.Calls PyProof.Rows
set_option maxHeartbeats 0
theorem PySem.Challenge.cw_knownlate_k25_whole_told_or_veiled_holds : PySem.Challenge.rw_knownlate_k25_whole_told_or_veiled.Holds := by
  w_on; o_law
  refine HandSHeadRun.head_any (r := OpenLaw.row PySem.Challenge.rw_knownlate_k25_whole_told_or_veiled) (q := view (OpenLaw.row PySem.Challenge.rw_knownlate_k25_whole_told_or_veiled).prog [87]) (H := K25.hk) (ob := K25.ob) (M := 30000) (loose := K25.loose) (d := HandSHeadRun.topDef (OpenLaw.row PySem.Challenge.rw_knownlate_k25_whole_told_or_veiled).prog 87) (kwd := []) K25.ob_eq
    (by kernel_rfl) (fun s => by kernel_rfl) K25.run (by kernel_rfl) (by kernel_rfl) (by kernel_rfl) (by rfl) (by first | assumption | decide +kernel) (by decide +kernel) ⟨rfl, rfl, rfl, rfl, rfl, by decide +kernel⟩ ?hw ?hc
  case hw => w_witness2
  case hc =>
    refine L2.walk_ofE (l := PySem.Challenge.rw_knownlate_k25_whole_told_or_veiled) (n := 63) (k := 8) (x := "_law_script") (CX := L2.CX0) rfl (by decide) (by kernel_rfl) ⟨rfl, by decide, by decide⟩ ?F (fun _ _ _ _ z => z)
    intro w mg fa h Y G hmg0
    obtain ⟨K, KX, c⟩ := Y
    have hmg : mg ("law" : PySem.Str) = some (.ref fa) := by
      have e : (HandSHeadRun.topDef (OpenLaw.row PySem.Challenge.rw_knownlate_k25_whole_told_or_veiled).prog 87).name = ("law" : PySem.Str) := by kernel_rfl
      rw [← e]
      exact hmg0
    obtain ⟨fd, hb, hF⟩ := K25.facts (P := (PySem.Challenge.rw_knownlate_k25_whole_told_or_veiled).prog) (w := w) KX G hmg c
    exact ⟨K, fd, K25.sp_law K, KX, hb, fun H a ns hl _ hS => ⟨a, ns, rfl, hS, fun _ _ _ e => e⟩, hF⟩
