import PyProof.Rows.All
import Wide.All
import OpenK.AllK
import Wide.FinOn
import KE.KStateDown
import HandS.Head0
import HandS.Head1
import HandS.Head2
import HandS.HeadEnd
import HandS.HeadHook1
import HandS.HeadHook2
import HandS.HeadNt
import HandS.Property
import HandS.Codes
import PySem.Challenge.RW_heapeffects_k79_whole_observed_effects
import HandS.ForMost
import HandS.Walk
import HandS.IsInst
import HandS.ClsMeth
import PyProof.ListMulRoad
import PyProof.FactsAll.tuple_2
import KE.KDictPairs
import HandS.TupAny
import HandS.TupMul
import HandS.SortRule
import HandS.SortInts
import HandS.Strs
import HandS.Wide
import KE.KDictSum
import KE.GoesEnum
import HandS.SetBool
import HandS.SetFor
import HandS.SortKw
import HandS.DictComp
section
set_option Elab.async false
set_option linter.all false
set_option maxRecDepth 100000
set_option maxHeartbeats 0
/-! The head: the text by places, the facts that the walk leans on, the run of the top in the kernel. -/
namespace K79
open PySem PySem.Spec PyProof.Rows L2
def top (i : Nat) : Stmt := PySem.Challenge.pw_heapeffects_k79_whole_observed_effects.main.body.getD i (.Pass ⟨0, 0, 0, 0⟩)
abbrev st_is_integer : Stmt := top 12
abbrev st_is_count : Stmt := top 13
abbrev st_is_bag : Stmt := top 14
abbrev st_check_count : Stmt := top 16
abbrev st_check_bag : Stmt := top 17
abbrev st_from_counts : Stmt := top 18
abbrev st_add : Stmt := top 19
abbrev st_subtract : Stmt := top 20
abbrev st_total : Stmt := top 21
abbrev st_level : Stmt := top 22
abbrev st_drop : Stmt := top 24
abbrev st_find_fault : Stmt := top 36
abbrev st_check_effects : Stmt := top 39
abbrev st_is_observation : Stmt := top 43
abbrev st_check_observations : Stmt := top 44
abbrev st_agrees : Stmt := top 45
abbrev st_settled_bounds : Stmt := top 47
abbrev st_possible_survivors : Stmt := top 48
abbrev st_question_size : Stmt := top 49
abbrev st_l_draw : Stmt := top 51
abbrev st_l_base : Stmt := top 52
abbrev st_l_steps : Stmt := top 53
abbrev st_l_bag : Stmt := top 54
abbrev st_l_triple : Stmt := top 55
abbrev st_l_moved_heap : Stmt := top 56
abbrev st_l_ends_right : Stmt := top 57
abbrev st_l_at_most : Stmt := top 58
abbrev st_l_fits : Stmt := top 59
abbrev st_l_count : Stmt := top 60
abbrev st_l_deeper_right : Stmt := top 61
abbrev st_law : Stmt := top 62
abbrev st_Einit : Stmt := inClass (top 38) 1
abbrev st_Epool : Stmt := inClass (top 38) 10
abbrev st_Eapply : Stmt := inClass (top 38) 11
abbrev st_Linit : Stmt := inClass (top 46) 0
abbrev st_Lrestrict : Stmt := inClass (top 46) 1
abbrev st_Lobserve : Stmt := inClass (top 46) 2
abbrev st_Lsettle : Stmt := inClass (top 46) 3
abbrev st_Lbag : Stmt := inClass (top 46) 4
abbrev st_Lways : Stmt := inClass (top 46) 5
abbrev st_Einserted : Stmt := inClass (top 38) 5
abbrev st_Eremovals : Stmt := inClass (top 38) 6
abbrev st_Esurvivors : Stmt := inClass (top 38) 7
abbrev st_Econsumed : Stmt := inClass (top 38) 8
abbrev st_Eneeded : Stmt := inClass (top 38) 9
abbrev st_Eis_valid : Stmt := inClass (top 38) 2
/-! ### where the defs stand -/
abbrev cE (K : PySem.W.Frag) : Addr := He.ga K "Effect"
abbrev cB (K : PySem.W.Frag) : Addr := He.ga K "LevelBounds"
def d_is_integer : He5.DefA := ⟨fun K => He.ga K "is_integer", "is_integer", "is_integer", defArgs st_is_integer, defBody st_is_integer, defScope st_is_integer, [], []⟩
def d_is_count : He5.DefA := ⟨fun K => He.ga K "is_count", "is_count", "is_count", defArgs st_is_count, defBody st_is_count, defScope st_is_count, [], []⟩
def d_is_bag : He5.DefA := ⟨fun K => He.ga K "is_bag", "is_bag", "is_bag", defArgs st_is_bag, defBody st_is_bag, defScope st_is_bag, [], []⟩
def d_check_count : He5.DefA := ⟨fun K => He.ga K "check_count", "check_count", "check_count", defArgs st_check_count, defBody st_check_count, defScope st_check_count, [], []⟩
def d_check_bag : He5.DefA := ⟨fun K => He.ga K "check_bag", "check_bag", "check_bag", defArgs st_check_bag, defBody st_check_bag, defScope st_check_bag, [], []⟩
def d_from_counts : He5.DefA := ⟨fun K => He.ga K "from_counts", "from_counts", "from_counts", defArgs st_from_counts, defBody st_from_counts, defScope st_from_counts, [], []⟩
def d_add : He5.DefA := ⟨fun K => He.ga K "add", "add", "add", defArgs st_add, defBody st_add, defScope st_add, [], []⟩
def d_subtract : He5.DefA := ⟨fun K => He.ga K "subtract", "subtract", "subtract", defArgs st_subtract, defBody st_subtract, defScope st_subtract, [], []⟩
def d_total : He5.DefA := ⟨fun K => He.ga K "total", "total", "total", defArgs st_total, defBody st_total, defScope st_total, [], []⟩
def d_level : He5.DefA := ⟨fun K => He.ga K "level", "level", "level", defArgs st_level, defBody st_level, defScope st_level, [], []⟩
def d_drop : He5.DefA := ⟨fun K => He.ga K "drop", "drop", "drop", defArgs st_drop, defBody st_drop, defScope st_drop, [], []⟩
def d_find_fault : He5.DefA := ⟨fun K => He.ga K "find_fault", "find_fault", "find_fault", defArgs st_find_fault, defBody st_find_fault, defScope st_find_fault, [], []⟩
def d_check_effects : He5.DefA := ⟨fun K => He.ga K "check_effects", "check_effects", "check_effects", defArgs st_check_effects, defBody st_check_effects, defScope st_check_effects, [], []⟩
def d_is_observation : He5.DefA := ⟨fun K => He.ga K "is_observation", "is_observation", "is_observation", defArgs st_is_observation, defBody st_is_observation, defScope st_is_observation, [], []⟩
def d_check_observations : He5.DefA := ⟨fun K => He.ga K "check_observations", "check_observations", "check_observations", defArgs st_check_observations, defBody st_check_observations, defScope st_check_observations, [], []⟩
def d_agrees : He5.DefA := ⟨fun K => He.ga K "agrees", "agrees", "agrees", defArgs st_agrees, defBody st_agrees, defScope st_agrees, [], []⟩
def d_settled_bounds : He5.DefA := ⟨fun K => He.ga K "settled_bounds", "settled_bounds", "settled_bounds", defArgs st_settled_bounds, defBody st_settled_bounds, defScope st_settled_bounds, [], []⟩
def d_possible_survivors : He5.DefA := ⟨fun K => He.ga K "possible_survivors", "possible_survivors", "possible_survivors", defArgs st_possible_survivors, defBody st_possible_survivors, defScope st_possible_survivors, [], []⟩
def d_question_size : He5.DefA := ⟨fun K => He.ga K "question_size", "question_size", "question_size", defArgs st_question_size, defBody st_question_size, defScope st_question_size, [], []⟩
def d_l_draw : He5.DefA := ⟨fun K => He.ga K "_law_draw", "_law_draw", "_law_draw", defArgs st_l_draw, defBody st_l_draw, defScope st_l_draw, [], []⟩
def d_l_base : He5.DefA := ⟨fun K => He.ga K "_law_base", "_law_base", "_law_base", defArgs st_l_base, defBody st_l_base, defScope st_l_base, [], []⟩
def d_l_steps : He5.DefA := ⟨fun K => He.ga K "_law_steps", "_law_steps", "_law_steps", defArgs st_l_steps, defBody st_l_steps, defScope st_l_steps, [], []⟩
def d_l_bag : He5.DefA := ⟨fun K => He.ga K "_law_bag", "_law_bag", "_law_bag", defArgs st_l_bag, defBody st_l_bag, defScope st_l_bag, [], []⟩
def d_l_triple : He5.DefA := ⟨fun K => He.ga K "_law_triple", "_law_triple", "_law_triple", defArgs st_l_triple, defBody st_l_triple, defScope st_l_triple, [], []⟩
def d_l_moved_heap : He5.DefA := ⟨fun K => He.ga K "_law_moved_heap", "_law_moved_heap", "_law_moved_heap", defArgs st_l_moved_heap, defBody st_l_moved_heap, defScope st_l_moved_heap, [], []⟩
def d_l_ends_right : He5.DefA := ⟨fun K => He.ga K "_law_ends_right", "_law_ends_right", "_law_ends_right", defArgs st_l_ends_right, defBody st_l_ends_right, defScope st_l_ends_right, [], []⟩
def d_l_at_most : He5.DefA := ⟨fun K => He.ga K "_law_at_most", "_law_at_most", "_law_at_most", defArgs st_l_at_most, defBody st_l_at_most, defScope st_l_at_most, [], []⟩
def d_l_fits : He5.DefA := ⟨fun K => He.ga K "_law_fits", "_law_fits", "_law_fits", defArgs st_l_fits, defBody st_l_fits, defScope st_l_fits, [], []⟩
def d_l_count : He5.DefA := ⟨fun K => He.ga K "_law_count", "_law_count", "_law_count", defArgs st_l_count, defBody st_l_count, defScope st_l_count, [], []⟩
def d_l_deeper_right : He5.DefA := ⟨fun K => He.ga K "_law_deeper_right", "_law_deeper_right", "_law_deeper_right", defArgs st_l_deeper_right, defBody st_l_deeper_right, defScope st_l_deeper_right, [], []⟩
def d_law : He5.DefA := ⟨fun K => He.ga K "law", "law", "law", defArgs st_law, defBody st_law, defScope st_law, [], []⟩
def d_Einit : He5.DefA := ⟨fun K => He.ma K (cE K) "__init__", "__init__", "Effect.__init__", defArgs st_Einit, defBody st_Einit, defScope st_Einit, [], []⟩
def d_Epool : He5.DefA := ⟨fun K => He.ma K (cE K) "pool", "pool", "Effect.pool", defArgs st_Epool, defBody st_Epool, defScope st_Epool, [], []⟩
def d_Eapply : He5.DefA := ⟨fun K => He.ma K (cE K) "apply", "apply", "Effect.apply", defArgs st_Eapply, defBody st_Eapply, defScope st_Eapply, [], []⟩
def d_Linit : He5.DefA := ⟨fun K => He.ma K (cB K) "__init__", "__init__", "LevelBounds.__init__", defArgs st_Linit, defBody st_Linit, defScope st_Linit, [], []⟩
def d_Lrestrict : He5.DefA := ⟨fun K => He.ma K (cB K) "restrict", "restrict", "LevelBounds.restrict", defArgs st_Lrestrict, defBody st_Lrestrict, defScope st_Lrestrict, [], []⟩
def d_Lobserve : He5.DefA := ⟨fun K => He.ma K (cB K) "observe", "observe", "LevelBounds.observe", defArgs st_Lobserve, defBody st_Lobserve, defScope st_Lobserve, [], []⟩
def d_Lsettle : He5.DefA := ⟨fun K => He.ma K (cB K) "settle", "settle", "LevelBounds.settle", defArgs st_Lsettle, defBody st_Lsettle, defScope st_Lsettle, [], []⟩
def d_Lbag : He5.DefA := ⟨fun K => He.ma K (cB K) "bag", "bag", "LevelBounds.bag", defArgs st_Lbag, defBody st_Lbag, defScope st_Lbag, [], []⟩
def d_Lways : He5.DefA := ⟨fun K => He.ma K (cB K) "ways", "ways", "LevelBounds.ways", defArgs st_Lways, defBody st_Lways, defScope st_Lways, [], []⟩
def d_Einserted : He5.DefA := ⟨fun K => He5.wf K (cE K) "property" "inserted", "inserted", "Effect.inserted", defArgs st_Einserted, defBody st_Einserted, defScope st_Einserted, [], []⟩
def d_Eremovals : He5.DefA := ⟨fun K => He5.wf K (cE K) "property" "removals", "removals", "Effect.removals", defArgs st_Eremovals, defBody st_Eremovals, defScope st_Eremovals, [], []⟩
def d_Esurvivors : He5.DefA := ⟨fun K => He5.wf K (cE K) "property" "survivors", "survivors", "Effect.survivors", defArgs st_Esurvivors, defBody st_Esurvivors, defScope st_Esurvivors, [], []⟩
def d_Econsumed : He5.DefA := ⟨fun K => He5.wf K (cE K) "property" "consumed", "consumed", "Effect.consumed", defArgs st_Econsumed, defBody st_Econsumed, defScope st_Econsumed, [], []⟩
def d_Eneeded : He5.DefA := ⟨fun K => He5.wf K (cE K) "property" "needed", "needed", "Effect.needed", defArgs st_Eneeded, defBody st_Eneeded, defScope st_Eneeded, [], []⟩
def d_Eis_valid : He5.DefA := ⟨fun K => He5.wf K (cE K) "staticmethod" "is_valid", "is_valid", "Effect.is_valid", defArgs st_Eis_valid, defBody st_Eis_valid, defScope st_Eis_valid, [], []⟩
def fn0 : List He5.DefA := [d_is_integer, d_is_count, d_is_bag, d_check_count, d_check_bag, d_from_counts, d_add, d_subtract, d_total, d_level, d_drop, d_find_fault, d_check_effects, d_is_observation, d_check_observations, d_agrees, d_settled_bounds, d_possible_survivors, d_question_size, d_l_draw, d_l_base, d_l_steps, d_l_bag, d_l_triple, d_l_moved_heap, d_l_ends_right, d_l_at_most, d_l_fits, d_l_count, d_l_deeper_right]
def fn1 : List He5.DefA := [d_law, d_Einit, d_Epool, d_Eapply, d_Linit, d_Lrestrict, d_Lobserve, d_Lsettle, d_Lbag, d_Lways, d_Einserted, d_Eremovals, d_Esurvivors, d_Econsumed, d_Eneeded, d_Eis_valid]
def fn : List He5.DefA := fn0 ++ fn1
def fa0 : List He.Fa := [.glo "is_integer", .glo "is_count", .glo "is_bag", .glo "check_count", .glo "check_bag", .glo "from_counts", .glo "add", .glo "subtract", .glo "total", .glo "level", .glo "drop", .glo "find_fault", .glo "check_effects", .glo "is_observation", .glo "check_observations", .glo "agrees", .glo "settled_bounds", .glo "possible_survivors", .glo "question_size", .glo "_law_draw", .glo "_law_base", .glo "_law_steps", .glo "_law_bag", .glo "_law_triple", .glo "_law_moved_heap", .glo "_law_ends_right", .glo "_law_at_most", .glo "_law_fits", .glo "_law_count", .glo "_law_deeper_right"]
def fa1 : List He.Fa := [.glo "law", .glo "Effect", .glo "LevelBounds", .int "MAX_OBSERVATIONS" 20, .int "MAX_INSERTED" 200, .free "isinstance", .free "int", .free "bool", .free "tuple", .free "list", .free "len", .free "sorted", .free "dict", .free "any", .free "all", .free "sum", .free "min", .free "max", .free "enumerate", .free "range", .free "zip", .free "set", .cls "Effect", .cls "LevelBounds", .mkr "Effect", .mkr "LevelBounds", .noat "Effect" "own_parts", .noat "LevelBounds" "own_inserted", .noat "LevelBounds" "own_removals", .noat "LevelBounds" "least"]
def fa2 : List He.Fa := [.noat "LevelBounds" "most", .noat "LevelBounds" "possible", .meth "Effect" "pool", .meth "Effect" "apply", .meth "LevelBounds" "restrict", .meth "LevelBounds" "observe", .meth "LevelBounds" "settle", .meth "LevelBounds" "bag", .meth "LevelBounds" "ways"]
def fa : List He.Fa := fa0 ++ fa1 ++ fa2
/-! ### properties, the static method, isinstance of the own class -/
def propB (K : PySem.W.Frag) (C : Addr) (m : Str) : Bool := He.eqO (PySem.W.findIn K (.ref C) m) (some (some (.ref (He.ma K C m)))) && (He.eqO (PySem.W.specialIn K (.ref (He.ma K C m)) "__get__") (some (some (.builtin "property.__get__"))) &&
  (decide (PySem.W.takesIn K (.ref (He.ma K C m)) = some true) && (match PySem.W.recIn K (He.ma K C m) "property" with
    | some (.ref _ :: _) => true
    | _ => false)))
theorem propB_ok {K : PySem.W.Frag} {C : Addr} {m : Str} (h : propB K C m = true) : PropOf K C m (He.ma K C m) (He5.wf K C "property" m) := by
  obtain ⟨h1, h⟩ := He.ba h
  obtain ⟨h2, h⟩ := He.ba h
  obtain ⟨h3, h4⟩ := He.ba h
  refine ⟨He.eqO_ok h1, He.eqO_ok h2, of_decide_eq_true h3, ?_⟩
  unfold He5.wf
  split at h4
  · rename_i f r e
    exact ⟨r, by rw [e]⟩
  · cases h4
def insB (K : PySem.W.Frag) (C : Addr) : Bool := He.eqO (PySem.W.findIn K (.ref C) "__class__") (some (some (.builtin "object.__class__"))) && (He.eqO (PySem.W.specialIn K (.builtin "object.__class__") "__get__") (some (some (.builtin "getset_descriptor.__get__"))) &&
  (decide (PySem.W.takesIn K (.builtin "object.__class__") = some true) && (decide (PySem.W.mroIn K C (.type "object") = some true) && decide (PySem.W.kitOne K (.ref C) (.ref C) = some true))))
theorem insB_ok {K : PySem.W.Frag} {C : Addr} (c : Cls K C) (h : insB K C = true) : C8.InsC K C := by
  obtain ⟨h1, h⟩ := He.ba h
  obtain ⟨h2, h⟩ := He.ba h
  obtain ⟨h3, h⟩ := He.ba h
  obtain ⟨h4, h5⟩ := He.ba h
  exact ⟨c, He.eqO_ok h1, He.eqO_ok h2, of_decide_eq_true h3, of_decide_eq_true h4, of_decide_eq_true h5⟩
def statB (K : PySem.W.Frag) (C : Addr) (m : Str) : Bool := He5.wrapB K C "staticmethod" "staticmethod.__get__" m && (PySem.W.readsIn K C (.type "type") && (He.eqO (PySem.W.specialIn K (.ref C) "__getattribute__") (some (some (.builtin "type.__getattribute__"))) &&
  (PySem.W.fnIn K (He5.wf K C "staticmethod" m) && PySem.W.keepIn K (.ref C))))
def exB (K : PySem.W.Frag) : Bool := (propB K (cE K) "inserted" && (propB K (cE K) "removals" && (propB K (cE K) "survivors" && (propB K (cE K) "consumed" && propB K (cE K) "needed")))) && (insB K (cE K) && statB K (cE K) "is_valid")
/-! ### the Hook -/
abbrev AlY : Type := He.AlD × Bool
def obsY (K : PySem.W.Frag) : AlY := (He5.obsA fa fn K, exB K)
def valY : AlY := (He5.valA fn, true)
structure SaysY (K : PySem.W.Frag) : Prop where
  a : He5.SaysA fa fn K
  e : exB K = true
def obsYG (g : Addr → Option Obj) : AlY := obsY (He.frG g (He5.asA g 5))
def hookY : PySem.W.Hook where
  α := AlY
  obs := fun s => obsYG s.heap.get?
  val := fun _ => valY
  says := fun _ h => ∃ K : PySem.W.Frag, K.In h ∧ SaysY K
  of := fun _ _ e => ⟨_, He.frG_in, ⟨congrArg (fun z : AlY => z.1) e, congrArg (fun z : AlY => z.2) e⟩⟩
  keeps := fun _ _ _ ⟨K, hK, c⟩ k => ⟨K, PySem.W.Frag.In.keeps hK k, c⟩
theorem obsYG_eq {g : Addr → Option Obj} {s : Shared} (h : ∀ a, g a = s.heap.get? a) : obsYG g = hookY.obs s := by
  have e : g = s.heap.get? := funext h
  rw [e] <;> rfl
abbrev R : PySem.W.OpenRow := PySem.W.OpenLaw.row PySem.Challenge.rw_heapeffects_k79_whole_observed_effects
abbrev qv : Program := PySem.W.view R.prog [62]
def names0 : List Str := ["_wall", "HeapError", "InvalidNumber", "InvalidCount", "InvalidBag", "InvalidProgram", "InvalidEffect", "InvalidObservations", "EmptyHeap", "LimitExceeded", "is_integer", "is_count", "is_bag", "check_number", "check_count", "check_bag", "from_counts", "add", "subtract", "total", "level", "scale", "drop", "MAX_DEPTH", "is_step", "find_invalid", "check_program", "IDENTITY"]
def names1 : List Str := ["join_parts", "repeat_parts", "step_parts", "program_parts", "find_fault", "move_bag", "Effect", "check_effects", "MAX_OBSERVATIONS", "MAX_INSERTED", "is_observation", "check_observations", "agrees", "LevelBounds", "settled_bounds", "possible_survivors", "question_size", "_law_draw", "_law_base", "_law_steps", "_law_bag", "_law_triple", "_law_moved_heap", "_law_ends_right", "_law_at_most", "_law_fits", "_law_count", "_law_deeper_right"]
def names : List Str := names0 ++ names1
def ob (s : PySem.W.SharedT) : AlY := obsYG (HandSHeadRun.getT s)
theorem ob_eq (s : PySem.W.SharedT) : ob s = hookY.obs s.abs := obsYG_eq (HandSHeadRun.getT_eq s)
theorem run (w : World) : HandSHeadRun.RunEq R qv hookY ob 6000 names w := by
  intro os
  kernel_rfl
/-- what the walk leans on, by name -/
structure Fx (K : PySem.W.Frag) (mg : Str → Option Value) : Prop where
  g_is_integer : mg "is_integer" = some (.ref (He.ga K "is_integer"))
  g_is_count : mg "is_count" = some (.ref (He.ga K "is_count"))
  g_is_bag : mg "is_bag" = some (.ref (He.ga K "is_bag"))
  g_check_count : mg "check_count" = some (.ref (He.ga K "check_count"))
  g_check_bag : mg "check_bag" = some (.ref (He.ga K "check_bag"))
  g_from_counts : mg "from_counts" = some (.ref (He.ga K "from_counts"))
  g_add : mg "add" = some (.ref (He.ga K "add"))
  g_subtract : mg "subtract" = some (.ref (He.ga K "subtract"))
  g_total : mg "total" = some (.ref (He.ga K "total"))
  g_level : mg "level" = some (.ref (He.ga K "level"))
  g_drop : mg "drop" = some (.ref (He.ga K "drop"))
  g_find_fault : mg "find_fault" = some (.ref (He.ga K "find_fault"))
  g_check_effects : mg "check_effects" = some (.ref (He.ga K "check_effects"))
  g_is_observation : mg "is_observation" = some (.ref (He.ga K "is_observation"))
  g_check_observations : mg "check_observations" = some (.ref (He.ga K "check_observations"))
  g_agrees : mg "agrees" = some (.ref (He.ga K "agrees"))
  g_settled_bounds : mg "settled_bounds" = some (.ref (He.ga K "settled_bounds"))
  g_possible_survivors : mg "possible_survivors" = some (.ref (He.ga K "possible_survivors"))
  g_question_size : mg "question_size" = some (.ref (He.ga K "question_size"))
  g_l_draw : mg "_law_draw" = some (.ref (He.ga K "_law_draw"))
  g_l_base : mg "_law_base" = some (.ref (He.ga K "_law_base"))
  g_l_steps : mg "_law_steps" = some (.ref (He.ga K "_law_steps"))
  g_l_bag : mg "_law_bag" = some (.ref (He.ga K "_law_bag"))
  g_l_triple : mg "_law_triple" = some (.ref (He.ga K "_law_triple"))
  g_l_moved_heap : mg "_law_moved_heap" = some (.ref (He.ga K "_law_moved_heap"))
  g_l_ends_right : mg "_law_ends_right" = some (.ref (He.ga K "_law_ends_right"))
  g_l_at_most : mg "_law_at_most" = some (.ref (He.ga K "_law_at_most"))
  g_l_fits : mg "_law_fits" = some (.ref (He.ga K "_law_fits"))
  g_l_count : mg "_law_count" = some (.ref (He.ga K "_law_count"))
  g_l_deeper_right : mg "_law_deeper_right" = some (.ref (He.ga K "_law_deeper_right"))
  g_law : mg "law" = some (.ref (He.ga K "law"))
  g_Effect : mg "Effect" = some (.ref (He.ga K "Effect"))
  g_LevelBounds : mg "LevelBounds" = some (.ref (He.ga K "LevelBounds"))
  i_MAX_OBSERVATIONS : ∃ t, mg "MAX_OBSERVATIONS" = some (.int 20 t)
  i_MAX_INSERTED : ∃ t, mg "MAX_INSERTED" = some (.int 200 t)
  n_isinstance : mg "isinstance" = none
  n_int : mg "int" = none
  n_bool : mg "bool" = none
  n_tuple : mg "tuple" = none
  n_list : mg "list" = none
  n_len : mg "len" = none
  n_sorted : mg "sorted" = none
  n_dict : mg "dict" = none
  n_any : mg "any" = none
  n_all : mg "all" = none
  n_sum : mg "sum" = none
  n_min : mg "min" = none
  n_max : mg "max" = none
  n_enumerate : mg "enumerate" = none
  n_range : mg "range" = none
  n_zip : mg "zip" = none
  n_set : mg "set" = none
  cls_E : Cls K (He.ga K "Effect")
  cls_L : Cls K (He.ga K "LevelBounds")
  mk_E : Mk K (He.ga K "Effect") (He.ma K (He.ga K "Effect") "__init__")
  mk_L : Mk K (He.ga K "LevelBounds") (He.ma K (He.ga K "LevelBounds") "__init__")
  na_own_parts : NoAttr K (He.ga K "Effect") "own_parts"
  na_own_inserted : NoAttr K (He.ga K "LevelBounds") "own_inserted"
  na_own_removals : NoAttr K (He.ga K "LevelBounds") "own_removals"
  na_least : NoAttr K (He.ga K "LevelBounds") "least"
  na_most : NoAttr K (He.ga K "LevelBounds") "most"
  na_possible : NoAttr K (He.ga K "LevelBounds") "possible"
  m_Epool : Meth K (He.ga K "Effect") "pool" (He.ma K (He.ga K "Effect") "pool")
  m_Eapply : Meth K (He.ga K "Effect") "apply" (He.ma K (He.ga K "Effect") "apply")
  m_Lrestrict : Meth K (He.ga K "LevelBounds") "restrict" (He.ma K (He.ga K "LevelBounds") "restrict")
  m_Lobserve : Meth K (He.ga K "LevelBounds") "observe" (He.ma K (He.ga K "LevelBounds") "observe")
  m_Lsettle : Meth K (He.ga K "LevelBounds") "settle" (He.ma K (He.ga K "LevelBounds") "settle")
  m_Lbag : Meth K (He.ga K "LevelBounds") "bag" (He.ma K (He.ga K "LevelBounds") "bag")
  m_Lways : Meth K (He.ga K "LevelBounds") "ways" (He.ma K (He.ga K "LevelBounds") "ways")
  f_is_integer : ∃ fd, Fun K d_is_integer.name d_is_integer.qual st_is_integer (d_is_integer.at_ K) fd
  f_is_count : ∃ fd, Fun K d_is_count.name d_is_count.qual st_is_count (d_is_count.at_ K) fd
  f_is_bag : ∃ fd, Fun K d_is_bag.name d_is_bag.qual st_is_bag (d_is_bag.at_ K) fd
  f_check_count : ∃ fd, Fun K d_check_count.name d_check_count.qual st_check_count (d_check_count.at_ K) fd
  f_check_bag : ∃ fd, Fun K d_check_bag.name d_check_bag.qual st_check_bag (d_check_bag.at_ K) fd
  f_from_counts : ∃ fd, Fun K d_from_counts.name d_from_counts.qual st_from_counts (d_from_counts.at_ K) fd
  f_add : ∃ fd, Fun K d_add.name d_add.qual st_add (d_add.at_ K) fd
  f_subtract : ∃ fd, Fun K d_subtract.name d_subtract.qual st_subtract (d_subtract.at_ K) fd
  f_total : ∃ fd, Fun K d_total.name d_total.qual st_total (d_total.at_ K) fd
  f_level : ∃ fd, Fun K d_level.name d_level.qual st_level (d_level.at_ K) fd
  f_drop : ∃ fd, Fun K d_drop.name d_drop.qual st_drop (d_drop.at_ K) fd
  f_find_fault : ∃ fd, Fun K d_find_fault.name d_find_fault.qual st_find_fault (d_find_fault.at_ K) fd
  f_check_effects : ∃ fd, Fun K d_check_effects.name d_check_effects.qual st_check_effects (d_check_effects.at_ K) fd
  f_is_observation : ∃ fd, Fun K d_is_observation.name d_is_observation.qual st_is_observation (d_is_observation.at_ K) fd
  f_check_observations : ∃ fd, Fun K d_check_observations.name d_check_observations.qual st_check_observations (d_check_observations.at_ K) fd
  f_agrees : ∃ fd, Fun K d_agrees.name d_agrees.qual st_agrees (d_agrees.at_ K) fd
  f_settled_bounds : ∃ fd, Fun K d_settled_bounds.name d_settled_bounds.qual st_settled_bounds (d_settled_bounds.at_ K) fd
  f_possible_survivors : ∃ fd, Fun K d_possible_survivors.name d_possible_survivors.qual st_possible_survivors (d_possible_survivors.at_ K) fd
  f_question_size : ∃ fd, Fun K d_question_size.name d_question_size.qual st_question_size (d_question_size.at_ K) fd
  f_l_draw : ∃ fd, Fun K d_l_draw.name d_l_draw.qual st_l_draw (d_l_draw.at_ K) fd
  f_l_base : ∃ fd, Fun K d_l_base.name d_l_base.qual st_l_base (d_l_base.at_ K) fd
  f_l_steps : ∃ fd, Fun K d_l_steps.name d_l_steps.qual st_l_steps (d_l_steps.at_ K) fd
  f_l_bag : ∃ fd, Fun K d_l_bag.name d_l_bag.qual st_l_bag (d_l_bag.at_ K) fd
  f_l_triple : ∃ fd, Fun K d_l_triple.name d_l_triple.qual st_l_triple (d_l_triple.at_ K) fd
  f_l_moved_heap : ∃ fd, Fun K d_l_moved_heap.name d_l_moved_heap.qual st_l_moved_heap (d_l_moved_heap.at_ K) fd
  f_l_ends_right : ∃ fd, Fun K d_l_ends_right.name d_l_ends_right.qual st_l_ends_right (d_l_ends_right.at_ K) fd
  f_l_at_most : ∃ fd, Fun K d_l_at_most.name d_l_at_most.qual st_l_at_most (d_l_at_most.at_ K) fd
  f_l_fits : ∃ fd, Fun K d_l_fits.name d_l_fits.qual st_l_fits (d_l_fits.at_ K) fd
  f_l_count : ∃ fd, Fun K d_l_count.name d_l_count.qual st_l_count (d_l_count.at_ K) fd
  f_l_deeper_right : ∃ fd, Fun K d_l_deeper_right.name d_l_deeper_right.qual st_l_deeper_right (d_l_deeper_right.at_ K) fd
  f_law : ∃ fd, Fun K d_law.name d_law.qual st_law (d_law.at_ K) fd
  f_Einit : ∃ fd, Fun K d_Einit.name d_Einit.qual st_Einit (d_Einit.at_ K) fd
  f_Epool : ∃ fd, Fun K d_Epool.name d_Epool.qual st_Epool (d_Epool.at_ K) fd
  f_Eapply : ∃ fd, Fun K d_Eapply.name d_Eapply.qual st_Eapply (d_Eapply.at_ K) fd
  f_Linit : ∃ fd, Fun K d_Linit.name d_Linit.qual st_Linit (d_Linit.at_ K) fd
  f_Lrestrict : ∃ fd, Fun K d_Lrestrict.name d_Lrestrict.qual st_Lrestrict (d_Lrestrict.at_ K) fd
  f_Lobserve : ∃ fd, Fun K d_Lobserve.name d_Lobserve.qual st_Lobserve (d_Lobserve.at_ K) fd
  f_Lsettle : ∃ fd, Fun K d_Lsettle.name d_Lsettle.qual st_Lsettle (d_Lsettle.at_ K) fd
  f_Lbag : ∃ fd, Fun K d_Lbag.name d_Lbag.qual st_Lbag (d_Lbag.at_ K) fd
  f_Lways : ∃ fd, Fun K d_Lways.name d_Lways.qual st_Lways (d_Lways.at_ K) fd
  f_Einserted : ∃ fd, Fun K d_Einserted.name d_Einserted.qual st_Einserted (d_Einserted.at_ K) fd
  f_Eremovals : ∃ fd, Fun K d_Eremovals.name d_Eremovals.qual st_Eremovals (d_Eremovals.at_ K) fd
  f_Esurvivors : ∃ fd, Fun K d_Esurvivors.name d_Esurvivors.qual st_Esurvivors (d_Esurvivors.at_ K) fd
  f_Econsumed : ∃ fd, Fun K d_Econsumed.name d_Econsumed.qual st_Econsumed (d_Econsumed.at_ K) fd
  f_Eneeded : ∃ fd, Fun K d_Eneeded.name d_Eneeded.qual st_Eneeded (d_Eneeded.at_ K) fd
  f_Eis_valid : ∃ fd, Fun K d_Eis_valid.name d_Eis_valid.qual st_Eis_valid (d_Eis_valid.at_ K) fd
  p_inserted : PropOf K (cE K) "inserted" (He.ma K (cE K) "inserted") (He5.wf K (cE K) "property" "inserted")
  p_removals : PropOf K (cE K) "removals" (He.ma K (cE K) "removals") (He5.wf K (cE K) "property" "removals")
  p_survivors : PropOf K (cE K) "survivors" (He.ma K (cE K) "survivors") (He5.wf K (cE K) "property" "survivors")
  p_consumed : PropOf K (cE K) "consumed" (He.ma K (cE K) "consumed") (He5.wf K (cE K) "property" "consumed")
  p_needed : PropOf K (cE K) "needed" (He.ma K (cE K) "needed") (He5.wf K (cE K) "property" "needed")
  ins : C8.InsC K (cE K)
  stat : statB K (cE K) "is_valid" = true
theorem fx_of {K : PySem.W.Frag} {h : Heap} {mg : Str → Option Value} (X : K.In h) (G : h.Ns mainGlobals mg) (c : SaysY K) : Fx K mg := by
  obtain ⟨e1, e2⟩ := He.ba c.e
  obtain ⟨p1, e1⟩ := He.ba e1
  obtain ⟨p2, e1⟩ := He.ba e1
  obtain ⟨p3, e1⟩ := He.ba e1
  obtain ⟨p4, p5⟩ := He.ba e1
  obtain ⟨e3, e4⟩ := He.ba e2
  exact {
    g_is_integer := He.glo_ok X G (c.a.fact 0 (f := .glo "is_integer") rfl)
    g_is_count := He.glo_ok X G (c.a.fact 1 (f := .glo "is_count") rfl)
    g_is_bag := He.glo_ok X G (c.a.fact 2 (f := .glo "is_bag") rfl)
    g_check_count := He.glo_ok X G (c.a.fact 3 (f := .glo "check_count") rfl)
    g_check_bag := He.glo_ok X G (c.a.fact 4 (f := .glo "check_bag") rfl)
    g_from_counts := He.glo_ok X G (c.a.fact 5 (f := .glo "from_counts") rfl)
    g_add := He.glo_ok X G (c.a.fact 6 (f := .glo "add") rfl)
    g_subtract := He.glo_ok X G (c.a.fact 7 (f := .glo "subtract") rfl)
    g_total := He.glo_ok X G (c.a.fact 8 (f := .glo "total") rfl)
    g_level := He.glo_ok X G (c.a.fact 9 (f := .glo "level") rfl)
    g_drop := He.glo_ok X G (c.a.fact 10 (f := .glo "drop") rfl)
    g_find_fault := He.glo_ok X G (c.a.fact 11 (f := .glo "find_fault") rfl)
    g_check_effects := He.glo_ok X G (c.a.fact 12 (f := .glo "check_effects") rfl)
    g_is_observation := He.glo_ok X G (c.a.fact 13 (f := .glo "is_observation") rfl)
    g_check_observations := He.glo_ok X G (c.a.fact 14 (f := .glo "check_observations") rfl)
    g_agrees := He.glo_ok X G (c.a.fact 15 (f := .glo "agrees") rfl)
    g_settled_bounds := He.glo_ok X G (c.a.fact 16 (f := .glo "settled_bounds") rfl)
    g_possible_survivors := He.glo_ok X G (c.a.fact 17 (f := .glo "possible_survivors") rfl)
    g_question_size := He.glo_ok X G (c.a.fact 18 (f := .glo "question_size") rfl)
    g_l_draw := He.glo_ok X G (c.a.fact 19 (f := .glo "_law_draw") rfl)
    g_l_base := He.glo_ok X G (c.a.fact 20 (f := .glo "_law_base") rfl)
    g_l_steps := He.glo_ok X G (c.a.fact 21 (f := .glo "_law_steps") rfl)
    g_l_bag := He.glo_ok X G (c.a.fact 22 (f := .glo "_law_bag") rfl)
    g_l_triple := He.glo_ok X G (c.a.fact 23 (f := .glo "_law_triple") rfl)
    g_l_moved_heap := He.glo_ok X G (c.a.fact 24 (f := .glo "_law_moved_heap") rfl)
    g_l_ends_right := He.glo_ok X G (c.a.fact 25 (f := .glo "_law_ends_right") rfl)
    g_l_at_most := He.glo_ok X G (c.a.fact 26 (f := .glo "_law_at_most") rfl)
    g_l_fits := He.glo_ok X G (c.a.fact 27 (f := .glo "_law_fits") rfl)
    g_l_count := He.glo_ok X G (c.a.fact 28 (f := .glo "_law_count") rfl)
    g_l_deeper_right := He.glo_ok X G (c.a.fact 29 (f := .glo "_law_deeper_right") rfl)
    g_law := He.glo_ok X G (c.a.fact 30 (f := .glo "law") rfl)
    g_Effect := He.glo_ok X G (c.a.fact 31 (f := .glo "Effect") rfl)
    g_LevelBounds := He.glo_ok X G (c.a.fact 32 (f := .glo "LevelBounds") rfl)
    i_MAX_OBSERVATIONS := He.int_ok X G (c.a.fact 33 (f := .int "MAX_OBSERVATIONS" 20) rfl)
    i_MAX_INSERTED := He.int_ok X G (c.a.fact 34 (f := .int "MAX_INSERTED" 200) rfl)
    n_isinstance := He.free_ok X G (c.a.fact 35 (f := .free "isinstance") rfl)
    n_int := He.free_ok X G (c.a.fact 36 (f := .free "int") rfl)
    n_bool := He.free_ok X G (c.a.fact 37 (f := .free "bool") rfl)
    n_tuple := He.free_ok X G (c.a.fact 38 (f := .free "tuple") rfl)
    n_list := He.free_ok X G (c.a.fact 39 (f := .free "list") rfl)
    n_len := He.free_ok X G (c.a.fact 40 (f := .free "len") rfl)
    n_sorted := He.free_ok X G (c.a.fact 41 (f := .free "sorted") rfl)
    n_dict := He.free_ok X G (c.a.fact 42 (f := .free "dict") rfl)
    n_any := He.free_ok X G (c.a.fact 43 (f := .free "any") rfl)
    n_all := He.free_ok X G (c.a.fact 44 (f := .free "all") rfl)
    n_sum := He.free_ok X G (c.a.fact 45 (f := .free "sum") rfl)
    n_min := He.free_ok X G (c.a.fact 46 (f := .free "min") rfl)
    n_max := He.free_ok X G (c.a.fact 47 (f := .free "max") rfl)
    n_enumerate := He.free_ok X G (c.a.fact 48 (f := .free "enumerate") rfl)
    n_range := He.free_ok X G (c.a.fact 49 (f := .free "range") rfl)
    n_zip := He.free_ok X G (c.a.fact 50 (f := .free "zip") rfl)
    n_set := He.free_ok X G (c.a.fact 51 (f := .free "set") rfl)
    cls_E := He.cls_ok (c.a.fact 52 (f := .cls "Effect") rfl)
    cls_L := He.cls_ok (c.a.fact 53 (f := .cls "LevelBounds") rfl)
    mk_E := He.mkr_ok (c.a.fact 54 (f := .mkr "Effect") rfl)
    mk_L := He.mkr_ok (c.a.fact 55 (f := .mkr "LevelBounds") rfl)
    na_own_parts := He.noat_ok (c.a.fact 56 (f := .noat "Effect" "own_parts") rfl)
    na_own_inserted := He.noat_ok (c.a.fact 57 (f := .noat "LevelBounds" "own_inserted") rfl)
    na_own_removals := He.noat_ok (c.a.fact 58 (f := .noat "LevelBounds" "own_removals") rfl)
    na_least := He.noat_ok (c.a.fact 59 (f := .noat "LevelBounds" "least") rfl)
    na_most := He.noat_ok (c.a.fact 60 (f := .noat "LevelBounds" "most") rfl)
    na_possible := He.noat_ok (c.a.fact 61 (f := .noat "LevelBounds" "possible") rfl)
    m_Epool := He.meth_ok (c.a.fact 62 (f := .meth "Effect" "pool") rfl)
    m_Eapply := He.meth_ok (c.a.fact 63 (f := .meth "Effect" "apply") rfl)
    m_Lrestrict := He.meth_ok (c.a.fact 64 (f := .meth "LevelBounds" "restrict") rfl)
    m_Lobserve := He.meth_ok (c.a.fact 65 (f := .meth "LevelBounds" "observe") rfl)
    m_Lsettle := He.meth_ok (c.a.fact 66 (f := .meth "LevelBounds" "settle") rfl)
    m_Lbag := He.meth_ok (c.a.fact 67 (f := .meth "LevelBounds" "bag") rfl)
    m_Lways := He.meth_ok (c.a.fact 68 (f := .meth "LevelBounds" "ways") rfl)
    f_is_integer := (c.a.def_ 0 (d := d_is_integer) rfl).imp fun _ h => He5.fun_of (st := st_is_integer) h
    f_is_count := (c.a.def_ 1 (d := d_is_count) rfl).imp fun _ h => He5.fun_of (st := st_is_count) h
    f_is_bag := (c.a.def_ 2 (d := d_is_bag) rfl).imp fun _ h => He5.fun_of (st := st_is_bag) h
    f_check_count := (c.a.def_ 3 (d := d_check_count) rfl).imp fun _ h => He5.fun_of (st := st_check_count) h
    f_check_bag := (c.a.def_ 4 (d := d_check_bag) rfl).imp fun _ h => He5.fun_of (st := st_check_bag) h
    f_from_counts := (c.a.def_ 5 (d := d_from_counts) rfl).imp fun _ h => He5.fun_of (st := st_from_counts) h
    f_add := (c.a.def_ 6 (d := d_add) rfl).imp fun _ h => He5.fun_of (st := st_add) h
    f_subtract := (c.a.def_ 7 (d := d_subtract) rfl).imp fun _ h => He5.fun_of (st := st_subtract) h
    f_total := (c.a.def_ 8 (d := d_total) rfl).imp fun _ h => He5.fun_of (st := st_total) h
    f_level := (c.a.def_ 9 (d := d_level) rfl).imp fun _ h => He5.fun_of (st := st_level) h
    f_drop := (c.a.def_ 10 (d := d_drop) rfl).imp fun _ h => He5.fun_of (st := st_drop) h
    f_find_fault := (c.a.def_ 11 (d := d_find_fault) rfl).imp fun _ h => He5.fun_of (st := st_find_fault) h
    f_check_effects := (c.a.def_ 12 (d := d_check_effects) rfl).imp fun _ h => He5.fun_of (st := st_check_effects) h
    f_is_observation := (c.a.def_ 13 (d := d_is_observation) rfl).imp fun _ h => He5.fun_of (st := st_is_observation) h
    f_check_observations := (c.a.def_ 14 (d := d_check_observations) rfl).imp fun _ h => He5.fun_of (st := st_check_observations) h
    f_agrees := (c.a.def_ 15 (d := d_agrees) rfl).imp fun _ h => He5.fun_of (st := st_agrees) h
    f_settled_bounds := (c.a.def_ 16 (d := d_settled_bounds) rfl).imp fun _ h => He5.fun_of (st := st_settled_bounds) h
    f_possible_survivors := (c.a.def_ 17 (d := d_possible_survivors) rfl).imp fun _ h => He5.fun_of (st := st_possible_survivors) h
    f_question_size := (c.a.def_ 18 (d := d_question_size) rfl).imp fun _ h => He5.fun_of (st := st_question_size) h
    f_l_draw := (c.a.def_ 19 (d := d_l_draw) rfl).imp fun _ h => He5.fun_of (st := st_l_draw) h
    f_l_base := (c.a.def_ 20 (d := d_l_base) rfl).imp fun _ h => He5.fun_of (st := st_l_base) h
    f_l_steps := (c.a.def_ 21 (d := d_l_steps) rfl).imp fun _ h => He5.fun_of (st := st_l_steps) h
    f_l_bag := (c.a.def_ 22 (d := d_l_bag) rfl).imp fun _ h => He5.fun_of (st := st_l_bag) h
    f_l_triple := (c.a.def_ 23 (d := d_l_triple) rfl).imp fun _ h => He5.fun_of (st := st_l_triple) h
    f_l_moved_heap := (c.a.def_ 24 (d := d_l_moved_heap) rfl).imp fun _ h => He5.fun_of (st := st_l_moved_heap) h
    f_l_ends_right := (c.a.def_ 25 (d := d_l_ends_right) rfl).imp fun _ h => He5.fun_of (st := st_l_ends_right) h
    f_l_at_most := (c.a.def_ 26 (d := d_l_at_most) rfl).imp fun _ h => He5.fun_of (st := st_l_at_most) h
    f_l_fits := (c.a.def_ 27 (d := d_l_fits) rfl).imp fun _ h => He5.fun_of (st := st_l_fits) h
    f_l_count := (c.a.def_ 28 (d := d_l_count) rfl).imp fun _ h => He5.fun_of (st := st_l_count) h
    f_l_deeper_right := (c.a.def_ 29 (d := d_l_deeper_right) rfl).imp fun _ h => He5.fun_of (st := st_l_deeper_right) h
    f_law := (c.a.def_ 30 (d := d_law) rfl).imp fun _ h => He5.fun_of (st := st_law) h
    f_Einit := (c.a.def_ 31 (d := d_Einit) rfl).imp fun _ h => He5.fun_of (st := st_Einit) h
    f_Epool := (c.a.def_ 32 (d := d_Epool) rfl).imp fun _ h => He5.fun_of (st := st_Epool) h
    f_Eapply := (c.a.def_ 33 (d := d_Eapply) rfl).imp fun _ h => He5.fun_of (st := st_Eapply) h
    f_Linit := (c.a.def_ 34 (d := d_Linit) rfl).imp fun _ h => He5.fun_of (st := st_Linit) h
    f_Lrestrict := (c.a.def_ 35 (d := d_Lrestrict) rfl).imp fun _ h => He5.fun_of (st := st_Lrestrict) h
    f_Lobserve := (c.a.def_ 36 (d := d_Lobserve) rfl).imp fun _ h => He5.fun_of (st := st_Lobserve) h
    f_Lsettle := (c.a.def_ 37 (d := d_Lsettle) rfl).imp fun _ h => He5.fun_of (st := st_Lsettle) h
    f_Lbag := (c.a.def_ 38 (d := d_Lbag) rfl).imp fun _ h => He5.fun_of (st := st_Lbag) h
    f_Lways := (c.a.def_ 39 (d := d_Lways) rfl).imp fun _ h => He5.fun_of (st := st_Lways) h
    f_Einserted := (c.a.def_ 40 (d := d_Einserted) rfl).imp fun _ h => He5.fun_of (st := st_Einserted) h
    f_Eremovals := (c.a.def_ 41 (d := d_Eremovals) rfl).imp fun _ h => He5.fun_of (st := st_Eremovals) h
    f_Esurvivors := (c.a.def_ 42 (d := d_Esurvivors) rfl).imp fun _ h => He5.fun_of (st := st_Esurvivors) h
    f_Econsumed := (c.a.def_ 43 (d := d_Econsumed) rfl).imp fun _ h => He5.fun_of (st := st_Econsumed) h
    f_Eneeded := (c.a.def_ 44 (d := d_Eneeded) rfl).imp fun _ h => He5.fun_of (st := st_Eneeded) h
    f_Eis_valid := (c.a.def_ 45 (d := d_Eis_valid) rfl).imp fun _ h => He5.fun_of (st := st_Eis_valid) h
    p_inserted := propB_ok p1
    p_removals := propB_ok p2
    p_survivors := propB_ok p3
    p_consumed := propB_ok p4
    p_needed := propB_ok p5
    ins := insB_ok (He.cls_ok (c.a.fact 52 (f := .cls "Effect") rfl)) e3
    stat := e4 }
end K79
end
section
set_option Elab.async false
set_option linter.all false
set_option maxRecDepth 100000
set_option maxHeartbeats 4000000
/-! What evaluates to what: a value told by a predicate that heap extensions keep. -/
namespace K79
open PySem PySem.Spec L2

theorem Same.ext {H H' : Hp} {p : Addr} {o : HO} (e : Same H H') (h : H' p = none) : Same H (upd H' p o) := fun a u ha => by
  rw [upd_ne (ne_of_none (e a u ha) h)]; exact e a u ha
/-- an object that the base does not know may change -/
theorem Same.chg {H H' : Hp} {p : Addr} {o : HO} (e : Same H H') (h : H p = none) : Same H (upd H' p o) := fun a u ha => by
  rw [upd_ne (ne_of_none ha h)]; exact e a u ha

structure Pr where
  h : V → Hp → Prop
  kp : ∀ {v : V} {H H' : Hp}, Same H H' → h v H → h v H'

def IsV (x : V) : Pr := ⟨fun v _ => v = x, fun _ h => h⟩
abbrev IsI (n : Int) : Pr := IsV (.int n)
abbrev IsB (b : Bool) : Pr := IsV (.bl b)
def AllP : List Pr → List V → Hp → Prop
  | [], vs, _ => vs = []
  | P :: Ps, vs, H => ∃ v r, vs = v :: r ∧ P.h v H ∧ AllP Ps r H
theorem AllP.kp {H H' : Hp} (e : Same H H') : ∀ {Ps : List Pr} {vs : List V}, AllP Ps vs H → AllP Ps vs H'
  | [], _, h => h
  | P :: Ps, _, ⟨v, r, a, b, c⟩ => ⟨v, r, a, P.kp e b, AllP.kp e c⟩
theorem AllP.len {H : Hp} : ∀ {Ps : List Pr} {vs : List V}, AllP Ps vs H → vs.length = Ps.length
  | [], _, h => by rw [show _ = [] from h] <;> rfl
  | P :: Ps, _, ⟨v, r, a, b, c⟩ => by rw [a, List.length_cons, List.length_cons, AllP.len c]
theorem AllP.get {H : Hp} : ∀ {Ps : List Pr} {vs : List V} {i : Nat} {v : V}, AllP Ps vs H → vs[i]? = some v → ∃ P, Ps[i]? = some P ∧ P.h v H
  | [], _, i, v, h, e => by rw [show _ = [] from h] at e; simp at e
  | P :: Ps, _, 0, v, ⟨x, r, a, b, c⟩, e => by subst a; simp at e; subst e; exact ⟨P, rfl, b⟩
  | P :: Ps, _, i + 1, v, ⟨x, r, a, b, c⟩, e => by
    subst a
    obtain ⟨Q, q1, q2⟩ := AllP.get (i := i) (v := v) c (by simpa using e)
    exact ⟨Q, by simpa using q1, q2⟩
theorem AllP.snoc {H : Hp} : ∀ {Ps : List Pr} {vs : List V} {P : Pr} {v : V}, AllP Ps vs H → P.h v H → AllP (Ps ++ [P]) (vs ++ [v]) H
  | [], _, P, v, h, e => by rw [show _ = [] from h]; exact ⟨v, [], rfl, e, rfl⟩
  | Q :: Ps, _, P, v, ⟨x, r, a, b, c⟩, e => by subst a; exact ⟨x, r ++ [v], rfl, b, AllP.snoc c e⟩
theorem AllP.app {H : Hp} : ∀ {Ps Qs : List Pr} {vs ws : List V}, AllP Ps vs H → AllP Qs ws H → AllP (Ps ++ Qs) (vs ++ ws) H
  | [], _, _, _, h, e => by rw [show _ = [] from h]; exact e
  | Q :: Ps, _, _, _, ⟨x, r, a, b, c⟩, e => by subst a; exact ⟨x, r ++ _, rfl, b, AllP.app c e⟩
/-- exact values -/
theorem AllP.is {α : Type} {H : Hp} {f : α → V} : ∀ {xs : List α} {vs : List V}, AllP (xs.map fun a => IsV (f a)) vs H → vs = xs.map f
  | [], _, h => h
  | x :: xs, _, ⟨v, r, a, b, c⟩ => by
    have b' : v = f x := b
    rw [a, b', AllP.is c] <;> rfl
theorem AllP.of_is {α : Type} {H : Hp} {f : α → V} : ∀ {xs : List α}, AllP (xs.map fun a => IsV (f a)) (xs.map f) H
  | [] => rfl
  | x :: xs => ⟨f x, xs.map f, rfl, rfl, AllP.of_is⟩

theorem Same.rd {H H' : Hp} {a : Addr} {u : HO} (e : Same H H') (h : Rd H a u) : Rd H' a u := h.imp (e _ _) fun ⟨o, h⟩ => ⟨o, e _ _ h⟩
def TupP (Ps : List Pr) : Pr := ⟨fun v H => ∃ p ys, v = .ref p ∧ Rd H p (.tup ys) ∧ AllP Ps ys H, fun e ⟨p, ys, a, b, c⟩ => ⟨p, ys, a, Same.rd e b, AllP.kp e c⟩⟩
/-- a tuple whose object is known to bear no dict -/
def SolP (Ps : List Pr) : Pr := ⟨fun v H => ∃ (p : Addr) (ys : List V) (o : Obj), v = .ref p ∧ o.dict = none ∧ H p = some (.frz o (.tup ys)) ∧ AllP Ps ys H, fun e ⟨p, ys, o, a, d, b, c⟩ => ⟨p, ys, o, a, d, e _ _ b, AllP.kp e c⟩⟩
theorem SolP.tup {Ps : List Pr} {v : V} {H : Hp} (h : (SolP Ps).h v H) : (TupP Ps).h v H := let ⟨p, ys, o, a, _, b, c⟩ := h; ⟨p, ys, a, .inr ⟨o, b⟩, c⟩
def LstP (Ps : List Pr) : Pr := ⟨fun v H => ∃ p ys, v = .ref p ∧ H p = some (.lst ys) ∧ AllP Ps ys H, fun e ⟨p, ys, a, b, c⟩ => ⟨p, ys, a, e _ _ b, AllP.kp e c⟩⟩
/-- a list that H0 does not know -/
def NewL (H0 : Hp) (Ps : List Pr) : Pr := ⟨fun v H => ∃ p ys, v = .ref p ∧ H0 p = none ∧ H p = some (.lst ys) ∧ AllP Ps ys H, fun e ⟨p, ys, a, n, b, c⟩ => ⟨p, ys, a, n, e _ _ b, AllP.kp e c⟩⟩
def OrP (P Q : Pr) : Pr := ⟨fun v H => P.h v H ∨ Q.h v H, fun e h => h.imp (P.kp e) (Q.kp e)⟩
def ExP {α : Type} (φ : α → Prop) (P : α → Pr) : Pr := ⟨fun v H => ∃ a, φ a ∧ (P a).h v H, fun e ⟨a, b, c⟩ => ⟨a, b, (P a).kp e c⟩⟩
abbrev entP (e : Int × Int) : Pr := TupP [IsI e.1, IsI e.2]
def BagP (b : List (Int × Int)) : Pr := ⟨fun v H => b.length ≤ 1000 ∧ (SolP (b.map entP)).h v H, fun e h => ⟨h.1, (SolP _).kp e h.2⟩⟩
theorem BagP.tup {b : List (Int × Int)} {v : V} {H : Hp} (h : (BagP b).h v H) : (TupP (b.map entP)).h v H := SolP.tup h.2

/-! ### what a change of a list or a dict leaves as it was -/
def mutO : HO → Bool
  | .lst _ => true
  | .dK _ => true
  | .frz _ (.dK _) => true
  | _ => false
def Sim (H H' : Hp) : Prop := ∀ a o, H a = some o → mutO o = false → H' a = some o
theorem Sim.same {H H' : Hp} (h : Same H H') : Sim H H' := fun a o e _ => h a o e
theorem Sim.refl (H : Hp) : Sim H H := fun _ _ h _ => h
theorem Sim.trans {H H1 H2 : Hp} (a : Sim H H1) (b : Sim H1 H2) : Sim H H2 := fun x o h m => b x o (a x o h m) m
theorem Sim.at {H : Hp} {p : Addr} {u o : HO} (h : H p = some u) (m : mutO u = true) : Sim H (upd H p o) := fun a v e n => by
  rw [upd_ne (fun z => by rw [z, h] at e; cases e; rw [m] at n; cases n)]; exact e
theorem Sim.lst {H : Hp} {p : Addr} {xs : List V} {o : HO} (h : H p = some (.lst xs)) : Sim H (upd H p o) := Sim.at h rfl
class Fixd (P : Pr) : Prop where
  fx : ∀ {v : V} {H H' : Hp}, Sim H H' → P.h v H → P.h v H'
def FixL (Ps : List Pr) : Prop := ∀ P ∈ Ps, Fixd P
theorem FixL.nil : FixL [] := fun _ h => by cases h
theorem FixL.cons {P : Pr} {Ps : List Pr} (h : Fixd P) (r : FixL Ps) : FixL (P :: Ps) := fun Q hQ => by
  rcases List.mem_cons.mp hQ with e | e
  · rw [e]; exact h
  · exact r Q e
theorem FixL.snoc {P : Pr} {Ps : List Pr} (r : FixL Ps) (h : Fixd P) : FixL (Ps ++ [P]) := fun Q hQ => by
  rcases List.mem_append.mp hQ with e | e
  · exact r Q e
  · rw [List.mem_singleton.mp e]; exact h
theorem AllP.fx {H H' : Hp} : ∀ {Ps : List Pr} {vs : List V}, FixL Ps → Sim H H' → AllP Ps vs H → AllP Ps vs H'
  | [], _, _, _, h => h
  | P :: Ps, _, f, e, ⟨v, r, a, b, c⟩ => ⟨v, r, a, (f P List.mem_cons_self).fx e b, AllP.fx (fun Q q => f Q (List.mem_cons_of_mem _ q)) e c⟩
instance {x : V} : Fixd (IsV x) := ⟨fun _ h => h⟩
theorem TupP.fixd {Ps : List Pr} (f : FixL Ps) : Fixd (TupP Ps) := ⟨fun e ⟨p, ys, a, b, c⟩ => ⟨p, ys, a, b.imp (fun h => e _ _ h rfl) (fun ⟨o, h⟩ => ⟨o, e _ _ h rfl⟩), AllP.fx f e c⟩⟩
theorem SolP.fixd {Ps : List Pr} (f : FixL Ps) : Fixd (SolP Ps) := ⟨fun e ⟨p, ys, o, a, d, b, c⟩ => ⟨p, ys, o, a, d, e _ _ b rfl, AllP.fx f e c⟩⟩
instance {P Q : Pr} [h1 : Fixd P] [h2 : Fixd Q] : Fixd (TupP [P, Q]) := TupP.fixd (.cons h1 (.cons h2 .nil))
instance {P Q R : Pr} [h1 : Fixd P] [h2 : Fixd Q] [h3 : Fixd R] : Fixd (TupP [P, Q, R]) := TupP.fixd (.cons h1 (.cons h2 (.cons h3 .nil)))
instance {b : List (Int × Int)} : Fixd (BagP b) := ⟨fun e h => ⟨h.1, (SolP.fixd fun P hP => by
  obtain ⟨x, _, rfl⟩ := List.mem_map.mp hP
  infer_instance).fx e h.2⟩⟩

theorem free_back {H H' : Hp} {p : Addr} (e : Same H H') (h : H' p = none) : H p = none := e.free h

/-! ### evaluation -/
def EvP (te : TE) (σ : St) (H : Hp) (P : Pr) : Prop := ∀ H1, Same H H1 → ∀ Q : VK, (∀ v H2, Same H1 H2 → P.h v H2 → Q v H2) → te σ H1 Q
def EvA (ta : TA) (σ : St) (H : Hp) (Ps : List Pr) : Prop := ∀ H1, Same H H1 → ∀ Q : List V → Hp → Prop, (∀ vs H2, Same H1 H2 → AllP Ps vs H2 → Q vs H2) → ta σ H1 Q
def EvT (tt : TT) (σ : St) (H : Hp) (b : Bool) : Prop := ∀ H1, Same H H1 → ∀ Q : Bool → Hp → Prop, (∀ H2, Same H1 H2 → Q b H2) → tt σ H1 Q
/-- what is asked of a promise at these arguments -/
def SpTo (sp : Sp) (vs : List V) (H : Hp) (P : Pr) : Prop := ∀ (Q : VK) (E : XK), (∀ v H2, Same H H2 → P.h v H2 → Q v H2) → sp vs H Q E
def SpG {γ : Type} (Ps : γ → List Pr) (C : γ → Prop) (post : γ → Pr) : Sp := fun vs H Q _ => ∃ g, C g ∧ AllP (Ps g) vs H ∧ ∀ v H', Same H H' → (post g).h v H' → Q v H'

section
variable {K : PySem.W.Frag} {σ : St} {H H' : Hp} {ta tb tc te : TE} {t u : TT} {x y z v : V} {r : R2} {P Q R : Pr} {tr : TA} {Ps : List Pr}
theorem EvP.mono (e : Same H H') (h : EvP te σ H P) : EvP te σ H' P := fun H1 a Q q => h H1 (e.trans a) Q q
theorem EvT.mono {b : Bool} (e : Same H H') (h : EvT t σ H b) : EvT t σ H' b := fun H1 a Q q => h H1 (e.trans a) Q q
theorem EvA.mono (e : Same H H') (h : EvA tr σ H Ps) : EvA tr σ H' Ps := fun H1 a Q q => h H1 (e.trans a) Q q
theorem EvP.imp (h : EvP te σ H P) (k : ∀ v H1, Same H H1 → P.h v H1 → R.h v H1) : EvP te σ H R := fun H1 e Q q => h H1 e Q fun v H2 e2 p => q v H2 e2 (k v H2 (e.trans e2) p)
theorem EvT.is {b c : Bool} (h : EvT t σ H b) (e : b = c) : EvT t σ H c := e ▸ h
theorem EvP.is (h : EvP te σ H (IsV x)) (e : x = y) : EvP te σ H (IsV y) := e ▸ h
theorem ev_var {i : Nat} (h : σ[i]? = some (some v)) (p : P.h v H) : EvP (tVar i) σ H P := fun H1 e _ q => ⟨v, h, q v H1 (Same.refl H1) (P.kp e p)⟩
theorem ev_v {i : Nat} (h : σ[i]? = some (some v)) : EvP (tVar i) σ H (IsV v) := ev_var h rfl
theorem ev_c : EvP (tC v) σ H (IsV v) := fun H1 _ _ q => q v H1 (Same.refl H1) rfl
/-- a first value, then the rest where it is known -/
theorem ev_opP (ha : EvP ta σ H P) (hb : EvP tb σ H Q) (hr : ∀ x y H1, Same H H1 → P.h x H1 → Q.h y H1 → ∀ K : VK, (∀ v H2, Same H1 H2 → R.h v H2 → K v H2) → r x y H1 K) : EvP (tOp r ta tb) σ H R := fun H1 e K q =>
  ha H1 e _ fun x H2 e2 p => hb H2 (e.trans e2) _ fun y H3 e3 p' => hr x y H3 ((e.trans e2).trans e3) (P.kp e3 p) p' K fun v H4 e4 => q v H4 ((e2.trans e3).trans e4)
theorem ev_op (ha : EvP ta σ H (IsV x)) (hb : EvP tb σ H (IsV y)) (hr : ∀ H1, Same H H1 → ∀ K : VK, K z H1 → r x y H1 K) : EvP (tOp r ta tb) σ H (IsV z) :=
  ev_opP ha hb fun x' y' H1 e (p : x' = x) (q : y' = y) K k => by subst p; subst q; exact hr H1 e K (k z H1 (Same.refl H1) rfl)
theorem ev_I0 {g : Int → Int → V} {i j : Int} (ha : EvP ta σ H (IsI i)) (hb : EvP tb σ H (IsI j)) : EvP (tOp (rI0 g) ta tb) σ H (IsV (g i j)) := ev_op ha hb fun _ _ _ k => ⟨i, j, rfl, rfl, k⟩
theorem ev_I {g : Int → Int → V} {C : Int → Int → Prop} {i j : Int} (ha : EvP ta σ H (IsI i)) (hb : EvP tb σ H (IsI j)) (hc : C i j) : EvP (tOp (rI C g) ta tb) σ H (IsV (g i j)) := ev_op ha hb fun _ _ _ k => ⟨i, j, rfl, rfl, hc, k⟩
theorem ev_i {g : Int → Int → V} {i j : Int} {z : V} (ha : EvP ta σ H (IsI i)) (hb : EvP tb σ H (IsI j)) (e : g i j = z) : EvP (tOp (rI0 g) ta tb) σ H (IsV z) := e ▸ ev_I0 ha hb
/-- a comparison of ints whose answer is known -/
theorem ev_b {p : Int → Int → Prop} [d : ∀ i j, Decidable (p i j)] {i j : Int} {b : Bool} (ha : EvP ta σ H (IsI i)) (hb : EvP tb σ H (IsI j)) (e : p i j ↔ b = true) : EvP (tOp (rI0 fun i j => .bl (decide (p i j))) ta tb) σ H (IsB b) := by
  have z : decide (p i j) = b := by
    cases b with
    | true => exact decide_eq_true (e.mpr rfl)
    | false => exact decide_eq_false fun h => by have := e.mp h; cases this
  rw [← z]
  exact ev_I0 (g := fun i j => .bl (decide (p i j))) ha hb
theorem ev_eq (ha : EvP ta σ H (IsV x)) (hb : EvP tb σ H (IsV y)) (hs : scal x y = true) : EvP (tOp rEq ta tb) σ H (IsB (decide (x = y))) := ev_op ha hb fun _ _ _ k => ⟨hs, k⟩
theorem ev_ne (ha : EvP ta σ H (IsV x)) (hb : EvP tb σ H (IsV y)) (hs : scal x y = true) : EvP (tOp rNe ta tb) σ H (IsB (!decide (x = y))) := ev_op ha hb fun _ _ _ k => ⟨hs, k⟩
theorem et_test {b : Bool} (h : EvP te σ H (IsB b)) : EvT (tTest te) σ H b := fun H1 e _ q => h H1 e _ fun v H2 e2 (p : v = _) => ⟨b, p, q H2 e2⟩
theorem et_B {b : Bool} (h : EvP te σ H (IsB b)) : EvT (tB te) σ H b := fun H1 e _ q => h H1 e _ fun v H2 e2 (p : v = _) => ⟨b, p, q H2 e2⟩
theorem et_and {a b : Bool} (h1 : EvT t σ H a) (h2 : a = true → EvT u σ H b) : EvT (tAnd t u) σ H (a && b) := fun H1 e K q => h1 H1 e _ fun H2 e2 => by
  cases a with
  | true => exact h2 rfl H2 (e.trans e2) K fun H3 e3 => q H3 (e2.trans e3)
  | false => exact q H2 e2
theorem et_or {a b : Bool} (h1 : EvT t σ H a) (h2 : a = false → EvT u σ H b) : EvT (tOr t u) σ H (a || b) := fun H1 e K q => h1 H1 e _ fun H2 e2 => by
  cases a with
  | true => exact q H2 e2
  | false => exact h2 rfl H2 (e.trans e2) K fun H3 e3 => q H3 (e2.trans e3)
theorem et_not {a : Bool} (h1 : EvT t σ H a) : EvT (tNot t) σ H (!a) := fun H1 e _ q => h1 H1 e _ fun H2 e2 => q H2 e2
theorem ev_and {a b : Bool} (h1 : EvP ta σ H (IsB a)) (h2 : a = true → EvP tb σ H (IsB b)) : EvP (tAndV ta tb) σ H (IsB (a && b)) := fun H1 e K q => h1 H1 e _ fun v H2 e2 (p : v = _) => ⟨a, p, by
  cases a with
  | true => exact h2 rfl H2 (e.trans e2) K fun v H3 e3 p => q v H3 (e2.trans e3) p
  | false => exact q _ H2 e2 rfl⟩
theorem ev_or {a b : Bool} (h1 : EvP ta σ H (IsB a)) (h2 : a = false → EvP tb σ H (IsB b)) : EvP (tOrV ta tb) σ H (IsB (a || b)) := fun H1 e K q => h1 H1 e _ fun v H2 e2 (p : v = _) => ⟨a, p, by
  cases a with
  | true => exact q _ H2 e2 rfl
  | false => exact h2 rfl H2 (e.trans e2) K fun v H3 e3 p => q v H3 (e2.trans e3) p⟩
theorem ev_not {a : Bool} (h1 : EvP ta σ H (IsB a)) : EvP (tNotV ta) σ H (IsB (!a)) := fun H1 e K q => h1 H1 e _ fun v H2 e2 (p : v = _) => ⟨a, p, q _ H2 e2 rfl⟩
theorem ev_if {b : Bool} (h : EvT t σ H b) (h1 : b = true → EvP ta σ H P) (h2 : b = false → EvP tb σ H P) : EvP (tIf t ta tb) σ H P := fun H1 e K q => h H1 e _ fun H2 e2 => by
  cases b with
  | true => exact h1 rfl H2 (e.trans e2) K fun v H3 e3 => q v H3 (e2.trans e3)
  | false => exact h2 rfl H2 (e.trans e2) K fun v H3 e3 => q v H3 (e2.trans e3)
theorem ea_nil : EvA tNil σ H [] := fun H1 _ _ q => q [] H1 (Same.refl H1) rfl
theorem ea_cons (h : EvP ta σ H P) (hr : EvA tr σ H Ps) : EvA (tCons ta tr) σ H (P :: Ps) := fun H1 e _ q =>
  h H1 e _ fun v H2 e2 p => hr H2 (e.trans e2) _ fun vs H3 e3 ps => q (v :: vs) H3 (e2.trans e3) ⟨v, vs, rfl, P.kp e3 p, ps⟩
theorem ea1 (h : EvP ta σ H P) : EvA (tCons ta tNil) σ H [P] := ea_cons h ea_nil
theorem ea2 (h : EvP ta σ H P) (h' : EvP tb σ H Q) : EvA (tCons ta (tCons tb tNil)) σ H [P, Q] := ea_cons h (ea1 h')
theorem ea3 (h : EvP ta σ H P) (h' : EvP tb σ H Q) (h'' : EvP tc σ H R) : EvA (tCons ta (tCons tb (tCons tc tNil))) σ H [P, Q, R] := ea_cons h (ea2 h' h'')
theorem ev_tup (h : EvA tr σ H Ps) (hl : Ps.length ≤ 100000) : EvP (tTup tr) σ H (TupP Ps) := fun H1 e _ q =>
  h H1 e _ fun vs H2 e2 ps => ⟨Nat.le_trans (by rw [ps.len]; exact hl) (by decide), fun p hp => q _ _ (e2.trans (Same.ext (Same.refl H2) hp)) ⟨p, vs, rfl, Rd.of upd_same, AllP.kp (Same.ext (Same.refl H2) hp) ps⟩⟩
theorem ev_lst (h : EvA tr σ H Ps) (hl : Ps.length ≤ 100000) : EvP (tLst tr) σ H (NewL H Ps) := fun H1 e _ q =>
  h H1 e _ fun vs H2 e2 ps => ⟨Nat.le_trans (by rw [ps.len]; exact hl) (by decide), fun p hp => q _ _ (e2.trans (Same.ext (Same.refl H2) hp)) ⟨p, vs, rfl, free_back (e.trans e2) hp, upd_same, AllP.kp (Same.ext (Same.refl H2) hp) ps⟩⟩
theorem NewL.lst {H0 : Hp} (h : (NewL H0 Ps).h v H) : (LstP Ps).h v H := let ⟨p, ys, a, _, b, c⟩ := h; ⟨p, ys, a, b, c⟩
theorem ev_lst' (h : EvA tr σ H Ps) (hl : Ps.length ≤ 100000) : EvP (tLst tr) σ H (LstP Ps) := (ev_lst h hl).imp fun _ _ _ p => NewL.lst p
/-- a call of one's own def by its promise -/
theorem ev_call {γ : Type} {Ps : γ → List Pr} {C : γ → Prop} {post : γ → Pr} {E : XK} (g : γ) (hc : C g) (ha : EvA tr σ H (Ps g)) : EvP (tCall (SpG Ps C post) [] E tr) σ H (post g) := fun H1 e _ q =>
  ha H1 e _ fun vs H2 e2 ps => ⟨g, hc, by rw [List.append_nil]; exact ps, fun v H3 e3 => q v H3 (e2.trans e3)⟩
/-- a built-in, by values -/
theorem ev_cb {r : List V → Hp → VK → Prop} (ha : EvA tr σ H Ps) (hr : ∀ vs H1, Same H H1 → AllP Ps vs H1 → ∀ K : VK, (∀ v H2, Same H1 H2 → P.h v H2 → K v H2) → r vs H1 K) : EvP (tCB r tr) σ H P := fun H1 e K q =>
  ha H1 e _ fun vs H2 e2 ps => hr vs H2 (e.trans e2) ps K fun v H3 e3 => q v H3 (e2.trans e3)

/-! ### statements -/
variable {D : Ends} {ts tz tw : TS} {tg : TG}
theorem s_seq (h : ts { D with nx := tz D } σ H) : tSeq ts tz D σ H := h
theorem s_asg {i : Nat} (h : EvP te σ H P) (k : ∀ v H1, Same H H1 → P.h v H1 → D.nx (σ.set i (some v)) H1) : tAsg te (gName i) D σ H := h H (Same.refl H) _ fun v H1 e p => k v H1 e p
theorem q_asg {i : Nat} (h : EvP te σ H P) (k : ∀ v H1, Same H H1 → P.h v H1 → tz D (σ.set i (some v)) H1) : tSeq (tAsg te (gName i)) tz D σ H := h H (Same.refl H) _ fun v H1 e p => k v H1 e p
theorem s_ret (h : EvP te σ H P) (k : ∀ v H1, Same H H1 → P.h v H1 → D.rt v H1) : tRet te D σ H := h H (Same.refl H) _ fun v H1 e p => k v H1 e p
theorem s_drop (h : EvP te σ H P) (k : ∀ H1, Same H H1 → D.nx σ H1) : tDrop te D σ H := h H (Same.refl H) _ fun v H1 e _ => k H1 e
theorem q_drop (h : EvP te σ H P) (k : ∀ H1, Same H H1 → tz D σ H1) : tSeq (tDrop te) tz D σ H := h H (Same.refl H) _ fun v H1 e _ => k H1 e
theorem s_if {b : Bool} (h : EvT t σ H b) (h1 : b = true → ∀ H1, Same H H1 → ts D σ H1) (h2 : b = false → ∀ H1, Same H H1 → tw D σ H1) : tIfS t ts tw D σ H := h H (Same.refl H) _ fun H1 e => by
  cases b with
  | true => exact h1 rfl H1 e
  | false => exact h2 rfl H1 e
theorem q_if {b : Bool} (h : EvT t σ H b) (h1 : b = true → ∀ H1, Same H H1 → ts { D with nx := tz D } σ H1) (h2 : b = false → ∀ H1, Same H H1 → tw { D with nx := tz D } σ H1) : tSeq (tIfS t ts tw) tz D σ H := s_if (D := { D with nx := tz D }) h h1 h2
/-- an if that is not taken -/
theorem q_no (h : EvT t σ H false) (k : ∀ H1, Same H H1 → tz D σ H1) : tSeq (tIfS t ts tNext) tz D σ H := h H (Same.refl H) _ fun H1 e => k H1 e
theorem s_no (h : EvT t σ H false) (k : ∀ H1, Same H H1 → D.nx σ H1) : tIfS t ts tNext D σ H := h H (Same.refl H) _ fun H1 e => k H1 e
theorem q_aug {i : Nat} {f : Int → Int → Int} {a b : Int} (hx : σ[i]? = some (some (.int a))) (h : EvP te σ H (IsI b)) (k : ∀ H1, Same H H1 → tz D (σ.set i (some (.int (f a b)))) H1) : tSeq (tAug i te (ipI f)) tz D σ H :=
  ⟨_, hx, h H (Same.refl H) _ fun v H1 e (p : v = _) => ⟨a, b, rfl, p, k H1 e⟩⟩
theorem s_aug {i : Nat} {f : Int → Int → Int} {a b : Int} (hx : σ[i]? = some (some (.int a))) (h : EvP te σ H (IsI b)) (k : ∀ H1, Same H H1 → D.nx (σ.set i (some (.int (f a b)))) H1) : tAug i te (ipI f) D σ H :=
  ⟨_, hx, h H (Same.refl H) _ fun v H1 e (p : v = _) => ⟨a, b, rfl, p, k H1 e⟩⟩
/-- xs.append(e), the list one's own -/
theorem s_app {l : Addr} {xs : List V} (hl : H l = some (.lst xs)) (ha : EvP ta σ H (IsV (.ref l))) (h : EvP te σ H P) (hz : xs.length < 100000) (k : ∀ v H1, Same H H1 → P.h v H1 → D.nx σ (upd H1 l (.lst (xs ++ [v])))) :
    tDrop (tBM K "list" rAppend ta (tCons te tNil)) D σ H := ha H (Same.refl H) _ fun x H1 e1 (px : x = _) => by
  subst px
  refine ⟨.inl ⟨rfl, xs, SqL.of (e1 _ _ hl)⟩, h H1 e1 _ fun v H2 e2 p => ?_⟩
  exact ⟨l, xs, v, rfl, rfl, e2 _ _ (e1 _ _ hl), Nat.lt_of_lt_of_le hz (by decide), k v H2 (e1.trans e2) p⟩
theorem q_app {l : Addr} {xs : List V} (hl : H l = some (.lst xs)) (ha : EvP ta σ H (IsV (.ref l))) (h : EvP te σ H P) (hz : xs.length < 100000) (k : ∀ v H1, Same H H1 → P.h v H1 → tz D σ (upd H1 l (.lst (xs ++ [v])))) :
    tSeq (tDrop (tBM K "list" rAppend ta (tCons te tNil))) tz D σ H := s_app (D := { D with nx := tz D }) hl ha h hz k

/-! ### loops -/
/-- for over a tuple whose items are told by Ps at the base H0 -/
theorem s_forT {H0 : Hp} {tl : TE} (h : EvP tl σ H (IsV x)) (hT : (TupP Ps).h x H0) (Pv : Nat → St → Hp → Prop) (h0 : ∀ H1, Same H H1 → Pv 0 σ H1) (hk : ∀ i σ' H', Pv i σ' H' → Same H0 H')
    (hs : ∀ i P y σ' H', Ps[i]? = some P → P.h y H' → Pv i σ' H' → tg y σ' H' fun σ2 H2 => ts { D with nx := Pv (i + 1), ct := Pv (i + 1), bk := D.nx } σ2 H2) (hd : ∀ σ' H', Pv Ps.length σ' H' → D.nx σ' H') : tFor (iTup K tl) tg ts D σ H :=
  h H (Same.refl H) _ fun v H1 e1 (pv : v = x) => by
    subst pv
    obtain ⟨a, ys, rfl, ha, hy⟩ := hT
    have e0 := hk _ _ _ (h0 H1 e1)
    refine ⟨a, rfl, ⟨ys, .inl (Same.rd e0 ha)⟩, for_tup (xs := ys) Pv (h0 H1 e1) (fun i σ' H' _ p => .inl (Same.rd (hk _ _ _ p) ha)) (fun i y σ' H' hi p => ?_) ?_⟩
    · obtain ⟨P, hP, q⟩ := hy.get hi
      exact hs i P y σ' H' hP (P.kp (hk _ _ _ p) q) p
    · rw [hy.len]; exact hd
theorem q_forT {H0 : Hp} {tl : TE} (h : EvP tl σ H (IsV x)) (hT : (TupP Ps).h x H0) (Pv : Nat → St → Hp → Prop) (h0 : ∀ H1, Same H H1 → Pv 0 σ H1) (hk : ∀ i σ' H', Pv i σ' H' → Same H0 H')
    (hs : ∀ i P y σ' H', Ps[i]? = some P → P.h y H' → Pv i σ' H' → tg y σ' H' fun σ2 H2 => ts { D with nx := Pv (i + 1), ct := Pv (i + 1), bk := tz D } σ2 H2) (hd : ∀ σ' H', Pv Ps.length σ' H' → tz D σ' H') : tSeq (tFor (iTup K tl) tg ts) tz D σ H :=
  s_forT (D := { D with nx := tz D }) h hT Pv h0 hk hs hd
theorem s_forL {H0 : Hp} {tl : TE} (h : EvP tl σ H (IsV x)) (hT : (LstP Ps).h x H0) (Pv : Nat → St → Hp → Prop) (h0 : ∀ H1, Same H H1 → Pv 0 σ H1) (hk : ∀ i σ' H', Pv i σ' H' → Same H0 H')
    (hs : ∀ i P y σ' H', Ps[i]? = some P → P.h y H' → Pv i σ' H' → tg y σ' H' fun σ2 H2 => ts { D with nx := Pv (i + 1), ct := Pv (i + 1), bk := D.nx } σ2 H2) (hd : ∀ σ' H', Pv Ps.length σ' H' → D.nx σ' H') : tFor (iList K tl) tg ts D σ H :=
  h H (Same.refl H) _ fun v H1 e1 (pv : v = x) => by
    subst pv
    obtain ⟨a, ys, rfl, ha, hy⟩ := hT
    have e0 := hk _ _ _ (h0 H1 e1)
    refine ⟨a, rfl, ⟨ys, SqL.of (e0 _ _ ha)⟩, for_list (xs := ys) Pv (h0 H1 e1) (fun i σ' H' _ p => SqL.of (hk _ _ _ p _ _ ha)) (fun i y σ' H' hi p => ?_) ?_⟩
    · obtain ⟨P, hP, q⟩ := hy.get hi
      exact hs i P y σ' H' hP (P.kp (hk _ _ _ p) q) p
    · rw [hy.len]; exact hd
theorem q_forL {H0 : Hp} {tl : TE} (h : EvP tl σ H (IsV x)) (hT : (LstP Ps).h x H0) (Pv : Nat → St → Hp → Prop) (h0 : ∀ H1, Same H H1 → Pv 0 σ H1) (hk : ∀ i σ' H', Pv i σ' H' → Same H0 H')
    (hs : ∀ i P y σ' H', Ps[i]? = some P → P.h y H' → Pv i σ' H' → tg y σ' H' fun σ2 H2 => ts { D with nx := Pv (i + 1), ct := Pv (i + 1), bk := tz D } σ2 H2) (hd : ∀ σ' H', Pv Ps.length σ' H' → tz D σ' H') : tSeq (tFor (iList K tl) tg ts) tz D σ H :=
  s_forL (D := { D with nx := tz D }) h hT Pv h0 hk hs hd
/-- for over a list that the iter makes (ints): the base grows by it -/
theorem s_forN {H0 : Hp} {tl : TE} {ns : List Int} (h : EvP tl σ H (NewL H0 (ns.map IsI))) (Pv : Addr → Nat → St → Hp → Prop) (h0 : ∀ p H1, Same H H1 → H0 p = none → H1 p = some (.lst (ns.map V.int)) → Pv p 0 σ H1) (hk : ∀ p i σ' H', H0 p = none → Pv p i σ' H' → H' p = some (.lst (ns.map V.int)))
    (hs : ∀ p i n σ' H', H0 p = none → ns[i]? = some n → Pv p i σ' H' → tg (.int n) σ' H' fun σ2 H2 => ts { D with nx := Pv p (i + 1), ct := Pv p (i + 1), bk := D.nx } σ2 H2) (hd : ∀ p σ' H', H0 p = none → Pv p ns.length σ' H' → D.nx σ' H') : tFor (iList K tl) tg ts D σ H :=
  h H (Same.refl H) _ fun v H1 e1 hv => by
    obtain ⟨a, ys, rfl, hn, ha, hy⟩ := hv
    have ey : ys = ns.map V.int := AllP.is (f := V.int) hy
    subst ey
    refine ⟨a, rfl, ⟨_, SqL.of ha⟩, for_list (xs := ns.map V.int) (Pv a) (h0 a H1 e1 hn ha) (fun i σ' H' _ p => SqL.of (hk a _ _ _ hn p)) (fun i y σ' H' hi p => ?_) ?_⟩
    · rw [List.getElem?_map] at hi
      obtain ⟨n, e, rfl⟩ := Option.map_eq_some_iff.mp hi
      exact hs a i n σ' H' hn e p
    · rw [List.length_map]; exact fun σ' H' p => hd a σ' H' hn p
theorem q_forN {H0 : Hp} {tl : TE} {ns : List Int} (h : EvP tl σ H (NewL H0 (ns.map IsI))) (Pv : Addr → Nat → St → Hp → Prop) (h0 : ∀ p H1, Same H H1 → H0 p = none → H1 p = some (.lst (ns.map V.int)) → Pv p 0 σ H1) (hk : ∀ p i σ' H', H0 p = none → Pv p i σ' H' → H' p = some (.lst (ns.map V.int)))
    (hs : ∀ p i n σ' H', H0 p = none → ns[i]? = some n → Pv p i σ' H' → tg (.int n) σ' H' fun σ2 H2 => ts { D with nx := Pv p (i + 1), ct := Pv p (i + 1), bk := tz D } σ2 H2) (hd : ∀ p σ' H', H0 p = none → Pv p ns.length σ' H' → tz D σ' H') : tSeq (tFor (iList K tl) tg ts) tz D σ H :=
  s_forN (D := { D with nx := tz D }) h Pv h0 hk hs hd
/-- the target (a, b) of a pair -/
theorem g_pair {i j : Nat} {P1 P2 : Pr} {y : V} (h : (TupP [P1, P2]).h y H) {N : St → Hp → Prop} (k : ∀ v1 v2, P1.h v1 H → P2.h v2 H → N ((σ.set i (some v1)).set j (some v2)) H) : gTup K 2 (gCons (gName i) (gCons (gName j) gNil)) y σ H N := by
  obtain ⟨p, ys, rfl, hp, v1, r1, rfl, h1, v2, r2, rfl, h2, rfl⟩ := h
  exact ⟨p, _, rfl, .inl hp, rfl, v1, _, rfl, v2, _, rfl, rfl, k v1 v2 h1 h2⟩
theorem s_forR {ta : TA} {lo hi : Int} (h : EvA ta σ H [IsI lo, IsI hi]) (hb : -(2 ^ 62) ≤ lo ∧ lo < 2 ^ 62 ∧ -(2 ^ 62) ≤ hi ∧ hi < 2 ^ 62) (Pv : Nat → St → Hp → Prop) (h0 : ∀ H1, Same H H1 → Pv 0 σ H1)
    (hs : ∀ (i : Nat) σ' H', lo + (i : Int) < hi → Pv i σ' H' → tg (.int (lo + i)) σ' H' fun σ2 H2 => ts { D with nx := Pv (i + 1), ct := Pv (i + 1), bk := D.nx } σ2 H2) (hd : ∀ σ' H', Pv (hi - lo).toNat σ' H' → D.nx σ' H') : tFor (iRng2 ta) tg ts D σ H :=
  h H (Same.refl H) _ fun vs H1 e1 hv => by
    obtain ⟨a, _, rfl, (ea : a = _), b, _, rfl, (eb : b = _), rfl⟩ := hv
    subst ea; subst eb
    exact ⟨lo, hi, rfl, hb, for_range (lo := lo) (n := (hi - lo).toNat) Pv (h0 H1 e1) (fun i σ' H' hi' p => hs i σ' H' (by omega) p) hd⟩
theorem q_forR {ta : TA} {lo hi : Int} (h : EvA ta σ H [IsI lo, IsI hi]) (hb : -(2 ^ 62) ≤ lo ∧ lo < 2 ^ 62 ∧ -(2 ^ 62) ≤ hi ∧ hi < 2 ^ 62) (Pv : Nat → St → Hp → Prop) (h0 : ∀ H1, Same H H1 → Pv 0 σ H1)
    (hs : ∀ (i : Nat) σ' H', lo + (i : Int) < hi → Pv i σ' H' → tg (.int (lo + i)) σ' H' fun σ2 H2 => ts { D with nx := Pv (i + 1), ct := Pv (i + 1), bk := tz D } σ2 H2) (hd : ∀ σ' H', Pv (hi - lo).toNat σ' H' → tz D σ' H') : tSeq (tFor (iRng2 ta) tg ts) tz D σ H :=
  s_forR (D := { D with nx := tz D }) h hb Pv h0 hs hd
theorem s_forR1 {ta : TA} {hi : Int} (h : EvA ta σ H [IsI hi]) (hb : -(2 ^ 62) ≤ hi ∧ hi < 2 ^ 62) (Pv : Nat → St → Hp → Prop) (h0 : ∀ H1, Same H H1 → Pv 0 σ H1)
    (hs : ∀ (i : Nat) σ' H', (i : Int) < hi → Pv i σ' H' → tg (.int (i : Int)) σ' H' fun σ2 H2 => ts { D with nx := Pv (i + 1), ct := Pv (i + 1), bk := D.nx } σ2 H2) (hd : ∀ σ' H', Pv hi.toNat σ' H' → D.nx σ' H') : tFor (iRng1 ta) tg ts D σ H :=
  h H (Same.refl H) _ fun vs H1 e1 hv => by
    obtain ⟨a, _, rfl, (ea : a = _), rfl⟩ := hv
    subst ea
    refine ⟨hi, rfl, hb.1, hb.2, for_range (lo := 0) (n := hi.toNat) Pv (h0 H1 e1) (fun i σ' H' hi' p => ?_) hd⟩
    rw [Int.zero_add]
    exact hs i σ' H' (by omega) p
theorem q_forR1 {ta : TA} {hi : Int} (h : EvA ta σ H [IsI hi]) (hb : -(2 ^ 62) ≤ hi ∧ hi < 2 ^ 62) (Pv : Nat → St → Hp → Prop) (h0 : ∀ H1, Same H H1 → Pv 0 σ H1)
    (hs : ∀ (i : Nat) σ' H', (i : Int) < hi → Pv i σ' H' → tg (.int (i : Int)) σ' H' fun σ2 H2 => ts { D with nx := Pv (i + 1), ct := Pv (i + 1), bk := tz D } σ2 H2) (hd : ∀ σ' H', Pv hi.toNat σ' H' → tz D σ' H') : tSeq (tFor (iRng1 ta) tg ts) tz D σ H :=
  s_forR1 (D := { D with nx := tz D }) h hb Pv h0 hs hd

/-! ### comprehensions -/
/-- the list so far at Dl, over the base H -/
def Cv (H : Hp) (Dl : Addr) (Qs : Nat → List Pr) (i : Nat) (H' : Hp) : Prop := H Dl = none ∧ Same H H' ∧ FixL (Qs i) ∧ ∃ ys, H' Dl = some (.lst ys) ∧ AllP (Qs i) ys H'
theorem cv_turn {H H' : Hp} {Dl : Addr} {Qs : Nat → List Pr} {i : Nat} {σ2 : St} {b : Bool} (p : Cv H Dl Qs i H') (hz : (Qs i).length < 100000) (ht : EvT t σ2 H' b) (h0 : b = false → Qs (i + 1) = Qs i) (h1 : b = true → ∃ P, Fixd P ∧ Qs (i + 1) = Qs i ++ [P] ∧ EvP te σ2 H' P) :
    t σ2 H' fun b H3 => if b = true then te σ2 H3 fun y H4 => ∃ acc, H4 Dl = some (.lst acc) ∧ acc.length < sizeLine ∧ Cv H Dl Qs (i + 1) (upd H4 Dl (.lst (acc ++ [y]))) else Cv H Dl Qs (i + 1) H3 := by
  obtain ⟨n, s, hf, ys, hl, ha⟩ := p
  refine ht H' (Same.refl _) _ fun H3 e3 => ?_
  cases b with
  | true =>
    obtain ⟨P, fP, e, h1⟩ := h1 rfl
    simp only [if_true]
    refine h1 H3 e3 _ fun y H4 e4 py => ?_
    have hD : H4 Dl = some (.lst ys) := e4 _ _ (e3 _ _ hl)
    have sm : Sim H4 (upd H4 Dl (.lst (ys ++ [y]))) := Sim.lst hD
    refine ⟨ys, hD, Nat.lt_of_lt_of_le (by rw [ha.len]; exact hz) (by decide), n, Same.chg ((s.trans e3).trans e4) n, ?_, ys ++ [y], upd_same, ?_⟩
    · rw [e]
      exact hf.snoc fP
    · rw [e]
      exact AllP.snoc (AllP.fx hf sm (AllP.kp (e3.trans e4) ha)) (fP.fx sm py)
  | false =>
    simp only [Bool.false_eq_true, if_false]
    exact ⟨n, s.trans e3, by rw [h0 rfl]; exact hf, ys, e3 _ _ hl, by rw [h0 rfl]; exact AllP.kp e3 ha⟩

variable {α : Type}
/-- what is kept of the first i items -/
def kept (xs : List α) (f : α → Bool) (PP : α → Pr) (i : Nat) : List Pr := ((xs.take i).filter f).map PP
theorem kept_len (xs : List α) (f : α → Bool) (PP : α → Pr) (i : Nat) : (kept xs f PP i).length ≤ i := by
  unfold kept
  rw [List.length_map]
  exact Nat.le_trans (List.length_filter_le _ _) (by rw [List.length_take]; omega)
theorem kept_turn {H H' : Hp} {Dl : Addr} {xs : List α} {f : α → Bool} {PP : α → Pr} [hF : ∀ a, Fixd (PP a)] {i : Nat} {a : α} {σ2 : St} (p : Cv H Dl (kept xs f PP) i H') (hz : i < 100000) (hi : xs[i]? = some a) (ht : EvT t σ2 H' (f a)) (he : f a = true → EvP te σ2 H' (PP a)) :
    t σ2 H' fun b H3 => if b = true then te σ2 H3 fun y H4 => ∃ acc, H4 Dl = some (.lst acc) ∧ acc.length < sizeLine ∧ Cv H Dl (kept xs f PP) (i + 1) (upd H4 Dl (.lst (acc ++ [y]))) else Cv H Dl (kept xs f PP) (i + 1) H3 := by
  obtain ⟨hlt, hg⟩ := List.getElem?_eq_some_iff.mp hi
  have et : xs.take (i + 1) = xs.take i ++ [a] := by rw [List.take_succ, hi] <;> rfl
  refine cv_turn p (Nat.lt_of_le_of_lt (kept_len _ _ _ _) hz) ht (fun h => ?_) (fun h => ⟨PP a, hF a, ?_, he h⟩)
  · unfold kept
    rw [et, List.filter_append, List.filter_cons_of_neg (by rw [h]; decide), List.filter_nil, List.append_nil]
  · unfold kept
    rw [et, List.filter_append, List.filter_cons_of_pos h, List.filter_nil, List.map_append] <;> rfl
/-- [e for a, b in xs if t], xs a tuple of pairs -/
theorem ev_lcT2 {xs : List α} {P1 P2 : α → Pr} {tl : TE} {i j : Nat} {vs : List Nat} (f : α → Bool) (PP : α → Pr) [hF : ∀ a, Fixd (PP a)] (h : EvP tl σ H (TupP (xs.map fun a => TupP [P1 a, P2 a]))) (hz : xs.length < 100000)
    (hw : ∀ x y, wipe (((wipe σ vs).set i (some x)).set j (some y)) vs = wipe σ vs)
    (ht : ∀ a ∈ xs, ∀ v1 v2 H1, Same H H1 → (P1 a).h v1 H1 → (P2 a).h v2 H1 → EvT t (((wipe σ vs).set i (some v1)).set j (some v2)) H1 (f a))
    (he : ∀ a ∈ xs, ∀ v1 v2 H1, Same H H1 → (P1 a).h v1 H1 → (P2 a).h v2 H1 → f a = true → EvP te (((wipe σ vs).set i (some v1)).set j (some v2)) H1 (PP a)) :
    EvP (tLc (iTup K tl) (gTup K 2 (gCons (gName i) (gCons (gName j) gNil))) t te vs) σ H (NewL H ((xs.filter f).map PP)) := fun H0 e Q q =>
  h H0 e _ fun v H1 e1 hv => by
    obtain ⟨p, ys, rfl, hp, hy⟩ := hv
    have hlen : ys.length = xs.length := by rw [hy.len, List.length_map]
    refine ⟨p, rfl, ⟨ys, .inl hp⟩, fun Dl hD => lc_tup (xs := ys) (Cv H1 Dl (kept xs f PP)) ⟨hD, Same.ext (Same.refl H1) hD, fun P hP => (by cases hP), [], upd_same, rfl⟩ (fun i H' _ c => .inl (Same.rd c.2.1 hp)) (fun k y H' hi c => ?_) fun H' c => ?_⟩
    · obtain ⟨P, hP, hh⟩ := hy.get hi
      rw [List.getElem?_map] at hP
      obtain ⟨a, ha, rfl⟩ := Option.map_eq_some_iff.mp hP
      have hm : a ∈ xs := List.mem_of_getElem? ha
      have hk : k < xs.length := (List.getElem?_eq_some_iff.mp ha).1
      exact g_pair ((TupP _).kp c.2.1 hh) fun v1 v2 h1 h2 => ⟨hw v1 v2, kept_turn c (by omega) ha (ht a hm v1 v2 H' ((e.trans e1).trans c.2.1) h1 h2) (he a hm v1 v2 H' ((e.trans e1).trans c.2.1) h1 h2)⟩
    · obtain ⟨n, s, _, zs, hl, hz'⟩ := c
      refine q _ H' (e1.trans s) ⟨Dl, zs, rfl, free_back (e.trans e1) n, hl, ?_⟩
      rw [hlen] at hz'
      unfold kept at hz'
      rw [List.take_of_length_le (Nat.le_refl _)] at hz'
      exact hz'
/-- .. xs a list of pairs -/
theorem ev_lcL2 {xs : List α} {P1 P2 : α → Pr} {tl : TE} {i j : Nat} {vs : List Nat} (f : α → Bool) (PP : α → Pr) [hF : ∀ a, Fixd (PP a)] (h : EvP tl σ H (LstP (xs.map fun a => TupP [P1 a, P2 a]))) (hz : xs.length < 100000)
    (hw : ∀ x y, wipe (((wipe σ vs).set i (some x)).set j (some y)) vs = wipe σ vs)
    (ht : ∀ a ∈ xs, ∀ v1 v2 H1, Same H H1 → (P1 a).h v1 H1 → (P2 a).h v2 H1 → EvT t (((wipe σ vs).set i (some v1)).set j (some v2)) H1 (f a))
    (he : ∀ a ∈ xs, ∀ v1 v2 H1, Same H H1 → (P1 a).h v1 H1 → (P2 a).h v2 H1 → f a = true → EvP te (((wipe σ vs).set i (some v1)).set j (some v2)) H1 (PP a)) :
    EvP (tLc (iList K tl) (gTup K 2 (gCons (gName i) (gCons (gName j) gNil))) t te vs) σ H (NewL H ((xs.filter f).map PP)) := fun H0 e Q q =>
  h H0 e _ fun v H1 e1 hv => by
    obtain ⟨p, ys, rfl, hp, hy⟩ := hv
    have hlen : ys.length = xs.length := by rw [hy.len, List.length_map]
    refine ⟨p, rfl, ⟨ys, SqL.of hp⟩, fun Dl hD => lc_list (xs := ys) (Cv H1 Dl (kept xs f PP)) ⟨hD, Same.ext (Same.refl H1) hD, fun P hP => (by cases hP), [], upd_same, rfl⟩ (fun i H' _ c => SqL.of (c.2.1 _ _ hp)) (fun k y H' hi c => ?_) fun H' c => ?_⟩
    · obtain ⟨P, hP, hh⟩ := hy.get hi
      rw [List.getElem?_map] at hP
      obtain ⟨a, ha, rfl⟩ := Option.map_eq_some_iff.mp hP
      have hm : a ∈ xs := List.mem_of_getElem? ha
      have hk : k < xs.length := (List.getElem?_eq_some_iff.mp ha).1
      exact g_pair ((TupP _).kp c.2.1 hh) fun v1 v2 h1 h2 => ⟨hw v1 v2, kept_turn c (by omega) ha (ht a hm v1 v2 H' ((e.trans e1).trans c.2.1) h1 h2) (he a hm v1 v2 H' ((e.trans e1).trans c.2.1) h1 h2)⟩
    · obtain ⟨n, s, _, zs, hl, hz'⟩ := c
      refine q _ H' (e1.trans s) ⟨Dl, zs, rfl, free_back (e.trans e1) n, hl, ?_⟩
      rw [hlen] at hz'
      unfold kept at hz'
      rw [List.take_of_length_le (Nat.le_refl _)] at hz'
      exact hz'
/-- [e for a in xs if t], xs a list -/
theorem ev_lcL1 {xs : List α} {P1 : α → Pr} {tl : TE} {i : Nat} {vs : List Nat} (f : α → Bool) (PP : α → Pr) [hF : ∀ a, Fixd (PP a)] (h : EvP tl σ H (LstP (xs.map P1))) (hz : xs.length < 100000)
    (hw : ∀ x, wipe ((wipe σ vs).set i (some x)) vs = wipe σ vs)
    (ht : ∀ a ∈ xs, ∀ v1 H1, Same H H1 → (P1 a).h v1 H1 → EvT t ((wipe σ vs).set i (some v1)) H1 (f a))
    (he : ∀ a ∈ xs, ∀ v1 H1, Same H H1 → (P1 a).h v1 H1 → f a = true → EvP te ((wipe σ vs).set i (some v1)) H1 (PP a)) :
    EvP (tLc (iList K tl) (gName i) t te vs) σ H (NewL H ((xs.filter f).map PP)) := fun H0 e Q q =>
  h H0 e _ fun v H1 e1 hv => by
    obtain ⟨p, ys, rfl, hp, hy⟩ := hv
    have hlen : ys.length = xs.length := by rw [hy.len, List.length_map]
    refine ⟨p, rfl, ⟨ys, SqL.of hp⟩, fun Dl hD => lc_list (xs := ys) (Cv H1 Dl (kept xs f PP)) ⟨hD, Same.ext (Same.refl H1) hD, fun P hP => (by cases hP), [], upd_same, rfl⟩ (fun i H' _ c => SqL.of (c.2.1 _ _ hp)) (fun k y H' hi c => ?_) fun H' c => ?_⟩
    · obtain ⟨P, hP, hh⟩ := hy.get hi
      rw [List.getElem?_map] at hP
      obtain ⟨a, ha, rfl⟩ := Option.map_eq_some_iff.mp hP
      have hm : a ∈ xs := List.mem_of_getElem? ha
      have hk : k < xs.length := (List.getElem?_eq_some_iff.mp ha).1
      exact ⟨hw y, kept_turn c (by omega) ha (ht a hm y H' ((e.trans e1).trans c.2.1) ((P1 a).kp c.2.1 hh)) (he a hm y H' ((e.trans e1).trans c.2.1) ((P1 a).kp c.2.1 hh))⟩
    · obtain ⟨n, s, _, zs, hl, hz'⟩ := c
      refine q _ H' (e1.trans s) ⟨Dl, zs, rfl, free_back (e.trans e1) n, hl, ?_⟩
      rw [hlen] at hz'
      unfold kept at hz'
      rw [List.take_of_length_le (Nat.le_refl _)] at hz'
      exact hz'
/-- [e for a in xs if t], xs a tuple -/
theorem ev_lcT1 {xs : List α} {P1 : α → Pr} {tl : TE} {i : Nat} {vs : List Nat} (f : α → Bool) (PP : α → Pr) [hF : ∀ a, Fixd (PP a)] (h : EvP tl σ H (TupP (xs.map P1))) (hz : xs.length < 100000)
    (hw : ∀ x, wipe ((wipe σ vs).set i (some x)) vs = wipe σ vs)
    (ht : ∀ a ∈ xs, ∀ v1 H1, Same H H1 → (P1 a).h v1 H1 → EvT t ((wipe σ vs).set i (some v1)) H1 (f a))
    (he : ∀ a ∈ xs, ∀ v1 H1, Same H H1 → (P1 a).h v1 H1 → f a = true → EvP te ((wipe σ vs).set i (some v1)) H1 (PP a)) :
    EvP (tLc (iTup K tl) (gName i) t te vs) σ H (NewL H ((xs.filter f).map PP)) := fun H0 e Q q =>
  h H0 e _ fun v H1 e1 hv => by
    obtain ⟨p, ys, rfl, hp, hy⟩ := hv
    have hlen : ys.length = xs.length := by rw [hy.len, List.length_map]
    refine ⟨p, rfl, ⟨ys, .inl hp⟩, fun Dl hD => lc_tup (xs := ys) (Cv H1 Dl (kept xs f PP)) ⟨hD, Same.ext (Same.refl H1) hD, fun P hP => (by cases hP), [], upd_same, rfl⟩ (fun i H' _ c => .inl (Same.rd c.2.1 hp)) (fun k y H' hi c => ?_) fun H' c => ?_⟩
    · obtain ⟨P, hP, hh⟩ := hy.get hi
      rw [List.getElem?_map] at hP
      obtain ⟨a, ha, rfl⟩ := Option.map_eq_some_iff.mp hP
      have hm : a ∈ xs := List.mem_of_getElem? ha
      have hk : k < xs.length := (List.getElem?_eq_some_iff.mp ha).1
      exact ⟨hw y, kept_turn c (by omega) ha (ht a hm y H' ((e.trans e1).trans c.2.1) ((P1 a).kp c.2.1 hh)) (he a hm y H' ((e.trans e1).trans c.2.1) ((P1 a).kp c.2.1 hh))⟩
    · obtain ⟨n, s, _, zs, hl, hz'⟩ := c
      refine q _ H' (e1.trans s) ⟨Dl, zs, rfl, free_back (e.trans e1) n, hl, ?_⟩
      rw [hlen] at hz'
      unfold kept at hz'
      rw [List.take_of_length_le (Nat.le_refl _)] at hz'
      exact hz'
end
theorem et_yes {σ : St} {H : Hp} : EvT tYes σ H true := fun H1 _ _ q => q H1 (Same.refl H1)

/-! ### a def that stands, with its promise -/
structure Glob (P : Program) (w : World) (K : PySem.W.Frag) (mg : Str → Option Value) (base : Heap) (k : Nat) (x : Str) (f : Addr) (ps : List Str) (sp : Sp) : Prop where
  ex : ∃ fd, FnOk P w K mg base CX0 k f fd ps sp ∧ Binds K fd ps []
  mgf : mg x = some (.ref f)
  kp : PySem.W.keepIn K (.ref f) = true
theorem pe_callG {X : Cx} {k : Nat} {x : Str} {f : Addr} {ps : List Str} {sp : Sp} {p pos : Pos} {e : Expr} {es : List Expr} {t : TA} (G : Glob X.prog X.w X.K X.mg X.base k x f ps sp) (hr : Room k X.A) (ha : PA X (e :: es) t) (hg : Gl X x := by rfl)
    (hdb : (x == ("__debug__" : Str)) = false := by decide) (he : starEach (e :: es) X.env = (false, eval e X.env) :: starEach es X.env := by rfl) (hpl : (backTo pos (starEach es X.env)).any (·.1) = false := by rfl) :
    PE X (.Call (.Name x p) (e :: es) [] pos) (tCall sp [] E0 t) := by
  obtain ⟨fd, F, b⟩ := G.ex
  exact pe_call F hr hg G.mgf G.kp b .nil pass0 ha hdb he hpl
theorem mkG {P : Program} {w : World} {K : PySem.W.Frag} {mg : Str → Option Value} {base : Heap} {k : Nat} {x qual : Str} {st : Stmt} {f : Addr} {N ps : List Str} {γ : Type} {Ps : γ → List Pr} {C : γ → Prop} {post : γ → Pr} (F : ∃ fd, Fun K x qual st f fd) (hm : mg x = some (.ref f))
    (S : FnScope N ps (defScope st)) (hl : ∀ g, (Ps g).length = ps.length)
    (hb : ∀ (kV doc pm : Value) (an : Option Addr) (cdv ct : Value) (us : List Value), us.length = ps.length → bindArgs (PySem.W.fnOf x qual (defArgs st) (defBody st) (defScope st) .none kV doc pm an cdv ct) ⟨us, []⟩ = pure (ps.zip us))
    (body : ∀ (cdv : Value) (A : Around) (outer : List Env) (s : Shared) (H : Hp) (E : XK), Room k (A.deeper (PyProof.Rows.envOfC qual (defScope st) s.heap.objs.size f cdv)) →
      ∃ t, PSs (cxOf CX0 P w K mg base N qual (defScope st) f cdv A outer s H E).nox (defBody st) t ∧
        ∀ (g : γ) (vs : List V) (Q : VK), C g → AllP (Ps g) vs H → (∀ v H', Same H H' → (post g).h v H' → Q v H') → t { nx := fun _ H' => Q .non H', rt := Q } (start N vs) H) :
    Glob P w K mg base (k + 1) x f ps (SpG Ps C post) := by
  obtain ⟨fd, F⟩ := F
  refine ⟨⟨fd, F.ok S (fun vs H Q E h => ?_) (fun cdv A outer s H vs Q E hr h => ?_), F.binds hb⟩, hm, F.kp⟩
  · obtain ⟨g, _, ha, _⟩ := h
    rw [ha.len, hl]
  · obtain ⟨t, ht, hd⟩ := body cdv A outer s H E hr
    obtain ⟨g, hc, ha, hq⟩ := h
    exact ⟨t, ht, hd g vs Q hc ha hq⟩
end K79
end
section
set_option linter.all false
set_option Elab.async false
/-! Bags of numbers as lists of (number, count): sums over them, levels, equality, the canonical form. Plain Lean. -/
namespace K79
abbrev Bag := List (Int × Int)
def wsum (f : Int → Int) : Bag → Int
  | [] => 0
  | e :: r => f e.1 * e.2 + wsum f r
def tot (b : Bag) : Int := (b.map (·.2)).sum
def lev (b : Bag) (x : Int) : Int := ((b.filter fun e => decide (e.1 ≤ x)).map (·.2)).sum
def cnt (b : Bag) (m : Int) : Int := wsum (fun n => if n = m then 1 else 0) b
def IsBag (b : Bag) : Prop := b.Pairwise (fun p q => p.1 < q.1) ∧ ∀ p ∈ b, 1 ≤ p.2
def Dist (b : Bag) : Prop := (b.map (·.1)).Nodup

theorem wsum_append (f : Int → Int) : ∀ a b : Bag, wsum f (a ++ b) = wsum f a + wsum f b
  | [], b => by simp [wsum]
  | e :: r, b => by simp only [List.cons_append, wsum, wsum_append f r b]; omega
theorem wsum_tot : ∀ b : Bag, tot b = wsum (fun _ => 1) b
  | [] => rfl
  | e :: r => by
    have := wsum_tot r
    simp only [tot, List.map_cons, List.sum_cons, wsum] at *
    omega
theorem wsum_lev (x : Int) : ∀ b : Bag, lev b x = wsum (fun n => if n ≤ x then 1 else 0) b
  | [] => rfl
  | e :: r => by
    have := wsum_lev x r
    unfold lev at *
    by_cases h : e.1 ≤ x
    · rw [List.filter_cons_of_pos (by simpa using h)]
      simp only [List.map_cons, List.sum_cons, wsum, if_pos h] at *
      omega
    · rw [List.filter_cons_of_neg (by simpa using h)]
      simp only [wsum, if_neg h] at *
      omega
theorem cnt_append (a b : Bag) (m : Int) : cnt (a ++ b) m = cnt a m + cnt b m := wsum_append _ a b
theorem cnt_cons (e : Int × Int) (b : Bag) (m : Int) : cnt (e :: b) m = (if e.1 = m then e.2 else 0) + cnt b m := by
  unfold cnt
  simp only [wsum]
  by_cases h : e.1 = m
  · simp [h]
  · simp [h]
theorem cnt_nil (m : Int) : cnt [] m = 0 := rfl
def neg (b : Bag) : Bag := b.map fun e => (e.1, -e.2)
theorem wsum_neg (f : Int → Int) : ∀ b : Bag, wsum f (neg b) = - wsum f b
  | [] => rfl
  | e :: r => by
    have := wsum_neg f r
    unfold neg at *
    simp only [List.map_cons, wsum, this, Int.mul_neg]
    omega
theorem cnt_neg (b : Bag) (m : Int) : cnt (neg b) m = - cnt b m := wsum_neg _ b
/-- the entries at m apart -/
theorem wsum_split (f : Int → Int) (m : Int) : ∀ b : Bag, wsum f b = f m * cnt b m + wsum f (b.filter fun e => !decide (e.1 = m))
  | [] => by simp [wsum, cnt]
  | e :: r => by
    have ih := wsum_split f m r
    rw [cnt_cons]
    by_cases h : e.1 = m
    · rw [List.filter_cons_of_neg (by simp [h]), if_pos h]
      simp only [wsum, h, ih, Int.mul_add]
      omega
    · rw [List.filter_cons_of_pos (by simp [h]), if_neg h]
      simp only [wsum, ih, Int.zero_add]
      omega
theorem cnt_filter_ne (m : Int) : ∀ (b : Bag) (k : Int), cnt (b.filter fun e => !decide (e.1 = m)) k = if k = m then 0 else cnt b k
  | [], k => by simp [cnt, wsum]
  | e :: r, k => by
    have ih := cnt_filter_ne m r k
    by_cases h : e.1 = m
    · rw [List.filter_cons_of_neg (by simp [h]), ih, cnt_cons]
      by_cases hk : k = m
      · simp [hk]
      · simp [hk, h, show ¬ m = k from fun z => hk z.symm]
    · rw [List.filter_cons_of_pos (by simp [h]), cnt_cons, cnt_cons, ih]
      by_cases hk : k = m
      · simp [hk, h]
      · simp [hk]
theorem wsum_zero (f : Int → Int) : ∀ (n : Nat) (b : Bag), b.length ≤ n → (∀ m, cnt b m = 0) → wsum f b = 0
  | _, [], _, _ => rfl
  | 0, _ :: _, h, _ => by simp at h
  | n + 1, e :: r, h, hz => by
    rw [wsum_split f e.1 (e :: r), hz e.1, Int.mul_zero, Int.zero_add]
    refine wsum_zero f n _ ?_ fun m => ?_
    · rw [List.filter_cons_of_neg (by simp)]
      have := List.length_filter_le (fun q : Int × Int => !decide (q.1 = e.1)) r
      simp only [List.length_cons] at h
      omega
    · rw [cnt_filter_ne, hz m]
      split <;> rfl
/-- what the counts say, every sum says -/
theorem wsum_ext {a b : Bag} (h : ∀ m, cnt a m = cnt b m) (f : Int → Int) : wsum f a = wsum f b := by
  have z := wsum_zero f _ (a ++ neg b) (Nat.le_refl _) fun m => by rw [cnt_append, cnt_neg, h m]; omega
  rw [wsum_append, wsum_neg] at z
  omega
theorem lev_ext {a b : Bag} (h : ∀ m, cnt a m = cnt b m) (x : Int) : lev a x = lev b x := by rw [wsum_lev, wsum_lev, wsum_ext h]
theorem tot_ext {a b : Bag} (h : ∀ m, cnt a m = cnt b m) : tot a = tot b := by rw [wsum_tot, wsum_tot, wsum_ext h]
theorem lev_append (a b : Bag) (x : Int) : lev (a ++ b) x = lev a x + lev b x := by rw [wsum_lev, wsum_lev, wsum_lev, wsum_append]
theorem tot_append (a b : Bag) : tot (a ++ b) = tot a + tot b := by rw [wsum_tot, wsum_tot, wsum_tot, wsum_append]
theorem lev_neg (b : Bag) (x : Int) : lev (neg b) x = - lev b x := by rw [wsum_lev, wsum_lev, wsum_neg]
theorem tot_neg (b : Bag) : tot (neg b) = - tot b := by rw [wsum_tot, wsum_tot, wsum_neg]
theorem tot_cons (e : Int × Int) (b : Bag) : tot (e :: b) = e.2 + tot b := by simp [tot]
theorem lev_cons (e : Int × Int) (b : Bag) (x : Int) : lev (e :: b) x = (if e.1 ≤ x then e.2 else 0) + lev b x := by
  rw [wsum_lev, wsum_lev]
  simp only [wsum]
  by_cases h : e.1 ≤ x
  · simp [h]
  · simp [h]
theorem tot_nil : tot [] = 0 := rfl
theorem lev_nil (x : Int) : lev [] x = 0 := rfl
theorem cnt_lev (m : Int) : ∀ b : Bag, cnt b m = lev b m - lev b (m - 1)
  | [] => rfl
  | e :: r => by
    rw [cnt_cons, lev_cons, lev_cons, cnt_lev m r]
    by_cases h : e.1 = m
    · simp [h, show ¬ m ≤ m - 1 by omega]; omega
    · by_cases h2 : e.1 ≤ m
      · simp [h, h2, show e.1 ≤ m - 1 by omega]; omega
      · simp [h, h2, show ¬ e.1 ≤ m - 1 by omega]

theorem IsBag.nil : IsBag [] := ⟨.nil, fun _ h => by cases h⟩
theorem IsBag.tail {e : Int × Int} {b : Bag} (h : IsBag (e :: b)) : IsBag b := ⟨(List.pairwise_cons.mp h.1).2, fun p hp => h.2 p (List.mem_cons_of_mem _ hp)⟩
theorem cnt_none {b : Bag} {m : Int} : (∀ p ∈ b, p.1 ≠ m) → cnt b m = 0 := by
  induction b with
  | nil => intro _; rfl
  | cons e r ih =>
    intro h
    rw [cnt_cons, if_neg (h e List.mem_cons_self), ih fun p hp => h p (List.mem_cons_of_mem _ hp)]
    rfl
theorem IsBag.above {e : Int × Int} {b : Bag} (h : IsBag (e :: b)) : ∀ p ∈ b, e.1 < p.1 := (List.pairwise_cons.mp h.1).1
theorem IsBag.cnt_head {e : Int × Int} {b : Bag} (h : IsBag (e :: b)) : cnt (e :: b) e.1 = e.2 := by
  rw [cnt_cons, if_pos rfl, cnt_none fun p hp => by have := h.above p hp; omega]
  omega
theorem IsBag.cnt_nonneg {b : Bag} (h : IsBag b) (m : Int) : 0 ≤ cnt b m := by
  induction b with
  | nil => exact Int.le_refl 0
  | cons e r ih =>
    rw [cnt_cons]
    have := ih h.tail
    have := h.2 e List.mem_cons_self
    split <;> omega
theorem cnt_pos_mem {m : Int} : ∀ {b : Bag}, cnt b m ≠ 0 → ∃ p ∈ b, p.1 = m
  | [], h => absurd rfl h
  | e :: r, h => by
    rw [cnt_cons] at h
    by_cases q : e.1 = m
    · exact ⟨e, List.mem_cons_self, q⟩
    · rw [if_neg q, Int.zero_add] at h
      obtain ⟨p, h1, h2⟩ := cnt_pos_mem h
      exact ⟨p, List.mem_cons_of_mem _ h1, h2⟩
/-- a bag is told by its counts -/
theorem IsBag.eq_of : ∀ {a b : Bag}, IsBag a → IsBag b → (∀ m, cnt a m = cnt b m) → a = b
  | [], [], _, _, _ => rfl
  | [], e :: r, _, hb, h => by
    have z := h e.1
    rw [hb.cnt_head, cnt_nil] at z
    have := hb.2 e List.mem_cons_self
    omega
  | e :: r, [], ha, _, h => by
    have z := h e.1
    rw [ha.cnt_head, cnt_nil] at z
    have := ha.2 e List.mem_cons_self
    omega
  | e :: r, f :: s, ha, hb, h => by
    have he := ha.2 e List.mem_cons_self
    have hf := hb.2 f List.mem_cons_self
    have c1 : cnt (f :: s) e.1 ≠ 0 := by rw [← h, ha.cnt_head]; omega
    have c2 : cnt (e :: r) f.1 ≠ 0 := by rw [h, hb.cnt_head]; omega
    obtain ⟨p, p1, p2⟩ := cnt_pos_mem c1
    obtain ⟨q, q1, q2⟩ := cnt_pos_mem c2
    have l1 : f.1 ≤ e.1 := by
      rcases List.mem_cons.mp p1 with z | z
      · rw [← p2, z]; exact Int.le_refl _
      · have := hb.above p z; omega
    have l2 : e.1 ≤ f.1 := by
      rcases List.mem_cons.mp q1 with z | z
      · rw [← q2, z]; exact Int.le_refl _
      · have := ha.above q z; omega
    have en : e.1 = f.1 := by omega
    have ec : e.2 = f.2 := by
      have z := h e.1
      rw [ha.cnt_head, en, hb.cnt_head] at z
      exact z
    have ef : e = f := Prod.ext en ec
    subst ef
    rw [IsBag.eq_of ha.tail hb.tail fun m => by
      have z := h m
      rw [cnt_cons, cnt_cons] at z
      omega]
theorem IsBag.eq_lev {a b : Bag} (ha : IsBag a) (hb : IsBag b) (h : ∀ x, lev a x = lev b x) : a = b := ha.eq_of hb fun m => by rw [cnt_lev, cnt_lev, h, h]

/-! ### the canonical form -/
def addE (n c : Int) : Bag → Bag
  | [] => [(n, c)]
  | e :: r => if n < e.1 then (n, c) :: e :: r else if n = e.1 then (n, c + e.2) :: r else e :: addE n c r
theorem addE_cnt (n c m : Int) : ∀ b : Bag, cnt (addE n c b) m = (if n = m then c else 0) + cnt b m
  | [] => by simp [addE, cnt_cons, cnt_nil]
  | e :: r => by
    unfold addE
    by_cases h1 : n < e.1
    · rw [if_pos h1, cnt_cons]
    · rw [if_neg h1]
      by_cases h2 : n = e.1
      · rw [if_pos h2, cnt_cons, cnt_cons]
        subst h2
        by_cases h3 : e.1 = m
        · simp [h3]; omega
        · simp [h3]
      · rw [if_neg h2, cnt_cons, addE_cnt n c m r, cnt_cons]
        omega
theorem addE_mem (n c : Int) : ∀ {b : Bag} {p : Int × Int}, p ∈ addE n c b → p.1 = n ∨ ∃ q ∈ b, q.1 = p.1
  | [], p, h => by
    have : p = (n, c) := by simpa [addE] using h
    exact .inl (by rw [this])
  | e :: r, p, h => by
    unfold addE at h
    split at h
    · rcases List.mem_cons.mp h with z | z
      · exact .inl (by rw [z])
      · exact .inr ⟨p, z, rfl⟩
    · split at h
      · rcases List.mem_cons.mp h with z | z
        · exact .inl (by rw [z])
        · exact .inr ⟨p, List.mem_cons_of_mem _ z, rfl⟩
      · rcases List.mem_cons.mp h with z | z
        · exact .inr ⟨e, List.mem_cons_self, by rw [z]⟩
        · rcases addE_mem n c z with q | ⟨q, h1, h2⟩
          · exact .inl q
          · exact .inr ⟨q, List.mem_cons_of_mem _ h1, h2⟩
theorem addE_sorted (n c : Int) : ∀ {b : Bag}, b.Pairwise (fun p q => p.1 < q.1) → (addE n c b).Pairwise (fun p q => p.1 < q.1)
  | [], _ => by simp [addE]
  | e :: r, h => by
    obtain ⟨h1, h2⟩ := List.pairwise_cons.mp h
    unfold addE
    split
    · rename_i lt
      refine List.pairwise_cons.mpr ⟨fun q hq => ?_, h⟩
      rcases List.mem_cons.mp hq with z | z
      · rw [z]; exact lt
      · have := h1 q z; show n < q.1; omega
    · split
      · rename_i eq
        exact List.pairwise_cons.mpr ⟨fun q hq => by have := h1 q hq; show n < q.1; omega, h2⟩
      · rename_i nlt neq
        refine List.pairwise_cons.mpr ⟨fun q hq => ?_, addE_sorted n c h2⟩
        rcases addE_mem n c hq with z | ⟨p, p1, p2⟩
        · omega
        · have := h1 p p1; omega
theorem addE_len (n c : Int) : ∀ b : Bag, (addE n c b).length ≤ b.length + 1
  | [] => by simp [addE]
  | e :: r => by
    unfold addE
    split
    · simp
    · split
      · simp
      · have := addE_len n c r; simp only [List.length_cons]; omega
def raw (L : Bag) : Bag := L.foldr (fun e b => addE e.1 e.2 b) []
theorem raw_cnt (m : Int) : ∀ L : Bag, cnt (raw L) m = cnt L m
  | [] => rfl
  | e :: r => by
    show cnt (addE e.1 e.2 (raw r)) m = _
    rw [addE_cnt, raw_cnt m r, cnt_cons]
theorem raw_sorted : ∀ L : Bag, (raw L).Pairwise (fun p q => p.1 < q.1)
  | [] => .nil
  | e :: r => addE_sorted _ _ (raw_sorted r)
theorem raw_len : ∀ L : Bag, (raw L).length ≤ L.length
  | [] => Nat.le_refl _
  | e :: r => by
    have := addE_len e.1 e.2 (raw r)
    have := raw_len r
    show (addE e.1 e.2 (raw r)).length ≤ r.length + 1
    omega
def nf (L : Bag) : Bag := (raw L).filter fun e => decide (0 < e.2)
theorem nf_bag (L : Bag) : IsBag (nf L) := ⟨(raw_sorted L).filter _, fun p hp => by
  have := (List.mem_filter.mp hp).2
  simp at this
  omega⟩
theorem pos_cnt (m : Int) : ∀ {b : Bag}, b.Pairwise (fun p q => p.1 < q.1) → cnt (b.filter fun e => decide (0 < e.2)) m = if 0 < cnt b m then cnt b m else 0
  | [], _ => by simp [cnt_nil]
  | e :: r, h => by
    obtain ⟨h1, h2⟩ := List.pairwise_cons.mp h
    have ih := pos_cnt m h2
    have nr : e.1 = m → cnt r m = 0 := fun z => cnt_none fun p hp => by have := h1 p hp; omega
    by_cases hp : 0 < e.2
    · rw [List.filter_cons_of_pos (by simpa using hp), cnt_cons, cnt_cons, ih]
      by_cases z : e.1 = m
      · simp [z, nr z, hp]
      · simp [z]
    · rw [List.filter_cons_of_neg (by simpa using hp), cnt_cons, ih]
      by_cases z : e.1 = m
      · simp [z, nr z]; omega
      · simp [z]
theorem nf_cnt (L : Bag) (m : Int) : cnt (nf L) m = if 0 < cnt L m then cnt L m else 0 := by
  have := pos_cnt m (raw_sorted L)
  rw [raw_cnt] at this
  exact this
theorem nf_cnt' {L : Bag} (h : ∀ m, 0 ≤ cnt L m) (m : Int) : cnt (nf L) m = cnt L m := by
  rw [nf_cnt]
  have := h m
  split <;> omega
theorem nf_len (L : Bag) : (nf L).length ≤ L.length := Nat.le_trans (List.length_filter_le _ _) (raw_len L)
theorem nf_eq {L b : Bag} (hb : IsBag b) (h : ∀ m, cnt b m = if 0 < cnt L m then cnt L m else 0) : b = nf L := hb.eq_of (nf_bag L) fun m => by rw [h, nf_cnt]
theorem nf_self {b : Bag} (hb : IsBag b) : nf b = b := ((nf_eq hb) fun m => by have := hb.cnt_nonneg m; split <;> omega).symm

/-! ### sums and differences -/
def addB (a b : Bag) : Bag := nf (a ++ b)
def Has (a b : Bag) : Prop := ∀ m, cnt b m ≤ cnt a m
def subB (a b : Bag) : Bag := nf (a ++ neg b)
theorem addB_bag (a b : Bag) : IsBag (addB a b) := nf_bag _
theorem subB_bag (a b : Bag) : IsBag (subB a b) := nf_bag _
theorem addB_cnt {a b : Bag} (ha : IsBag a) (hb : IsBag b) (m : Int) : cnt (addB a b) m = cnt a m + cnt b m := by
  unfold addB
  rw [nf_cnt' (fun k => by rw [cnt_append]; have := ha.cnt_nonneg k; have := hb.cnt_nonneg k; omega), cnt_append]
theorem addB_wsum {a b : Bag} (ha : IsBag a) (hb : IsBag b) (f : Int → Int) : wsum f (addB a b) = wsum f a + wsum f b := by
  rw [wsum_ext (b := a ++ b) (fun m => by rw [addB_cnt ha hb, cnt_append]), wsum_append]
theorem addB_lev {a b : Bag} (ha : IsBag a) (hb : IsBag b) (x : Int) : lev (addB a b) x = lev a x + lev b x := by rw [wsum_lev, wsum_lev, wsum_lev, addB_wsum ha hb]
theorem addB_tot {a b : Bag} (ha : IsBag a) (hb : IsBag b) : tot (addB a b) = tot a + tot b := by rw [wsum_tot, wsum_tot, wsum_tot, addB_wsum ha hb]
theorem subB_cnt {a b : Bag} (h : Has a b) (m : Int) : cnt (subB a b) m = cnt a m - cnt b m := by
  unfold subB
  rw [nf_cnt' (fun k => by rw [cnt_append, cnt_neg]; have := h k; omega), cnt_append, cnt_neg]
  omega
theorem subB_wsum {a b : Bag} (h : Has a b) (f : Int → Int) : wsum f (subB a b) = wsum f a - wsum f b := by
  rw [wsum_ext (b := a ++ neg b) (fun m => by rw [subB_cnt h, cnt_append, cnt_neg]; omega), wsum_append, wsum_neg]
  omega
theorem subB_lev {a b : Bag} (h : Has a b) (x : Int) : lev (subB a b) x = lev a x - lev b x := by rw [wsum_lev, wsum_lev, wsum_lev, subB_wsum h]
theorem subB_tot {a b : Bag} (h : Has a b) : tot (subB a b) = tot a - tot b := by rw [wsum_tot, wsum_tot, wsum_tot, subB_wsum h]
theorem addB_len (a b : Bag) : (addB a b).length ≤ a.length + b.length := by
  have := nf_len (a ++ b)
  rw [List.length_append] at this
  exact this
theorem subB_len (a b : Bag) : (subB a b).length ≤ a.length + b.length := by
  have := nf_len (a ++ neg b)
  rw [List.length_append] at this
  unfold neg at this
  rw [List.length_map] at this
  exact this

/-! ### the smallest left out -/
def dropB : Bag → Int → Bag
  | [], _ => []
  | e :: r, k => if e.2 > min k e.2 then (e.1, e.2 - min k e.2) :: dropB r (k - min k e.2) else dropB r (k - min k e.2)
theorem dropB_mem : ∀ {b : Bag} {k : Int} {p : Int × Int}, p ∈ dropB b k → 1 ≤ p.2 ∧ ∃ q ∈ b, q.1 = p.1
  | [], _, p, h => by cases h
  | e :: r, k, p, h => by
    unfold dropB at h
    split at h
    · rename_i g
      rcases List.mem_cons.mp h with z | z
      · rw [z]; exact ⟨by show 1 ≤ e.2 - min k e.2; omega, e, List.mem_cons_self, rfl⟩
      · obtain ⟨h1, q, h2, h3⟩ := dropB_mem z
        exact ⟨h1, q, List.mem_cons_of_mem _ h2, h3⟩
    · obtain ⟨h1, q, h2, h3⟩ := dropB_mem h
      exact ⟨h1, q, List.mem_cons_of_mem _ h2, h3⟩
theorem dropB_bag : ∀ {b : Bag} (k : Int), IsBag b → IsBag (dropB b k)
  | [], _, _ => IsBag.nil
  | e :: r, k, h => by
    have ih := dropB_bag (k - min k e.2) h.tail
    refine ⟨?_, fun p hp => (dropB_mem hp).1⟩
    unfold dropB
    split
    · refine List.pairwise_cons.mpr ⟨fun q hq => ?_, ih.1⟩
      obtain ⟨_, p, h2, h3⟩ := dropB_mem hq
      have := h.above p h2
      show e.1 < q.1
      omega
    · exact ih.1
theorem lev_nonneg {b : Bag} (h : IsBag b) (x : Int) : 0 ≤ lev b x := by
  induction b with
  | nil => exact Int.le_refl 0
  | cons e r ih =>
    rw [lev_cons]
    have := ih h.tail
    have := h.2 e List.mem_cons_self
    split <;> omega
theorem lev_none {b : Bag} {x : Int} (h : ∀ p ∈ b, x < p.1) : lev b x = 0 := by
  induction b with
  | nil => rfl
  | cons e r ih =>
    rw [lev_cons, if_neg (by have := h e List.mem_cons_self; omega), ih fun p hp => h p (List.mem_cons_of_mem _ hp)]
    rfl
theorem dropB_lev (x : Int) : ∀ {b : Bag} {k : Int}, IsBag b → 0 ≤ k → lev (dropB b k) x = max 0 (lev b x - k)
  | [], k, _, hk => by simp only [dropB, lev_nil]; omega
  | e :: r, k, h, hk => by
    have he := h.2 e List.mem_cons_self
    have ih := dropB_lev x (k := k - min k e.2) h.tail (by omega)
    have nr := lev_nonneg h.tail x
    unfold dropB
    by_cases hx : e.1 ≤ x
    · split
      · rw [lev_cons, lev_cons, ih]
        simp only [hx, if_true]
        omega
      · rw [lev_cons, ih]
        simp only [hx, if_true]
        omega
    · have z : lev r x = 0 := lev_none fun p hp => by have := h.above p hp; omega
      split
      · rw [lev_cons, lev_cons, ih, z]
        simp only [hx, if_false]
        omega
      · rw [lev_cons, ih, z]
        simp only [hx, if_false]
        omega
theorem dropB_len : ∀ (b : Bag) (k : Int), (dropB b k).length ≤ b.length
  | [], _ => Nat.le_refl _
  | e :: r, k => by
    unfold dropB
    split
    · have := dropB_len r (k - min k e.2); simp only [List.length_cons]; omega
    · have := dropB_len r (k - min k e.2); simp only [List.length_cons]; omega
theorem lev_le_tot {b : Bag} (h : IsBag b) (x : Int) : lev b x ≤ tot b := by
  induction b with
  | nil => exact Int.le_refl 0
  | cons e r ih =>
    rw [lev_cons, tot_cons]
    have := ih h.tail
    have := h.2 e List.mem_cons_self
    split <;> omega
theorem lev_all {b : Bag} {x : Int} (h : ∀ p ∈ b, p.1 ≤ x) : lev b x = tot b := by
  induction b with
  | nil => rfl
  | cons e r ih =>
    rw [lev_cons, tot_cons, if_pos (h e List.mem_cons_self), ih fun p hp => h p (List.mem_cons_of_mem _ hp)]
theorem tot_nonneg {b : Bag} (h : IsBag b) : 0 ≤ tot b := Int.le_trans (lev_nonneg h 0) (lev_le_tot h 0)
theorem exists_top (b : Bag) : ∃ M : Int, ∀ p ∈ b, p.1 ≤ M := by
  induction b with
  | nil => exact ⟨0, fun _ h => by cases h⟩
  | cons e r ih =>
    obtain ⟨M, hM⟩ := ih
    refine ⟨max M e.1, fun p hp => ?_⟩
    rcases List.mem_cons.mp hp with z | z
    · rw [z]; omega
    · have := hM p z; omega
theorem dropB_tot {b : Bag} {k : Int} (h : IsBag b) (hk : 0 ≤ k) : tot (dropB b k) = max 0 (tot b - k) := by
  obtain ⟨M, hM⟩ := exists_top b
  have e := dropB_lev M h hk
  rw [lev_all hM, lev_all fun p hp => by
    obtain ⟨_, q, h1, h2⟩ := dropB_mem hp
    have := hM q h1
    omega] at e
  exact e

/-! ### a dict of counts, in the order of its keys' coming -/
def getL : Bag → Int → Option Int
  | [], _ => none
  | e :: r, n => if e.1 = n then some e.2 else getL r n
def putL : Bag → Int → Int → Bag
  | [], n, v => [(n, v)]
  | e :: r, n, v => if e.1 = n then (n, v) :: r else e :: putL r n v
theorem getL_none {n : Int} : ∀ {L : Bag}, getL L n = none → ∀ p ∈ L, p.1 ≠ n
  | [], _, p, h => by cases h
  | e :: r, h, p, hp => by
    unfold getL at h
    split at h
    · cases h
    · rcases List.mem_cons.mp hp with z | z
      · rw [z]; assumption
      · exact getL_none h p z
theorem dist_cons {e : Int × Int} {L : Bag} : Dist (e :: L) ↔ (∀ p ∈ L, p.1 ≠ e.1) ∧ Dist L := by
  unfold Dist
  rw [List.map_cons, List.nodup_cons]
  constructor
  · rintro ⟨h1, h2⟩
    exact ⟨fun p hp z => h1 (List.mem_map.mpr ⟨p, hp, z⟩), h2⟩
  · rintro ⟨h1, h2⟩
    refine ⟨fun z => ?_, h2⟩
    obtain ⟨p, hp, z⟩ := List.mem_map.mp z
    exact h1 p hp z
theorem getL_cnt {n : Int} : ∀ {L : Bag}, Dist L → (getL L n).getD 0 = cnt L n
  | [], _ => rfl
  | e :: r, h => by
    obtain ⟨h1, h2⟩ := dist_cons.mp h
    unfold getL
    rw [cnt_cons]
    by_cases z : e.1 = n
    · rw [if_pos z, if_pos z, cnt_none fun p hp => by have := h1 p hp; omega]
      simp
    · rw [if_neg z, if_neg z, getL_cnt h2, Int.zero_add]
theorem putL_mem {n v : Int} : ∀ {L : Bag} {p : Int × Int}, p ∈ putL L n v → p.1 = n ∨ p ∈ L
  | [], p, h => .inl (by rw [show p = (n, v) by simpa [putL] using h])
  | e :: r, p, h => by
    unfold putL at h
    split at h
    · rcases List.mem_cons.mp h with z | z
      · exact .inl (by rw [z])
      · exact .inr (List.mem_cons_of_mem _ z)
    · rcases List.mem_cons.mp h with z | z
      · exact .inr (by rw [z]; exact List.mem_cons_self)
      · rcases putL_mem z with q | q
        · exact .inl q
        · exact .inr (List.mem_cons_of_mem _ q)
theorem putL_dist {n v : Int} : ∀ {L : Bag}, Dist L → Dist (putL L n v)
  | [], _ => by simp [putL, Dist]
  | e :: r, h => by
    obtain ⟨h1, h2⟩ := dist_cons.mp h
    unfold putL
    split
    · rename_i z
      exact dist_cons.mpr ⟨fun p hp => by have := h1 p hp; show p.1 ≠ n; omega, h2⟩
    · rename_i z
      refine dist_cons.mpr ⟨fun p hp => ?_, putL_dist h2⟩
      rcases putL_mem hp with q | q
      · rw [q]; exact fun k => z k.symm
      · exact h1 p q
theorem putL_wsum {n v : Int} (f : Int → Int) : ∀ {L : Bag}, Dist L → wsum f (putL L n v) = wsum f L + f n * (v - (getL L n).getD 0)
  | [], _ => by simp [putL, wsum, getL]
  | e :: r, h => by
    obtain ⟨h1, h2⟩ := dist_cons.mp h
    unfold putL getL
    by_cases z : e.1 = n
    · simp only [z, if_true, wsum, Option.getD_some, Int.mul_sub]
      omega
    · simp only [z, if_false, wsum, putL_wsum f h2]
      omega
theorem putL_cnt {n v m : Int} {L : Bag} (h : Dist L) : cnt (putL L n v) m = if m = n then v else cnt L m := by
  unfold cnt
  rw [putL_wsum _ h, getL_cnt h]
  by_cases z : m = n
  · subst z
    simp only [if_true, Int.one_mul]
    unfold cnt
    omega
  · simp [z, show ¬ n = m from fun k => z k.symm]
theorem putL_len (L : Bag) (n v : Int) : (putL L n v).length ≤ L.length + 1 := by
  induction L with
  | nil => simp [putL]
  | cons e r ih =>
    unfold putL
    split
    · simp
    · simp only [List.length_cons]; omega
theorem IsBag.dist {b : Bag} (h : IsBag b) : Dist b := by
  unfold Dist
  rw [List.nodup_iff_pairwise_ne, List.pairwise_map]
  exact h.1.imp fun hlt => by omega
end K79
end
section
set_option Elab.async false
set_option linter.all false
set_option maxRecDepth 100000
set_option maxHeartbeats 4000000
/-! Rules for solid tuples (their object is known), dict of a tuple of pairs, tuple times nought or one. -/
namespace K79
open PySem PySem.Spec L2
open PyProof.Rows hiding St
section
variable {X : Cx} {pins : List (Addr × Obj)} {σ : L2.St} {H : Hp} {s : Shared}
theorem solid_laid {h' : Heap} {xs : List V} {us : List Value} (I : Inv X pins σ H { s with heap := h' }) (r : Vals xs us) (hz : xs.length ≤ sizeLine) :
    Inv X pins σ (upd H h'.objs.size (.frz { cls := .type "tuple", data := .seq us.toArray } (.tup xs))) { s with heap := h'.push { cls := .type "tuple", data := .seq us.toArray } } :=
  I.laid (t' := s.toks) (fun b o e => Heap.get?_push_of_some _ e) (Nat.le_refl _) (show ObjOk X.prog X.w _ _ _ (.frz _ (.tup xs)) from ⟨Heap.get?_push_size _ rfl, hz, us, r, IsTup.new _ _⟩)
end
section
variable {X : Cx} {es : List Expr} {pos : Pos} {t : TA}
/-- a display (a, b, ..) -/
def tTupF (t : TA) : TE := fun σ H Q => t σ H fun xs H1 => xs.length ≤ sizeLine ∧ ∀ (p : Addr) (o : Obj), H1 p = none → o.dict = none → Q (.ref p) (upd H1 p (.frz o (.tup xs)))
theorem pe_tupF {x1} (h : PA X es t) : PE X (.Tuple es x1 pos) (tTupF t) := by
  constructor
  intro pins s σ H Q I hq
  refine wpAny_Tuple_spliced (thn (h.run pos pins s σ H _ I hq) ?_)
  rintro us s1 ⟨xs, H1, I1, r, z, q⟩
  exact ⟨by rw [← r.length]; exact z, .ref s1.heap.objs.size, _, solid_laid (s := s1) I1 r z, rfl, q _ _ (I1.hok.fresh (Nat.le_refl _)) rfl⟩
/-- tuple(a list) -/
def rTupleF (K : PySem.W.Frag) : List V → Hp → VK → Prop := fun xs H Q => ∃ p ys, xs = [.ref p] ∧ SqL K H p ys ∧ ∀ (l : Addr) (o : Obj), H l = none → o.dict = none → Q (.ref l) (upd H l (.frz o (.tup ys)))
theorem call_tupleF : CallR X (.type "tuple") (rTupleF X.K) := by
  rintro pins s σ H xs us Q I r ⟨p, ys, rfl, hq, q⟩
  obtain ⟨u, rfl, rx⟩ := vals1 r
  cases rx
  obtain ⟨its, r', pl, hz⟩ := I.list hq
  refine call_tuple_list pl.isList (fun h' kp => ?_) (by rw [List.size_toArray, ← r'.length]; exact hz)
  have I1 : Inv X pins σ H { s with heap := h' } := I.kept (t' := s.toks) kp
  exact ⟨.ref h'.objs.size, _, solid_laid I1 r' hz, rfl, q _ _ (I1.hok.fresh (Nat.le_refl _)) rfl⟩
/-- t + u -/
def rCatF (K : PySem.W.Frag) : R2 := fun x y H Q => ∃ a b xs ys, x = .ref a ∧ y = .ref b ∧ SqT K H a xs ∧ SqT K H b ys ∧ xs.length + ys.length ≤ sizeLine ∧ (xs = [] → Q (.ref b) H) ∧ (xs ≠ [] → ys = [] → Q (.ref a) H) ∧
  (xs ≠ [] → ys ≠ [] → ∀ (p : Addr) (o : Obj), H p = none → o.dict = none → Q (.ref p) (upd H p (.frz o (.tup (xs ++ ys)))))
theorem op_catF : OpR X (binaryOp .Add) (rCatF X.K) := by
  rintro pins s σ H x y v u Q I rx ry ⟨a, b, xs, ys, rfl, rfl, ha, hb, hz, q0, q1, q2⟩
  by_cases hx : xs = []
  · exact op_catA pins s σ H _ _ v u Q I rx ry ⟨a, b, xs, ys, rfl, rfl, ha, hb, hz, q0, fun z => absurd hx z, fun z => absurd hx z⟩
  by_cases hy : ys = []
  · exact op_catA pins s σ H _ _ v u Q I rx ry ⟨a, b, xs, ys, rfl, rfl, ha, hb, hz, fun z => absurd z hx, q1, fun _ z => absurd hy z⟩
  cases rx
  cases ry
  obtain ⟨its, r1, p1, _⟩ := I.tuple ha
  obtain ⟨its2, r2, p2, _⟩ := I.tuple hb
  refine HT.cat_tup p1 p2 (fun z => hx (r1.nil_iff.mp z)) (fun z => absurd (r2.nil_iff.mp z) hy) (fun _ => ?_) (by rw [← r1.length, ← r2.length]; exact hz)
  exact ⟨.ref s.heap.objs.size, _, solid_laid I (r1.append r2) (by rw [List.length_append]; exact hz), rfl, q2 hx hy _ _ (I.hok.fresh (Nat.le_refl _)) rfl⟩
end
/-! ### tuple * 0, tuple * 1 -/
theorem tup_mul1 (l : Addr) (items : Array Value) (n : Nat) (dd : Option Addr) (sl : Array (Option Value)) (u : Tok) :
    Meets (Builtin.«tuple.__mul__» ⟨[.ref l, .int 1 u], []⟩) (fun _ R s => s.heap.get? l = some { cls := .type "tuple", dict := dd, data := .seq items n, slots := sl } ∧ R (.ok (.ret (Value.ref l))) s) :=
  .of_wp fun prog w A R s h => by
    obtain ⟨hp, g, d, tk, os⟩ := s
    obtain ⟨hl, h⟩ := h
    have f1 := AutoSeq1.idx_int
    have c1 : (items.isEmpty || (1 : Int) == 1) = true := by simp
    wp_walk using wpAny_loadPart' hl
    repeat (first
      | (refine wpAny_ite_true (decide_eq_true (by simp)) ?_; wp_walk using wpAny_loadPart' hl)
      | (refine wpAny_ite_false (decide_eq_false (by decide)) ?_; wp_walk using wpAny_loadPart' hl))
    exact ⟨_, rfl, h⟩
theorem tup_mul0 (l : Addr) (items : Array Value) (n : Nat) (dd : Option Addr) (sl : Array (Option Value)) (u : Tok) (hi : items.isEmpty = false) :
    Meets (Builtin.«tuple.__mul__» ⟨[.ref l, .int 0 u], []⟩) (fun _ R s => s.heap.get? l = some { cls := .type "tuple", dict := dd, data := .seq items n, slots := sl } ∧
      R (.ok (.ret (Value.ref s.heap.objs.size))) { s with heap := s.heap.push { cls := .type "tuple", data := .seq #[] } }) :=
  .of_wp fun prog w A R s h => by
    obtain ⟨hp, g, d, tk, os⟩ := s
    obtain ⟨hl, h⟩ := h
    have f1 := AutoSeq1.idx_int
    wp_walk using wpAny_loadPart' hl
    repeat (first
      | (refine wpAny_ite_false (decide_eq_false (by rw [hi]; decide)) ?_; wp_walk using wpAny_loadPart' hl)
      | (refine wpAny_ite_true (decide_eq_true (by simp)) ?_; wp_walk using wpAny_loadPart' hl)
      | (refine wpAny_ite_false (decide_eq_false (by decide)) ?_; wp_walk using wpAny_loadPart' hl))
    exact ⟨_, rfl, h⟩
section
variable {X : Cx}
def rRep01 (K : PySem.W.Frag) : R2 := fun x y H Q => ∃ l k xs, x = .ref l ∧ y = .int k ∧ SqT K H l xs ∧ xs ≠ [] ∧
  ((k = 1 ∧ Q (.ref l) H) ∨ (k = 0 ∧ ∀ (p : Addr) (o : Obj), H p = none → o.dict = none → Q (.ref p) (upd H p (.frz o (.tup [])))))
theorem op_rep01 : OpR X (binaryOp .Mult) (rRep01 X.K) := by
  rintro pins s σ H x y v u Q I rx ry ⟨l, k, xs, rfl, rfl, hT, hne, q⟩
  cases rx
  obtain ⟨t, rfl⟩ := ry
  obtain ⟨its, r, ⟨⟨cls, dd, data, sl⟩, ho, hc, n, hd⟩, hs⟩ := I.tuple hT
  simp only at hc hd
  subst hc hd
  have hi : its.toArray.isEmpty = false := by
    cases its with
    | nil => exact absurd (by cases r; rfl) hne
    | cons a b => rfl
  rcases q with ⟨rfl, q⟩ | ⟨rfl, q⟩
  · exact wpAny_binaryOp_repeat_ref (T := "tuple") (U := "int") (by decide) ⟨_, ho, rfl⟩ (fun s' => typeIs_int s' 1 t) noFill_tuple_mul F.fills_int_mul F.slot_int_rmul repeat_tuple F.slot_int_index.lookup
      (call_meets F.slot_int_rmul (typeIs_int s 1 t) F.entry_int_rmul (F.args_int_rmul_2 _ _) (int_rmul_tuple 1 t l its.toArray n dd sl)
        ⟨ho, rfl, ⟨_, ho, rfl⟩, call_meets F.slot_tuple_mul ⟨_, ho, rfl⟩ F.entry_tuple_mul (F.args_tuple_mul_2 _ _) (tup_mul1 l its.toArray n dd sl t) ⟨ho, .ref l, H, I, rfl, q⟩⟩)
  · exact wpAny_binaryOp_repeat_ref (T := "tuple") (U := "int") (by decide) ⟨_, ho, rfl⟩ (fun s' => typeIs_int s' 0 t) noFill_tuple_mul F.fills_int_mul F.slot_int_rmul repeat_tuple F.slot_int_index.lookup
      (call_meets F.slot_int_rmul (typeIs_int s 0 t) F.entry_int_rmul (F.args_int_rmul_2 _ _) (int_rmul_tuple 0 t l its.toArray n dd sl)
        ⟨ho, rfl, ⟨_, ho, rfl⟩, call_meets F.slot_tuple_mul ⟨_, ho, rfl⟩ F.entry_tuple_mul (F.args_tuple_mul_2 _ _) (tup_mul0 l its.toArray n dd sl t hi)
          ⟨ho, .ref s.heap.objs.size, _, solid_laid (us := []) (xs := []) I .nil (Nat.zero_le _), rfl, q _ _ (I.hok.fresh (Nat.le_refl _)) rfl⟩⟩)
/-! ### dict of a tuple of pairs -/
def dictOf (L : List (Int × Int)) : List (Key × V) := L.map fun e => (.inl e.1, .int e.2)
theorem putK_fresh {kvs : List (Key × V)} {k : Key} {v : V} (h : k ∉ kvs.map (·.1)) : putK kvs k v = kvs ++ [(k, v)] := by
  unfold putK
  rw [if_neg]
  intro z
  obtain ⟨p, hp, e⟩ := List.any_eq_true.mp z
  exact h (List.mem_map.mpr ⟨p, hp, of_decide_eq_true e⟩)
theorem mergeK_dist : ∀ {more kvs : List (Key × V)}, ((kvs ++ more).map (·.1)).Nodup → mergeK kvs more = kvs ++ more
  | [], kvs, _ => by simp [mergeK]
  | p :: r, kvs, h => by
    have hp : p.1 ∉ kvs.map (·.1) := fun z => by
      rw [List.map_append, List.nodup_append] at h
      exact h.2.2 _ z p.1 (by simp) rfl
    have e : mergeK kvs (p :: r) = mergeK (putK kvs p.1 p.2) r := rfl
    rw [e, putK_fresh hp]
    have e2 : kvs ++ [(p.1, p.2)] ++ r = kvs ++ p :: r := by simp
    rw [← e2] at h ⊢
    exact mergeK_dist h
theorem dictOf_dist {L : List (Int × Int)} (h : (L.map (·.1)).Nodup) : ((dictOf L).map (·.1)).Nodup := by
  unfold dictOf
  rw [List.map_map]
  rw [List.nodup_iff_pairwise_ne, List.pairwise_map] at h ⊢
  exact h.imp fun ne e => ne (Sum.inl.inj e)
/-- dict(t), t a solid tuple of pairs of ints with keys that differ -/
def rDictT : List V → Hp → VK → Prop := fun xs H Q => ∃ (a : Addr) (o : Obj) (ys : List V) (b : List (Int × Int)), xs = [.ref a] ∧ H a = some (.frz o (.tup ys)) ∧ o.dict = none ∧ AllP (b.map entP) ys H ∧ (b.map (·.1)).Nodup ∧
    ∀ p, H p = none → Q (.ref p) (upd H p (.dK (dictOf b)))
theorem call_dictT (hcalm : X.calm = true) : CallR X (.type "dict") rDictT := by
  rintro pins s σ H xs us Q I r ⟨a, o, ys, b, rfl, ha, hd, hy, nd, q⟩
  obtain ⟨u, rfl, rx⟩ := vals1 r
  cases rx
  obtain ⟨hob, hz, its, rv, o', ho', hc, n, hdat⟩ := I.hok a _ ha
  rw [hob] at ho'
  cases ho'
  -- the items: the pairs' addresses and values
  have key : ∀ (b : List (Int × Int)) (ys : List V) (its : List Value), AllP (b.map entP) ys H → Vals ys its → ∃ (ts : List Addr) (ps : List (Value × Value)), its = ts.map Value.ref ∧ ts.length = ps.length ∧ ps.length = b.length ∧
      (∀ (j : Nat) (k v : Value), ps[j]? = some (k, v) → ∃ (t : Addr) (e : Int × Int), ts[j]? = some t ∧ b[j]? = some e ∧ PairAt s.heap t k v ∧ RelV (.int e.1) k ∧ RelV (.int e.2) v) := by
    intro b
    induction b with
    | nil =>
      intro ys its h rv
      rw [show ys = [] from h] at rv
      cases rv
      exact ⟨[], [], rfl, rfl, rfl, fun j k v e => by simp at e⟩
    | cons e b ih =>
      rintro ys its ⟨v, r, rfl, ⟨t, zs, rfl, ht, v1, _, rfl, h1, v2, _, rfl, h2, rfl⟩, hr⟩ rv
      cases rv with
      | cons r0 rr =>
        cases r0
        obtain ⟨ts, ps, e1, e2, e3, e4⟩ := ih _ _ hr rr
        obtain ⟨zi, zr, ⟨zo, hzo, hzc, zn, hzd⟩, _⟩ := I.tuple (.inl ht)
        obtain ⟨k, w', rfl, rk, rw'⟩ := vals2 zr
        refine ⟨t :: ts, (k, w') :: ps, by rw [e1] <;> rfl, by simp [e2], by simp [e3], fun j k' v' ej => ?_⟩
        cases j with
        | zero =>
          have ej : (k, w') = (k', v') := by simpa using ej
          cases ej
          have h1' : v1 = _ := h1
          have h2' : v2 = _ := h2
          subst h1' h2'
          exact ⟨t, e, rfl, rfl, .inl ⟨zo, hzo, hzc, zn, hzd⟩, rk, rw'⟩
        | succ j =>
          obtain ⟨t', e', a1, a2, a3, a4, a5⟩ := e4 j k' v' (by simpa using ej)
          exact ⟨t', e', by simpa using a1, by simpa using a2, a3, a4, a5⟩
  obtain ⟨ts, ps, rfl, e2, e3, e4⟩ := key b ys its hy rv
  let prs : List (Key × Value) := (b.zip ps).map fun q => (Sum.inl q.1.1, q.2.2)
  have hpl : prs.length = ps.length := by simp [prs, e3]
  have hKV : KV (dictOf b) prs := by
    have go : ∀ (b : List (Int × Int)) (ps : List (Value × Value)), ps.length = b.length → (∀ (j : Nat) (k v : Value) (e : Int × Int), ps[j]? = some (k, v) → b[j]? = some e → RelV (.int e.2) v) → KV (dictOf b) ((b.zip ps).map fun q => (Sum.inl q.1.1, q.2.2)) := by
      intro b
      induction b with
      | nil => intro ps h _; exact .nil
      | cons e b ih =>
        intro ps h hr
        cases ps with
        | nil => simp at h
        | cons p ps =>
          refine .cons ⟨rfl, hr 0 p.1 p.2 e rfl rfl⟩ (ih ps (by simpa using h) fun j k v e' h1 h2 => hr (j + 1) k v e' (by simpa using h1) (by simpa using h2))
    refine go b ps e3 fun j k v e h1 h2 => ?_
    obtain ⟨t, e', _, b2, _, _, a5⟩ := e4 j k v h1
    rw [h2] at b2
    cases b2
    exact a5
  have P := PairArg.tuple (prog := X.prog) (w := X.w) a (ts.map Value.ref).toArray (fun j => ts.getD j 0) ps
  have hlen : b.length ≤ sizeLine := by
    have := hy.len
    rw [List.length_map] at this
    rw [← this]
    exact hz
  refine PySem.call_dict_pairs (knd := mixKind X.prog X.w) (kvs := prs) P (I.ok.hd hcalm) ⟨⟨o, n, hob, hc, hd, hdat⟩, by simp [e2], fun j k v ej => ?_⟩ ⟨hpl, fun i k v hi => ?_⟩ (by rw [e3]; exact hlen) fun h' tk hd' kp => ?_
  · obtain ⟨t, e, a1, _, a3, _, _⟩ := e4 j k v ej
    have et : ts.getD j 0 = t := by simp [a1]
    refine ⟨?_, by show PairAt s.heap (ts.getD j 0) k v; rw [et]; exact a3⟩
    simp [a1]
  · obtain ⟨t, e, _, a2, _, ⟨tk, ek⟩, _⟩ := e4 i k v hi
    refine ⟨Sum.inl e.1, ?_, by rw [ek]; exact mixKind_int _ _ _ _⟩
    have hi' : ps[i]? = some (k, v) := hi
    have hz : (b.zip ps)[i]? = some (e, (k, v)) := by rw [List.getElem?_zip_eq_some]; exact ⟨a2, hi'⟩
    simp only [prs, List.getElem?_map, hz, Option.map_some]
  · have hm : (s.heap.objs.size == sysModules) = false := beq_eq_false_iff_ne.mpr (Nat.ne_of_gt I.big)
    have em : mergeK [] (dictOf b) = dictOf b := mergeK_dist (by rw [List.nil_append]; exact dictOf_dist nd)
    have hk := KV.merge hKV (kvs := []) (vs := []) .nil
    rw [em] at hk
    have hln : (dictOf b).length ≤ sizeLine := by
      unfold dictOf
      rw [List.length_map]
      exact hlen
    exact ⟨.ref s.heap.objs.size, upd H s.heap.objs.size (.dK (dictOf b)), I.laid (t' := tk) (fun b o e => kp b o (by simp) e) (Nat.le_refl _) (show ObjOk X.prog X.w _ _ _ (.dK (dictOf b)) from ⟨hln, hm, _, hk, hd'⟩), rfl, q _ (I.hok.fresh (Nat.le_refl _))⟩
end
end K79
end
section
set_option Elab.async false
set_option linter.all false
set_option maxRecDepth 100000
set_option maxHeartbeats 4000000
/-! Evaluation of solid tuples, dicts, sorted lists. -/
namespace K79
open PySem PySem.Spec L2
/-- a tuple that was made by a display, not locked -/
def TupD (Ps : List Pr) : Pr := ⟨fun v H => ∃ p ys, v = .ref p ∧ H p = some (.tup ys) ∧ AllP Ps ys H, fun e ⟨p, ys, a, b, c⟩ => ⟨p, ys, a, e _ _ b, AllP.kp e c⟩⟩
theorem TupD.tup {Ps : List Pr} {v : V} {H : Hp} (h : (TupD Ps).h v H) : (TupP Ps).h v H := let ⟨p, ys, a, b, c⟩ := h; ⟨p, ys, a, .inl b, c⟩
theorem TupD.fixd {Ps : List Pr} (f : FixL Ps) : Fixd (TupD Ps) := ⟨fun e ⟨p, ys, a, b, c⟩ => ⟨p, ys, a, e _ _ b rfl, AllP.fx f e c⟩⟩
instance {P Q : Pr} [h1 : Fixd P] [h2 : Fixd Q] : Fixd (TupD [P, Q]) := TupD.fixd (.cons h1 (.cons h2 .nil))
abbrev entD (e : Int × Int) : Pr := TupD [IsI e.1, IsI e.2]
theorem AllP.imp {H : Hp} {α : Type} {f g : α → Pr} (h : ∀ a v, (f a).h v H → (g a).h v H) : ∀ {xs : List α} {vs : List V}, AllP (xs.map f) vs H → AllP (xs.map g) vs H
  | [], _, p => p
  | x :: xs, _, ⟨v, r, a, b, c⟩ => ⟨v, r, a, h x v b, AllP.imp h c⟩
/-- a dict of counts -/
def DctP (L : Bag) : Pr := ⟨fun v H => ∃ d, v = .ref d ∧ H d = some (.dK (dictOf L)), fun e ⟨d, a, b⟩ => ⟨d, a, e _ _ b⟩⟩
def NewD (H0 : Hp) (L : Bag) : Pr := ⟨fun v H => ∃ d, v = .ref d ∧ H0 d = none ∧ H d = some (.dK (dictOf L)), fun e ⟨d, a, n, b⟩ => ⟨d, a, n, e _ _ b⟩⟩
section
variable {K : PySem.W.Frag} {σ : St} {H : Hp} {te ta tb td tk tx : TE} {tt : TT} {tr : TA} {P : Pr} {Ps Qs : List Pr} {vs : List Nat}
theorem ev_tupD (h : EvA tr σ H Ps) (hl : Ps.length ≤ 100000) : EvP (tTup tr) σ H (TupD Ps) := fun H1 e _ q =>
  h H1 e _ fun vs H2 e2 ps => ⟨Nat.le_trans (by rw [ps.len]; exact hl) (by decide), fun p hp => q _ _ (e2.trans (Same.ext (Same.refl H2) hp)) ⟨p, vs, rfl, upd_same, AllP.kp (Same.ext (Same.refl H2) hp) ps⟩⟩
theorem ev_tupF (h : EvA tr σ H Ps) (hl : Ps.length ≤ 100000) : EvP (tTupF tr) σ H (SolP Ps) := fun H1 e _ q =>
  h H1 e _ fun vs H2 e2 ps => ⟨Nat.le_trans (by rw [ps.len]; exact hl) (by decide), fun p o hp hd => q _ _ (e2.trans (Same.ext (Same.refl H2) hp)) ⟨p, vs, o, rfl, hd, upd_same, AllP.kp (Same.ext (Same.refl H2) hp) ps⟩⟩
theorem ev_tupleF (h : EvP te σ H (LstP Ps)) : EvP (tCB (rTupleF K) (tCons te tNil)) σ H (SolP Ps) := ev_cb (ea1 h) fun vs H1 e hv k q => by
  obtain ⟨v, _, rfl, ⟨p, ys, rfl, hp, hy⟩, rfl⟩ := hv
  exact ⟨p, ys, rfl, SqL.of hp, fun l o hl hd => q _ _ (Same.ext (Same.refl H1) hl) ⟨l, ys, o, rfl, hd, upd_same, AllP.kp (Same.ext (Same.refl H1) hl) hy⟩⟩
theorem ev_catF (ha : EvP ta σ H (SolP Ps)) (hb : EvP tb σ H (SolP Qs)) (hl : Ps.length + Qs.length ≤ 100000) : EvP (tOp (rCatF K) ta tb) σ H (SolP (Ps ++ Qs)) := ev_opP ha hb fun x y H1 e hx hy k q => by
  obtain ⟨p, ys, o, rfl, hd, hp, hP⟩ := hx
  obtain ⟨p', ys', o', rfl, hd', hp', hP'⟩ := hy
  have l1 := hP.len
  have l2 := hP'.len
  refine ⟨p, p', ys, ys', rfl, rfl, .inl (.inr ⟨o, hp⟩), .inl (.inr ⟨o', hp'⟩), Nat.le_trans (by rw [l1, l2]; exact hl) (by decide), fun z => ?_, fun _ z => ?_, fun _ _ l u hn hu => ?_⟩
  · subst z
    have : Ps = [] := List.eq_nil_of_length_eq_zero l1.symm
    subst this
    exact q _ _ (Same.refl H1) ⟨p', ys', o', rfl, hd', hp', hP'⟩
  · subst z
    have : Qs = [] := List.eq_nil_of_length_eq_zero l2.symm
    subst this
    rw [List.append_nil] at q
    exact q _ _ (Same.refl H1) ⟨p, ys, o, rfl, hd, hp, hP⟩
  · exact q _ _ (Same.ext (Same.refl H1) hn) ⟨l, _, u, rfl, hu, upd_same, AllP.kp (Same.ext (Same.refl H1) hn) (hP.app hP')⟩
theorem ev_rep01 {k : Int} (ha : EvP ta σ H (SolP Ps)) (hb : EvP tb σ H (IsI k)) (hne : Ps ≠ []) (hk : k = 0 ∨ k = 1) : EvP (tOp (rRep01 K) ta tb) σ H (SolP (if k = 1 then Ps else [])) := ev_opP ha hb fun x y H1 e hx (hy : y = _) k' q => by
  subst hy
  obtain ⟨p, ys, o, rfl, hd, hp, hP⟩ := hx
  have hy : ys ≠ [] := fun z => by
    subst z
    exact hne (List.eq_nil_of_length_eq_zero hP.len.symm)
  refine ⟨p, k, ys, rfl, rfl, .inl (.inr ⟨o, hp⟩), hy, ?_⟩
  rcases hk with rfl | rfl
  · exact .inr ⟨rfl, fun l u hn hu => q _ _ (Same.ext (Same.refl H1) hn) ⟨l, [], u, rfl, hu, upd_same, rfl⟩⟩
  · exact .inl ⟨rfl, q _ _ (Same.refl H1) ⟨p, ys, o, rfl, hd, hp, hP⟩⟩

/-! ### dicts -/
theorem ev_dictT {b : Bag} (h : EvP te σ H (BagP b)) (hd : Dist b) : EvP (tCB rDictT (tCons te tNil)) σ H (NewD H b) := fun H0 e0 Q q => h H0 e0 _ fun v H1 e1 hv => by
  obtain ⟨_, p, ys, o, rfl, ho, hp, hy⟩ := hv
  exact ⟨p, o, ys, b, rfl, hp, ho, hy, hd, fun l hl => q _ _ (e1.trans (Same.ext (Same.refl H1) hl)) ⟨l, rfl, free_back (e0.trans e1) hl, upd_same⟩⟩
theorem dictOf_len (L : Bag) : (dictOf L).length = L.length := by unfold dictOf; rw [List.length_map]
theorem valV_dictOf (n : Int) : ∀ L : Bag, valV (dictOf L) (.inl n) = (getL L n).map V.int
  | [] => rfl
  | e :: r => by
    show valV ((Sum.inl e.1, V.int e.2) :: dictOf r) (.inl n) = _
    unfold getL
    by_cases z : e.1 = n
    · rw [valV_pos (p := (Sum.inl e.1, V.int e.2)) (by rw [z]), if_pos z] <;> rfl
    · rw [valV_neg (p := (Sum.inl e.1, V.int e.2)) (fun q => z (Sum.inl.inj q)), if_neg z]
      exact valV_dictOf n r
theorem any_dictOf (n : Int) (L : Bag) : ((dictOf L).any fun kv => decide (kv.1 = .inl n)) = (getL L n).isSome := by
  rw [valV_any, valV_dictOf, Option.isSome_map]
theorem keep_dictOf {n v : Int} {r : Bag} (h : ∀ p ∈ r, p.1 ≠ n) : (dictOf r).map (fun kv => if kv.1 = .inl n then (kv.1, V.int v) else kv) = dictOf r := by
  have e : (dictOf r).map (fun kv => if kv.1 = .inl n then (kv.1, V.int v) else kv) = (dictOf r).map id := List.map_congr_left fun kv hk => by
    obtain ⟨p, hp, rfl⟩ := List.mem_map.mp hk
    exact if_neg fun q => h p hp (Sum.inl.inj q)
  rw [e, List.map_id]
theorem putL_map {n v : Int} : ∀ {L : Bag}, Dist L → (getL L n).isSome = true → (dictOf L).map (fun kv => if kv.1 = .inl n then (kv.1, V.int v) else kv) = dictOf (putL L n v)
  | [], _, h => by cases h
  | e :: r, hd, h => by
    obtain ⟨h1, h2⟩ := dist_cons.mp hd
    show (if (Sum.inl e.1 : Key) = .inl n then (Sum.inl e.1, V.int v) else (Sum.inl e.1, V.int e.2)) :: (dictOf r).map _ = _
    unfold putL
    by_cases z : e.1 = n
    · rw [if_pos (by rw [z]), if_pos z, keep_dictOf (fun p hp => by have := h1 p hp; omega), z] <;> rfl
    · rw [if_neg (fun q => z (Sum.inl.inj q)), if_neg z]
      show _ = (Sum.inl e.1, V.int e.2) :: dictOf (putL r n v)
      rw [putL_map h2 (by unfold getL at h; rw [if_neg z] at h; exact h)]
theorem putL_new {n v : Int} : ∀ {L : Bag}, getL L n = none → dictOf L ++ [(.inl n, V.int v)] = dictOf (putL L n v)
  | [], _ => rfl
  | e :: r, h => by
    unfold getL at h
    by_cases z : e.1 = n
    · rw [if_pos z] at h; cases h
    · rw [if_neg z] at h
      unfold putL
      rw [if_neg z]
      show (Sum.inl e.1, V.int e.2) :: (dictOf r ++ [(.inl n, V.int v)]) = (Sum.inl e.1, V.int e.2) :: dictOf (putL r n v)
      rw [putL_new h]
theorem putK_dictOf {n v : Int} {L : Bag} (hd : Dist L) : putK (dictOf L) (.inl n) (.int v) = dictOf (putL L n v) := by
  unfold putK
  rw [any_dictOf]
  cases h : getL L n with
  | none => simp only [Option.isSome_none, Bool.false_eq_true, if_false]; exact putL_new h
  | some z => simp only [Option.isSome_some, if_true]; exact putL_map hd (by rw [h] <;> rfl)
/-- d.get(n, z) -/
theorem ev_get {d : Addr} {L : Bag} {n z : Int} (hd : H d = some (.dK (dictOf L))) (ha : EvP td σ H (IsV (.ref d))) (hk : EvP tk σ H (IsI n)) (hx : EvP tx σ H (IsI z)) : EvP (tDGet2 td tk tx) σ H (IsI ((getL L n).getD z)) := fun H1 e Q q =>
  ha H1 e _ fun v H2 e2 (p : v = _) => ⟨d, p, .inl ⟨_, .inl (e2 _ _ (e _ _ hd))⟩, hk H2 (e.trans e2) _ fun v2 H3 e3 (p2 : v2 = _) => hx H3 ((e.trans e2).trans e3) _ fun v3 H4 e4 (p3 : v3 = _) => by
    subst p2 p3
    refine ⟨_, DGet.k (k := .inl n) (e4 _ _ (e3 _ _ (e2 _ _ (e _ _ hd)))), ?_⟩
    rw [valV_dictOf]
    refine q _ H4 ((e2.trans e3).trans e4) ?_
    show (Option.map V.int (getL L n)).getD (.int z) = .int ((getL L n).getD z)
    cases getL L n <;> rfl⟩
/-- d[n], there; d may be locked -/
theorem ev_dget {d : Addr} {L : Bag} {n z : Int} (hd : Rd H d (.dK (dictOf L))) (ha : EvP td σ H (IsV (.ref d))) (hk : EvP tk σ H (IsI n)) (hz : getL L n = some z) : EvP (tDGet td tk) σ H (IsI z) := fun H1 e Q q =>
  ha H1 e _ fun v H2 e2 (p : v = _) => hk H2 (e.trans e2) _ fun v2 H3 e3 (p2 : v2 = _) => by
    subst p p2
    refine ⟨d, .int z, rfl, .inl ⟨_, .inl n, Same.rd ((e.trans e2).trans e3) hd, rfl, ?_⟩, q _ H3 (e2.trans e3) rfl⟩
    rw [valV_dictOf, hz] <;> rfl
theorem s_put {D : Ends} {d : Addr} {L : Bag} {n x : Int} (hl : H d = some (.dK (dictOf L))) (hd : Dist L) (hz : L.length < 100000) (hv : EvP te σ H (IsI x)) (ha : EvP td σ H (IsV (.ref d))) (hk : EvP tk σ H (IsI n))
    (k : ∀ H1, Same H H1 → D.nx σ (upd H1 d (.dK (dictOf (putL L n x))))) : sDPut td tk te D σ H := hv H (Same.refl H) _ fun v H1 e1 (p1 : v = _) => ha H1 e1 _ fun v2 H2 e2 (p2 : v2 = _) => hk H2 (e1.trans e2) _ fun v3 H3 e3 (p3 : v3 = _) => by
  subst p1 p2 p3
  have hd3 := e3 _ _ (e2 _ _ (e1 _ _ hl))
  refine ⟨d, _, rfl, DPut.k (k := .inl n) hd3 (Nat.lt_of_lt_of_le (by rw [dictOf_len]; exact hz) (by decide)), ?_⟩
  rw [putK_dictOf hd]
  exact k H3 ((e1.trans e2).trans e3)
theorem q_put {D : Ends} {tz : TS} {d : Addr} {L : Bag} {n x : Int} (hl : H d = some (.dK (dictOf L))) (hd : Dist L) (hz : L.length < 100000) (hv : EvP te σ H (IsI x)) (ha : EvP td σ H (IsV (.ref d))) (hk : EvP tk σ H (IsI n))
    (k : ∀ H1, Same H H1 → tz D σ (upd H1 d (.dK (dictOf (putL L n x))))) : tSeq (sDPut td tk te) tz D σ H := s_put (D := { D with nx := tz D }) hl hd hz hv ha hk k

/-! ### walks over a locked dict -/
theorem Cv.more {H H' H2 : Hp} {Dl : Addr} {Qs : Nat → List Pr} {i : Nat} (c : Cv H Dl Qs i H') (e : Same H' H2) : Cv H Dl Qs i H2 := by
  obtain ⟨n, s, f, ys, hl, ha⟩ := c
  exact ⟨n, s.trans e, f, ys, e _ _ hl, AllP.kp e ha⟩
theorem Cv.start {H : Hp} {Dl : Addr} {Qs : Nat → List Pr} (hD : H Dl = none) (h0 : Qs 0 = []) : Cv H Dl Qs 0 (upd H Dl (.lst [])) :=
  ⟨hD, Same.ext (Same.refl H) hD, by rw [h0]; exact FixL.nil, [], upd_same, by rw [h0]; exact rfl⟩
theorem Cv.done {α : Type} {H0 H H' : Hp} {Dl : Addr} {xs : List α} {f : α → Bool} {PP : α → Pr} (e : Same H0 H) (c : Cv H Dl (kept xs f PP) xs.length H') : (NewL H0 ((xs.filter f).map PP)).h (.ref Dl) H' := by
  obtain ⟨n, s, _, zs, hl, hz⟩ := c
  unfold kept at hz
  rw [List.take_of_length_le (Nat.le_refl _)] at hz
  exact ⟨Dl, zs, rfl, free_back e n, hl, hz⟩
/-- [e for n, c in d.items() if t] -/
theorem ev_lcI {d : Addr} {od : Obj} {L : Bag} {i j : Nat} (f : Int × Int → Bool) (PP : Int × Int → Pr) [hF : ∀ a, Fixd (PP a)] (hd : H d = some (.frz od (.dK (dictOf L)))) (ha : EvP td σ H (IsV (.ref d))) (hz : L.length < 100000)
    (hw : ∀ x y, wipe (((wipe σ vs).set i (some x)).set j (some y)) vs = wipe σ vs)
    (ht : ∀ e ∈ L, ∀ H1, Same H H1 → EvT tt (((wipe σ vs).set i (some (.int e.1))).set j (some (.int e.2))) H1 (f e))
    (he : ∀ e ∈ L, ∀ H1, Same H H1 → f e = true → EvP te (((wipe σ vs).set i (some (.int e.1))).set j (some (.int e.2))) H1 (PP e)) :
    EvP (tLc (iItems td) (gTup K 2 (gCons (gName i) (gCons (gName j) gNil))) tt te vs) σ H (NewL H ((L.filter f).map PP)) := fun H0 e Q q =>
  ha H0 e _ fun v H1 e1 (pv : v = _) => by
    subst pv
    have hd1 := e1 _ _ (e _ _ hd)
    refine ⟨d, od, dictOf L, rfl, hd1, fun Dl hD => lc_it walk_items (Cv H1 Dl (kept L f PP)) (Cv.start hD rfl) (fun k H' _ c => c.2.1 _ _ hd1) (fun k x H' H'' hk c y => ?_) fun H' c => ?_⟩
    · obtain ⟨T, x1, x2, rfl, hT, rfl, g1, g2⟩ := y
      have hk' : k < L.length := by rw [dictOf_len] at hk; exact hk
      have ge : L[k]? = some L[k] := List.getElem?_eq_getElem hk'
      have gd : (dictOf L)[k]? = some (.inl L[k].1, .int L[k].2) := by unfold dictOf; rw [List.getElem?_map, ge] <;> rfl
      have g1 : (dictOf L)[k]?.map (fun kv => kV kv.1) = some x1 := g1
      have g2 : (dictOf L)[k]?.map Prod.snd = some x2 := g2
      rw [gd] at g1 g2
      have g1' : V.int L[k].1 = x1 := Option.some.inj g1
      have g2' : V.int L[k].2 = x2 := Option.some.inj g2
      subst g1' g2'
      have c2 := c.more (Same.ext (Same.refl H') hT (o := .tup [V.int L[k].1, V.int L[k].2]))
      have s2 : Same H (upd H' T (.tup [V.int L[k].1, V.int L[k].2])) := (e.trans e1).trans c2.2.1
      have hm := List.getElem_mem hk'
      refine ⟨T, _, rfl, SqT.of upd_same, rfl, _, _, rfl, _, _, rfl, rfl, hw _ _, kept_turn c2 (by omega) ge (ht _ hm _ s2) (he _ hm _ s2)⟩
    · rw [dictOf_len] at c
      exact q _ H' (e1.trans c.2.1) (Cv.done (e.trans e1) c)
/-- [e for c in d.values()] -/
theorem ev_lcV {d : Addr} {od : Obj} {L : Bag} {i : Nat} (f : Int × Int → Bool) (PP : Int × Int → Pr) [hF : ∀ a, Fixd (PP a)] (hd : H d = some (.frz od (.dK (dictOf L)))) (ha : EvP td σ H (IsV (.ref d))) (hz : L.length < 100000)
    (hw : ∀ x, wipe ((wipe σ vs).set i (some x)) vs = wipe σ vs)
    (ht : ∀ e ∈ L, ∀ H1, Same H H1 → EvT tt ((wipe σ vs).set i (some (.int e.2))) H1 (f e))
    (he : ∀ e ∈ L, ∀ H1, Same H H1 → f e = true → EvP te ((wipe σ vs).set i (some (.int e.2))) H1 (PP e)) :
    EvP (tLc (iVals td) (gName i) tt te vs) σ H (NewL H ((L.filter f).map PP)) := fun H0 e Q q =>
  ha H0 e _ fun v H1 e1 (pv : v = _) => by
    subst pv
    have hd1 := e1 _ _ (e _ _ hd)
    refine ⟨d, od, dictOf L, rfl, hd1, fun Dl hD => lc_it walk_values (Cv H1 Dl (kept L f PP)) (Cv.start hD rfl) (fun k H' _ c => c.2.1 _ _ hd1) (fun k x H' H'' hk c y => ?_) fun H' c => ?_⟩
    · obtain ⟨rfl, key, g1⟩ := y
      have hk' : k < L.length := by rw [dictOf_len] at hk; exact hk
      have ge : L[k]? = some L[k] := List.getElem?_eq_getElem hk'
      have gd : (dictOf L)[k]? = some (.inl L[k].1, .int L[k].2) := by unfold dictOf; rw [List.getElem?_map, ge] <;> rfl
      rw [gd] at g1
      cases g1
      have hm := List.getElem_mem hk'
      have s2 : Same H _ := (e.trans e1).trans c.2.1
      exact ⟨hw _, kept_turn c (by omega) ge (ht _ hm _ s2) (he _ hm _ s2)⟩
    · rw [dictOf_len] at c
      exact q _ H' (e1.trans c.2.1) (Cv.done (e.trans e1) c)
/-- [e for n in d if t] -/
theorem ev_lcK {d : Addr} {od : Obj} {L : Bag} {i : Nat} (f : Int × Int → Bool) (PP : Int × Int → Pr) [hF : ∀ a, Fixd (PP a)] (hd : H d = some (.frz od (.dK (dictOf L)))) (ha : EvP td σ H (IsV (.ref d))) (hz : L.length < 100000)
    (hw : ∀ x, wipe ((wipe σ vs).set i (some x)) vs = wipe σ vs)
    (ht : ∀ e ∈ L, ∀ H1, Same H H1 → EvT tt ((wipe σ vs).set i (some (.int e.1))) H1 (f e))
    (he : ∀ e ∈ L, ∀ H1, Same H H1 → f e = true → EvP te ((wipe σ vs).set i (some (.int e.1))) H1 (PP e)) :
    EvP (tLc (iKeys td) (gName i) tt te vs) σ H (NewL H ((L.filter f).map PP)) := fun H0 e Q q =>
  ha H0 e _ fun v H1 e1 (pv : v = _) => by
    subst pv
    have hd1 := e1 _ _ (e _ _ hd)
    refine ⟨d, od, rfl, .inl ⟨dictOf L, hd1, fun Dl hD => lc_it walk_keys (Cv H1 Dl (kept L f PP)) (Cv.start hD rfl) (fun k H' _ c => c.2.1 _ _ hd1) (fun k x H' H'' hk c y => ?_) fun H' c => ?_⟩⟩
    · obtain ⟨rfl, key, val, g1, rfl⟩ := y
      have hk' : k < L.length := by rw [dictOf_len] at hk; exact hk
      have ge : L[k]? = some L[k] := List.getElem?_eq_getElem hk'
      have gd : (dictOf L)[k]? = some (.inl L[k].1, .int L[k].2) := by unfold dictOf; rw [List.getElem?_map, ge] <;> rfl
      rw [gd] at g1
      cases g1
      have hm := List.getElem_mem hk'
      have s2 : Same H _ := (e.trans e1).trans c.2.1
      exact ⟨hw _, kept_turn c (by omega) ge (ht _ hm _ s2) (he _ hm _ s2)⟩
    · rw [dictOf_len] at c
      exact q _ H' (e1.trans c.2.1) (Cv.done (e.trans e1) c)
/-- the whole under the dict's lock -/
theorem ev_lock {d : Addr} {kvs : List (Key × V)} {t : TE} (hd : H d = some (.dK kvs)) (f : FixL Ps) (hb : ∀ od H1, Sim H H1 → H1 d = some (.frz od (.dK kvs)) → EvP t σ H1 (NewL H1 Ps)) : EvP (tLockE t) σ H (NewL H Ps) := fun H1 e Q q => by
  have hd1 := e _ _ hd
  refine ⟨d, .dK kvs, hd1, trivial, fun od => ?_⟩
  have sm : Sim H (upd H1 d (.frz od (.dK kvs))) := (Sim.same e).trans (Sim.at hd1 rfl)
  refine hb od _ sm upd_same _ (Same.refl _) _ fun v H2 e2 hv => ?_
  have hd2 : H2 d = some (.frz od (.dK kvs)) := e2 _ _ upd_same
  refine ⟨hd2, q v _ (fun a o ha => ?_) ?_⟩
  · by_cases z : a = d
    · subst z
      rw [hd1] at ha
      cases ha
      exact upd_same
    · rw [upd_ne z]
      exact e2 _ _ (by rw [upd_ne z]; exact ha)
  · obtain ⟨p, ys, rfl, hn, hp, hy⟩ := hv
    have z : p ≠ d := ne_of hp hd2 (fun q => by cases q)
    rw [upd_ne z] at hn
    exact ⟨p, ys, rfl, free_back e hn, by rw [upd_ne z]; exact hp, AllP.fx f (Sim.at hd2 rfl) hy⟩

/-! ### sorted -/
def keyOf (H : Hp) : V → Int × Int
  | .ref t => match H t with
    | some (.tup [.int i, .int j]) => (i, j)
    | _ => (0, 0)
  | _ => (0, 0)
theorem keyOf_at {e : Int × Int} {v : V} (h : (entD e).h v H) : keyOf H v = e ∧ ∃ t, v = .ref t ∧ H t = some (.tup [.int e.1, .int e.2]) := by
  obtain ⟨p, ys, rfl, hp, v1, _, rfl, h1, v2, _, rfl, h2, rfl⟩ := h
  have h1' : v1 = _ := h1
  have h2' : v2 = _ := h2
  subst h1' h2'
  refine ⟨?_, p, rfl, hp⟩
  unfold keyOf
  simp only [hp]
theorem keys_at : ∀ {L : Bag} {ys : List V}, AllP (L.map entD) ys H → ys.map (keyOf H) = L
  | [], _, h => by rw [show _ = [] from h] <;> rfl
  | e :: r, _, ⟨v, z, rfl, h1, h2⟩ => by rw [List.map_cons, (keyOf_at h1).1, keys_at h2]
theorem at_keys : ∀ {ys : List V}, (∀ y ∈ ys, ∃ t, y = .ref t ∧ H t = some (.tup [.int (keyOf H y).1, .int (keyOf H y).2])) → AllP ((ys.map (keyOf H)).map entD) ys H
  | [], _ => rfl
  | y :: r, h => by
    obtain ⟨t, e1, e2⟩ := h y List.mem_cons_self
    exact ⟨y, r, rfl, ⟨t, _, e1, e2, _, _, rfl, rfl, _, _, rfl, rfl, rfl⟩, at_keys fun z hz => h z (List.mem_cons_of_mem _ hz)⟩
/-- sorted(a list of pairs): the pairs by their first numbers -/
theorem ev_sortP {L : Bag} (h : EvP te σ H (LstP (L.map entD))) (hd : Dist L) (hp : ∀ p ∈ L, 1 ≤ p.2) : EvP (tCB (rSortedPO K) (tCons te tNil)) σ H (LstP ((nf L).map entP)) := ev_cb (ea1 h) fun vs H1 e hv k q => by
  obtain ⟨v, _, rfl, ⟨p, ys, rfl, hpp, hy⟩, rfl⟩ := hv
  have each : ∀ y ∈ ys, ∃ t, y = .ref t ∧ H1 t = some (.tup [.int (keyOf H1 y).1, .int (keyOf H1 y).2]) := fun y hy' => by
    obtain ⟨i, hi⟩ := List.mem_iff_getElem?.mp hy'
    obtain ⟨P, hP, hh⟩ := hy.get hi
    rw [List.getElem?_map] at hP
    obtain ⟨x, _, rfl⟩ := Option.map_eq_some_iff.mp hP
    obtain ⟨e1, t, e2, e3⟩ := keyOf_at hh
    exact ⟨t, e2, by rw [e1]; exact e3⟩
  refine ⟨p, ys, keyOf H1, rfl, SqL.of hpp, each, fun zs l hs hb hl => q _ _ (Same.ext (Same.refl H1) hl) ⟨l, zs, rfl, upd_same, AllP.kp (Same.ext (Same.refl H1) hl) ?_⟩⟩
  have perm : (zs.map (keyOf H1)).Perm L := by
    have := hb.perm.map (keyOf H1)
    rw [keys_at hy] at this
    exact this
  have dz : Dist (zs.map (keyOf H1)) := by
    unfold Dist at hd ⊢
    exact (perm.map (·.1)).nodup_iff.mpr hd
  have isb : IsBag (zs.map (keyOf H1)) := by
    refine ⟨?_, fun x hx => hp x (perm.mem_iff.mp hx)⟩
    have s1 : (zs.map (keyOf H1)).Pairwise (fun x y => SrtO.lexB y x = false) := List.pairwise_map.mpr hs
    have s2 : (zs.map (keyOf H1)).Pairwise (fun x y => x.1 ≠ y.1) := by
      have := dz
      unfold Dist at this
      rw [List.nodup_iff_pairwise_ne, List.pairwise_map] at this
      exact this
    refine (s1.and s2).imp fun hxy => ?_
    have a := SrtO.lexB_no.mp hxy.1
    have b := hxy.2
    omega
  have eq : zs.map (keyOf H1) = nf L := nf_eq isb fun m => by
    have c1 : cnt (zs.map (keyOf H1)) m = cnt L m := by
      unfold cnt
      have key : ∀ {a b : Bag}, a.Perm b → wsum (fun n => if n = m then 1 else 0) a = wsum (fun n => if n = m then 1 else 0) b := by
        intro a b h
        induction h with
        | nil => rfl
        | cons x _ ih => simp only [wsum, ih]
        | swap x y l => simp only [wsum]; omega
        | trans _ _ i1 i2 => exact i1.trans i2
      exact key perm
    rw [c1]
    have := isb.cnt_nonneg m
    rw [c1] at this
    split <;> omega
  have fin := at_keys fun z hz => each z (hb.perm.mem_iff.mp hz)
  rw [eq] at fin
  exact AllP.imp (fun a v h => TupD.tup h) fin
end
end K79
end
section
set_option Elab.async false
set_option linter.all false
set_option maxRecDepth 100000
set_option maxHeartbeats 4000000
/-! Data compared; subscripts; small evaluation lemmas. -/
namespace K79
open PySem PySem.Spec L2
def pairD (e : Int × Int) : PyData := .tuple [.int e.1, .int e.2]
def bagD (b : Bag) : PyData := .tuple (b.map pairD)
def intsD (ns : List Int) : PyData := .list (ns.map .int)
theorem lay_bag : ∀ b : Bag, PyData.canLayAll0 (b.map pairD) = true ∧ PyData.depthAll (b.map pairD) ≤ 1
  | [] => ⟨rfl, Nat.zero_le _⟩
  | e :: r => by
    obtain ⟨h1, h2⟩ := lay_bag r
    constructor
    · show (PyData.canLay0 (pairD e) && PyData.canLayAll0 (r.map pairD)) = true
      rw [h1] <;> rfl
    · show max (PyData.depth (pairD e)) (PyData.depthAll (r.map pairD)) ≤ 1
      exact Nat.max_le.mpr ⟨by show max 0 (max 0 0) + 1 ≤ 1; decide, h2⟩
theorem sh_bag (b : Bag) : SeqAt.shaped (bagD b) = true := by
  obtain ⟨h1, h2⟩ := lay_bag b
  show (PyData.canLayAll0 (b.map pairD) && decide (PyData.depthAll (b.map pairD) + 1 ≤ 64)) = true
  rw [h1, decide_eq_true (by omega)] <;> rfl
theorem lay_ints : ∀ ns : List Int, PyData.canLayAll0 (ns.map .int) = true ∧ PyData.depthAll (ns.map .int) ≤ 0
  | [] => ⟨rfl, Nat.le_refl _⟩
  | e :: r => by
    obtain ⟨h1, h2⟩ := lay_ints r
    constructor
    · show (PyData.canLay0 (.int e) && PyData.canLayAll0 (r.map .int)) = true
      rw [h1] <;> rfl
    · show max (PyData.depth (.int e)) (PyData.depthAll (r.map .int)) ≤ 0
      exact Nat.max_le.mpr ⟨Nat.le_refl _, h2⟩
theorem sh_ints (ns : List Int) : SeqAt.shaped (intsD ns) = true := by
  obtain ⟨h1, h2⟩ := lay_ints ns
  show (PyData.canLayAll0 (ns.map .int) && decide (PyData.depthAll (ns.map .int) + 1 ≤ 64)) = true
  rw [h1, decide_eq_true (by omega)] <;> rfl
theorem eqv_pairs : ∀ a b : Bag, PyData.eqvAll (a.map pairD) (b.map pairD) = decide (a = b)
  | [], [] => rfl
  | [], _ :: _ => rfl
  | _ :: _, [] => rfl
  | e :: r, f :: s => by
    show (((e.1 == f.1) && ((e.2 == f.2) && true)) && PyData.eqvAll (r.map pairD) (s.map pairD)) = _
    rw [eqv_pairs r s, Bool.and_true]
    by_cases h1 : e.1 = f.1
    · by_cases h2 : e.2 = f.2
      · have ef : e = f := Prod.ext h1 h2
        subst ef
        by_cases h3 : r = s
        · simp [h3]
        · simp [h3]
      · have : ¬ (e :: r = f :: s) := fun z => h2 (by cases z; rfl)
        rw [decide_eq_false this]
        simp [h2]
    · have : ¬ (e :: r = f :: s) := fun z => h1 (by cases z; rfl)
      rw [decide_eq_false this]
      simp [h1]
theorem eqv_bag (a b : Bag) : PyData.eqv (bagD a) (bagD b) = decide (a = b) := eqv_pairs a b
theorem eqv_nil (ns : List Int) : PyData.eqv (intsD ns) (intsD []) = ns.isEmpty := by
  cases ns <;> rfl
section
variable {K : PySem.W.Frag} {σ : St} {H : Hp} {te ta tb : TE} {P Q : Pr}
theorem dp_ints : ∀ {ns : List Int} , DpAll K H (ns.map V.int) (ns.map PyData.int)
  | [] => .nil
  | n :: r => .cons (.int n) dp_ints
theorem dp_lst {Ps : List Pr} {ns : List Int} : ∀ v (H1 : Hp), (LstP (ns.map IsI)).h v H1 → Dp K H1 v (intsD ns) := fun v H1 ⟨p, ys, e, hp, hy⟩ => by
  subst e
  have ey : ys = ns.map V.int := AllP.is (f := V.int) hy
  subst ey
  exact .lst (SqL.of hp) dp_ints
theorem dp_pairs {H1 : Hp} : ∀ {b : Bag} {ys : List V}, AllP (b.map entP) ys H1 → DpAll K H1 ys (b.map pairD)
  | [], _, h => by rw [show _ = [] from h]; exact .nil
  | e :: r, _, ⟨v, z, e1, ⟨p, ys, e2, hp, v1, _, e3, h1, v2, _, e4, h2, e5⟩, h3⟩ => by
    have h1' : v1 = _ := h1
    have h2' : v2 = _ := h2
    subst h1' h2' e5 e4 e3 e2 e1
    exact .cons (.tup (.inl hp) (.cons (.int _) (.cons (.int _) .nil))) (dp_pairs h3)
theorem dp_bag {b : Bag} : ∀ v (H1 : Hp), (BagP b).h v H1 → Dp K H1 v (bagD b) := fun v H1 h => by
  obtain ⟨p, ys, rfl, hp, hy⟩ := BagP.tup h
  exact .tup (.inl hp) (dp_pairs hy)
theorem ev_eqD {d e : PyData} {b : Bool} (ha : EvP ta σ H P) (hb : EvP tb σ H Q) (da : ∀ v H1, P.h v H1 → Dp K H1 v d) (db : ∀ v H1, Q.h v H1 → Dp K H1 v e) (sd : SeqAt.shaped d = true) (se : SeqAt.shaped e = true) (hb' : PyData.eqv d e = b) :
    EvP (tOp (rEqD K) ta tb) σ H (IsB b) := ev_opP ha hb fun x y H1 _ hx hy k q => ⟨d, e, da x H1 hx, db y H1 hy, sd, se, by rw [hb']; exact q _ H1 (Same.refl H1) rfl⟩
theorem ev_neD {d e : PyData} {b : Bool} (ha : EvP ta σ H P) (hb : EvP tb σ H Q) (da : ∀ v H1, P.h v H1 → Dp K H1 v d) (db : ∀ v H1, Q.h v H1 → Dp K H1 v e) (sd : SeqAt.shaped d = true) (se : SeqAt.shaped e = true) (hb' : (!PyData.eqv d e) = b) :
    EvP (tOp (rNeD K) ta tb) σ H (IsB b) := ev_opP ha hb fun x y H1 _ hx hy k q => ⟨d, e, da x H1 hx, db y H1 hy, sd, se, by rw [hb']; exact q _ H1 (Same.refl H1) rfl⟩
/-- len of a list, a tuple -/
theorem ev_lenT {Ps : List Pr} {r : List V → Hp → VK → Prop} (h : EvP te σ H (TupP Ps)) (hr : r = fun xs H Q => ∃ p ys, xs = [.ref p] ∧ (SqL K H p ys ∨ SqT K H p ys) ∧ Q (.int ys.length) H) : EvP (tCB r (tCons te tNil)) σ H (IsI Ps.length) := by
  subst hr
  refine ev_cb (ea1 h) fun vs H1 _ hv k q => ?_
  obtain ⟨v, _, rfl, ⟨p, ys, rfl, hp, hy⟩, rfl⟩ := hv
  exact ⟨p, ys, rfl, .inr (.inl hp), by rw [hy.len]; exact q _ H1 (Same.refl H1) rfl⟩
theorem ev_lenL {Ps : List Pr} {r : List V → Hp → VK → Prop} (h : EvP te σ H (LstP Ps)) (hr : r = fun xs H Q => ∃ p ys, xs = [.ref p] ∧ (SqL K H p ys ∨ SqT K H p ys) ∧ Q (.int ys.length) H) : EvP (tCB r (tCons te tNil)) σ H (IsI Ps.length) := by
  subst hr
  refine ev_cb (ea1 h) fun vs H1 _ hv k q => ?_
  obtain ⟨v, _, rfl, ⟨p, ys, rfl, hp, hy⟩, rfl⟩ := hv
  exact ⟨p, ys, rfl, .inl (SqL.of hp), by rw [hy.len]; exact q _ H1 (Same.refl H1) rfl⟩
theorem AllP.at {H1 : Hp} : ∀ {Ps : List Pr} {vs : List V} {i : Nat} {P : Pr}, AllP Ps vs H1 → Ps[i]? = some P → ∃ v, vs[i]? = some v ∧ P.h v H1
  | [], _, i, P, _, e => by simp at e
  | Q :: Ps, _, 0, P, ⟨v, r, a, b, c⟩, e => by
    subst a
    cases e
    exact ⟨v, rfl, b⟩
  | Q :: Ps, _, i + 1, P, ⟨v, r, a, b, c⟩, e => by
    subst a
    obtain ⟨x, h1, h2⟩ := AllP.at (i := i) (P := P) c (by simpa using e)
    exact ⟨x, by simpa using h1, h2⟩
theorem ev_ixT {Ps : List Pr} {i : Nat} (ha : EvP ta σ H (TupP Ps)) (hb : EvP tb σ H (IsI i)) (hi : Ps[i]? = some P) : EvP (tOp (rIxT K) ta tb) σ H P := ev_opP ha hb fun x y H1 _ hx (hy : y = _) k q => by
  subst hy
  obtain ⟨p, ys, rfl, hp, hP⟩ := hx
  obtain ⟨v, h1, h2⟩ := hP.at hi
  exact ⟨p, ys, i, v, rfl, rfl, .inl hp, atI_nat h1, q v H1 (Same.refl H1) h2⟩
theorem ev_ixL {Ps : List Pr} {i : Nat} (ha : EvP ta σ H (LstP Ps)) (hb : EvP tb σ H (IsI i)) (hi : Ps[i]? = some P) : EvP (tOp (rIxL K) ta tb) σ H P := ev_opP ha hb fun x y H1 _ hx (hy : y = _) k q => by
  subst hy
  obtain ⟨p, ys, rfl, hp, hP⟩ := hx
  obtain ⟨v, h1, h2⟩ := hP.at hi
  exact ⟨p, ys, i, v, rfl, rfl, SqL.of hp, atI_nat h1, q v H1 (Same.refl H1) h2⟩
theorem ev_min2 {i j : Int} {r : List V → Hp → VK → Prop} (ha : EvP ta σ H (IsI i)) (hb : EvP tb σ H (IsI j)) (hr : r = fun xs H Q => ∃ i j, xs = [.int i, .int j] ∧ Q (.int (if j < i then j else i)) H) : EvP (tCB r (tCons ta (tCons tb tNil))) σ H (IsI (min i j)) := by
  subst hr
  refine ev_cb (ea2 ha hb) fun vs H1 _ hv k q => ?_
  obtain ⟨v, _, rfl, (e1 : v = _), v2, _, rfl, (e2 : v2 = _), rfl⟩ := hv
  subst e1 e2
  refine ⟨i, j, rfl, q _ H1 (Same.refl H1) ?_⟩
  show V.int (if j < i then j else i) = V.int (min i j)
  congr 1
  split <;> omega
theorem ev_max2 {i j : Int} {r : List V → Hp → VK → Prop} (ha : EvP ta σ H (IsI i)) (hb : EvP tb σ H (IsI j)) (hr : r = fun xs H Q => ∃ i j, xs = [.int i, .int j] ∧ Q (.int (if j > i then j else i)) H) : EvP (tCB r (tCons ta (tCons tb tNil))) σ H (IsI (max i j)) := by
  subst hr
  refine ev_cb (ea2 ha hb) fun vs H1 _ hv k q => ?_
  obtain ⟨v, _, rfl, (e1 : v = _), v2, _, rfl, (e2 : v2 = _), rfl⟩ := hv
  subst e1 e2
  refine ⟨i, j, rfl, q _ H1 (Same.refl H1) ?_⟩
  show V.int (if j > i then j else i) = V.int (max i j)
  congr 1
  split <;> omega
theorem ev_isN {x : V} {r : R2} (ha : EvP ta σ H (IsV x)) (hr : r = fun x y H Q => y = .non ∧ Q (.bl (decide (x = .non))) H) : EvP (tOp r ta (tC .non)) σ H (IsB (decide (x = .non))) := by
  subst hr
  exact ev_op ha ev_c fun _ _ _ q => ⟨rfl, q⟩
theorem ev_notN {x : V} {r : R2} (ha : EvP ta σ H (IsV x)) (hr : r = fun x y H Q => y = .non ∧ Q (.bl (!decide (x = .non))) H) : EvP (tOp r ta (tC .non)) σ H (IsB (!decide (x = .non))) := by
  subst hr
  exact ev_op ha ev_c fun _ _ _ q => ⟨rfl, q⟩
/-- a value that is no None -/
theorem ev_isNf {r : R2} (ha : EvP ta σ H P) (hn : ∀ v H1, P.h v H1 → v ≠ .non) (hr : r = fun x y H Q => y = .non ∧ Q (.bl (decide (x = .non))) H) : EvP (tOp r ta (tC .non)) σ H (IsB false) := by
  subst hr
  exact ev_opP ha ev_c fun x y H1 _ hx (hy : y = _) k q => ⟨hy, by rw [decide_eq_false (hn x H1 hx)]; exact q _ H1 (Same.refl H1) rfl⟩
theorem ev_notNt {r : R2} (ha : EvP ta σ H P) (hn : ∀ v H1, P.h v H1 → v ≠ .non) (hr : r = fun x y H Q => y = .non ∧ Q (.bl (!decide (x = .non))) H) : EvP (tOp r ta (tC .non)) σ H (IsB true) := by
  subst hr
  exact ev_opP ha ev_c fun x y H1 _ hx (hy : y = _) k q => ⟨hy, by rw [decide_eq_false (hn x H1 hx)]; exact q _ H1 (Same.refl H1) rfl⟩
theorem nn_int {i : Int} : ∀ v (H1 : Hp), (IsI i).h v H1 → v ≠ .non := fun v H1 (e : v = _) z => by rw [e] at z; cases z
theorem nn_tup {Ps : List Pr} : ∀ v (H1 : Hp), (TupP Ps).h v H1 → v ≠ .non := fun v H1 ⟨_, _, e, _⟩ z => by rw [e] at z; cases z
theorem nn_bag {b : Bag} : ∀ v (H1 : Hp), (BagP b).h v H1 → v ≠ .non := fun v H1 h => nn_tup v H1 (BagP.tup h)
/-- any, all of a list of bools -/
theorem ev_any {α : Type} {xs : List α} {f : α → Bool} (h : EvP te σ H (LstP (xs.map fun a => IsB (f a)))) : EvP (tCB (rAny K) (tCons te tNil)) σ H (IsB (xs.any f)) := ev_cb (ea1 h) fun vs H1 _ hv k q => by
  obtain ⟨v, _, rfl, ⟨p, ys, rfl, hp, hy⟩, rfl⟩ := hv
  have e : ys = (xs.map f).map V.bl := by
    rw [List.map_map]
    exact AllP.is (f := fun a => V.bl (f a)) hy
  subst e
  refine ⟨p, xs.map f, rfl, SqL.of hp, q _ H1 (Same.refl H1) ?_⟩
  show V.bl ((xs.map f).any id) = V.bl (xs.any f)
  rw [List.any_map] <;> rfl
theorem ev_all {α : Type} {xs : List α} {f : α → Bool} (h : EvP te σ H (LstP (xs.map fun a => IsB (f a)))) : EvP (tCB (rAll K) (tCons te tNil)) σ H (IsB (xs.all f)) := ev_cb (ea1 h) fun vs H1 _ hv k q => by
  obtain ⟨v, _, rfl, ⟨p, ys, rfl, hp, hy⟩, rfl⟩ := hv
  have e : ys = (xs.map f).map V.bl := by
    rw [List.map_map]
    exact AllP.is (f := fun a => V.bl (f a)) hy
  subst e
  refine ⟨p, xs.map f, rfl, SqL.of hp, q _ H1 (Same.refl H1) ?_⟩
  show V.bl ((xs.map f).all id) = V.bl (xs.all f)
  rw [List.all_map] <;> rfl
/-- -n -/
theorem ev_neg {i : Int} {r : V → Hp → VK → Prop} (h : EvP te σ H (IsI i)) (hr : r = rU fun i => .int (-i)) : EvP (tUn r te) σ H (IsI (-i)) := by
  subst hr
  exact fun H1 e Q q => h H1 e _ fun v H2 e2 (p : v = _) => ⟨i, p, q _ H2 e2 rfl⟩
/-- a = b with both sides written -/
theorem q_par {D : Ends} {tz : TS} {i j : Nat} {tr : TA} {R : List V → Hp → Prop} (h : ∀ (Q : List V → Hp → Prop), (∀ vs H1, Same H H1 → R vs H1 → Q vs H1) → tr σ H Q) (k : ∀ v w H1, Same H H1 → R [v, w] H1 → tz D ((σ.set i (some v)).set j (some w)) H1) (hR : ∀ vs H1, R vs H1 → ∃ v w, vs = [v, w]) : tSeq (tPar i j tr) tz D σ H :=
  h _ fun vs H1 e r => by
    obtain ⟨v, w, rfl⟩ := hR vs H1 r
    exact ⟨v, w, rfl, k v w H1 e r⟩
theorem q_par2 {D : Ends} {tz : TS} {i j : Nat} (ha : EvP ta σ H P) (hb : EvP tb σ H Q) (k : ∀ v w H1, Same H H1 → P.h v H1 → Q.h w H1 → tz D ((σ.set i (some v)).set j (some w)) H1) : tSeq (tPar i j (tCons ta (tCons tb tNil))) tz D σ H :=
  q_par (R := AllP [P, Q]) (fun Q' q => ea2 ha hb H (Same.refl H) Q' q) (fun v w H1 e ⟨v1, _, e1, h1, v2, _, e2, h2, e3⟩ => by
    cases e1
    cases e2
    exact k _ _ H1 e h1 h2) fun vs H1 ⟨v1, _, e1, h1, v2, _, e2, h2, e3⟩ => ⟨v1, v2, by rw [e1, e2, e3]⟩
/-- a, b = e, e a pair -/
theorem q_unpair {D : Ends} {tz : TS} {i j : Nat} {P1 P2 : Pr} (h : EvP te σ H (TupP [P1, P2])) (k : ∀ v w H1, Same H H1 → P1.h v H1 → P2.h w H1 → tz D ((σ.set i (some v)).set j (some w)) H1) : tSeq (tAsg te (gTup K 2 (gCons (gName i) (gCons (gName j) gNil)))) tz D σ H :=
  h H (Same.refl H) _ fun v H1 e hv => g_pair hv fun v1 v2 h1 h2 => k v1 v2 H1 e h1 h2
end
end K79
end
section
set_option Elab.async false
set_option linter.all false
set_option maxRecDepth 100000
set_option maxHeartbeats 4000000
namespace K79
open PySem PySem.Spec L2
section
variable {K : PySem.W.Frag} {σ : St} {H : Hp} {te ta tb : TE} {P : Pr}
theorem ev_isi {cv : V} {t u : Value} {b : Bool} (h : EvP te σ H P) (hty : ∀ v H1, P.h v H1 → TyX K H1 v t) (c : ClsV cv u) (hk : PySem.W.kitOne K t u = some b) :
    EvP (tCB (rIsi K) (tCons te (tCons (tC cv) tNil))) σ H (IsB b) := ev_cb (Ps := [P, IsV cv]) (ea2 h ev_c) fun vs H1 _ hv k q => by
  obtain ⟨v, _, rfl, hp, c', _, rfl, (ec : c' = cv), rfl⟩ := hv
  subst ec
  exact ⟨v, c', t, u, b, rfl, c, hty v H1 hp, hk, q _ H1 (Same.refl H1) rfl⟩
theorem tyInt {i : Int} : ∀ v (H1 : Hp), (IsI i).h v H1 → TyX K H1 v (.type "int") := fun v H1 (e : v = _) => by subst e; exact .base (.int i)
theorem tyTup {Ps : List Pr} : ∀ v (H1 : Hp), (TupP Ps).h v H1 → TyX K H1 v (.type "tuple") := fun v H1 ⟨p, ys, e, hp, _⟩ => by
  subst e
  rcases hp with hp | ⟨o, hp⟩
  · exact .base (.tup hp)
  · exact .fTuple hp
theorem tyBag {b : Bag} : ∀ v (H1 : Hp), (BagP b).h v H1 → TyX K H1 v (.type "tuple") := fun v H1 h => tyTup v H1 (BagP.tup h)
theorem tyLst {Ps : List Pr} : ∀ v (H1 : Hp), (LstP Ps).h v H1 → TyX K H1 v (.type "list") := fun v H1 ⟨p, ys, e, hp, _⟩ => by subst e; exact .base (.lst hp)
/-- sum of a list of ints -/
theorem ev_sum {α : Type} {xs : List α} {f : α → Int} (h : EvP te σ H (LstP (xs.map fun a => IsI (f a)))) : EvP (tCB (rSum K) (tCons te tNil)) σ H (IsI (xs.map f).sum) := ev_cb (ea1 h) fun vs H1 _ hv k q => by
  obtain ⟨v, _, rfl, ⟨p, ys, rfl, hp, hy⟩, rfl⟩ := hv
  have e : ys = (xs.map f).map V.int := by
    rw [List.map_map]
    exact AllP.is (f := fun a => V.int (f a)) hy
  subst e
  exact ⟨p, xs.map f, rfl, SqL.of hp, q _ H1 (Same.refl H1) rfl⟩
end
abbrev KK (K : PySem.W.Frag) := K
section
variable {P : Program} {w : World} {K : PySem.W.Frag} {mg : Str → Option Value} {base : Heap}
/-! ### is_integer, is_count -/
abbrev N_is_integer : List Str := ["value"]
theorem sc_is_integer : FnScope N_is_integer ["value"] (defScope st_is_integer) := ⟨rfl, rfl, rfl, by decide +kernel, rfl, by decide +kernel, by decide +kernel⟩
abbrev Sp_is_integer : Sp := SpG (γ := Int) (fun i => [IsI i]) (fun _ => True) (fun _ => IsB true)
theorem ok_is_integer (T : Fx K mg) : Glob P w K mg base 1 "is_integer" (He.ga K "is_integer") ["value"] Sp_is_integer := by
  refine mkG T.f_is_integer T.g_is_integer sc_is_integer (fun _ => rfl) (fun _ _ _ _ _ _ us hl => match us, hl with | [_], _ => rfl) fun cdv A outer s H E hr => ?_
  have nd := sc_is_integer.nd
  refine ⟨_, (pss_one (ps_ret (pe_and (pe_callB call_isi (by rfl) T.n_isinstance (by decide +kernel) (pa_cons (pv 0) (pa_cons (pe_bltn (v := .ty "int") (by rfl) T.n_int (by decide +kernel) rfl) pa_nil))) (pe_one (pe_not (pe_callB call_isi (by rfl) T.n_isinstance (by decide +kernel) (pa_cons (pv 0) (pa_cons (pe_bltn (v := .ty "bool") (by rfl) T.n_bool (by decide +kernel) rfl) pa_nil)))))))), ?_⟩
  rintro i vs Q - ⟨v, _, rfl, hv, rfl⟩ q
  refine s_ret (P := IsB true) ?_ fun v H1 e p => q v H1 e p
  exact ev_and (a := true) (b := true) (ev_isi (ev_var rfl hv) tyInt (.ty "int") (kit_ty (by decide +kernel))) fun _ => ev_not (a := false) (ev_isi (ev_var rfl hv) tyInt (.ty "bool") (kit_ty (by decide +kernel)))
abbrev N_is_count : List Str := ["value"]
theorem sc_is_count : FnScope N_is_count ["value"] (defScope st_is_count) := ⟨rfl, rfl, rfl, by decide +kernel, rfl, by decide +kernel, by decide +kernel⟩
abbrev Sp_is_count : Sp := SpG (γ := Int) (fun i => [IsI i]) (fun i => 0 ≤ i) (fun _ => IsB true)
theorem ok_is_count (T : Fx K mg) : Glob P w K mg base 2 "is_count" (He.ga K "is_count") ["value"] Sp_is_count := by
  have G_is_integer := ok_is_integer (P := P) (w := w) (base := base) T
  refine mkG T.f_is_count T.g_is_count sc_is_count (fun _ => rfl) (fun _ _ _ _ _ _ us hl => match us, hl with | [_], _ => rfl) fun cdv A outer s H E hr => ?_
  have nd := sc_is_count.nd
  refine ⟨_, (pss_one (ps_ret (pe_and (pe_callG G_is_integer (hr.mono (by decide)) (pa_cons (pv 0) pa_nil)) (pe_one (pe_cmpR op_ge (pv 0) pe_int (nomark _)))))), ?_⟩
  rintro i vs Q hc ⟨v, _, rfl, hv, rfl⟩ q
  refine s_ret (P := IsB true) ?_ fun v H1 e p => q v H1 e p
  exact ev_and (a := true) (b := true) (ev_call i trivial (ea1 (ev_var rfl hv))) fun _ => ev_i (ev_var rfl hv) ev_c (by rw [decide_eq_true hc])
/-! ### total, level -/
abbrev N_total : List Str := ["bag", "number", "count"]
theorem sc_total : FnScope N_total ["bag"] (defScope st_total) := ⟨rfl, rfl, rfl, by decide +kernel, rfl, by decide +kernel, by decide +kernel⟩
abbrev Sp_total : Sp := SpG (γ := Bag) (fun b => [BagP b]) (fun _ => True) (fun b => IsI (tot b))
theorem ok_total (T : Fx K mg) : Glob P w K mg base 1 "total" (He.ga K "total") ["bag"] Sp_total := by
  refine mkG T.f_total T.g_total sc_total (fun _ => rfl) (fun _ _ _ _ _ _ us hl => match us, hl with | [_], _ => rfl) fun cdv A outer s H E hr => ?_
  have nd := sc_total.nd
  refine ⟨_, (pss_one (ps_ret (pe_callB (cr_sum rfl) (by rfl) T.n_sum (by decide +kernel) (pa_cons (pe_lc (own := [("number", 1), ("count", 2)]) (g := gTup K 2 (gCons (gName 1) (gCons (gName 2) gNil))) (tt := tYes) rfl nd (pi_tup (pv 0)) (blkOk_by (N := N_total) (sc := defScope st_total) (by decide +kernel)) (fun _ _ _ _ _ => (pg_tup rfl (pgs_cons (pg_name (i := 1) nd rfl (Or.inl rfl)) (pgs_cons (pg_name (i := 2) nd rfl (Or.inl rfl)) pgs_nil)))) (fun _ _ _ _ _ => pts_nil) (fun _ _ _ _ _ => (pv 2))) pa_nil)))), ?_⟩
  rintro b vs Q - ⟨v, _, rfl, hv, rfl⟩ q
  refine s_ret (P := IsI (tot b)) ?_ fun v H1 e p => q v H1 e p
  refine ev_sum (xs := b) (f := fun e => e.2) ?_
  refine EvP.imp (ev_lcT2 (xs := b) (P1 := fun e => IsI e.1) (P2 := fun e => IsI e.2) (fun _ => true) (fun e => IsI e.2) (ev_var rfl (BagP.tup hv)) (Nat.lt_of_le_of_lt hv.1 (by decide)) (fun _ _ => rfl) (fun _ _ _ _ _ _ _ _ => et_yes) fun e _ v1 v2 H1 _ _ h2 _ => ev_var rfl h2) fun v H1 _ p => ?_
  rw [List.filter_eq_self.mpr fun _ _ => rfl] at p
  exact NewL.lst p
abbrev N_level : List Str := ["bag", "number", "one", "count"]
theorem sc_level : FnScope N_level ["bag", "number"] (defScope st_level) := ⟨rfl, rfl, rfl, by decide +kernel, rfl, by decide +kernel, by decide +kernel⟩
abbrev Sp_level : Sp := SpG (γ := Bag × Int) (fun g => [BagP g.1, IsI g.2]) (fun _ => True) (fun g => IsI (lev g.1 g.2))
theorem ok_level (T : Fx K mg) : Glob P w K mg base 1 "level" (He.ga K "level") ["bag", "number"] Sp_level := by
  refine mkG T.f_level T.g_level sc_level (fun _ => rfl) (fun _ _ _ _ _ _ us hl => match us, hl with | [_, _], _ => rfl) fun cdv A outer s H E hr => ?_
  have nd := sc_level.nd
  refine ⟨_, (pss_one (ps_ret (pe_callB (cr_sum rfl) (by rfl) T.n_sum (by decide +kernel) (pa_cons (pe_lc (own := [("one", 2), ("count", 3)]) (g := gTup K 2 (gCons (gName 2) (gCons (gName 3) gNil))) rfl nd (pi_tup (pv 0)) (blkOk_by (N := N_level) (sc := defScope st_level) (by decide +kernel)) (fun _ _ _ _ _ => (pg_tup rfl (pgs_cons (pg_name (i := 2) nd rfl (Or.inl rfl)) (pgs_cons (pg_name (i := 3) nd rfl (Or.inl rfl)) pgs_nil)))) (fun _ _ _ _ _ => (pts_one (pt_cmpR op_le (pv 2) (pv 1) (nomark _)))) (fun _ _ _ _ _ => (pv 3))) pa_nil)))), ?_⟩
  rintro ⟨b, x⟩ vs Q - ⟨v, _, rfl, hv, v', _, rfl, hv', rfl⟩ q
  refine s_ret (P := IsI (lev b x)) ?_ fun v H1 e p => q v H1 e p
  refine ev_sum (xs := b.filter fun e => decide (e.1 ≤ x)) (f := fun e => e.2) ?_
  refine EvP.imp (ev_lcT2 (xs := b) (P1 := fun e => IsI e.1) (P2 := fun e => IsI e.2) (fun e => decide (e.1 ≤ x)) (fun e => IsI e.2) (ev_var rfl (BagP.tup hv)) (Nat.lt_of_le_of_lt hv.1 (by decide)) (fun _ _ => rfl) (fun e _ v1 v2 H1 _ h1 _ => ?_) fun e _ v1 v2 H1 _ _ h2 _ => ev_var rfl h2) fun v H1 _ p => NewL.lst p
  exact et_test (ev_I0 (ev_var rfl h1) (ev_var (P := IsI x) rfl hv'))
end
end K79
end
section
set_option Elab.async false
set_option linter.all false
set_option maxRecDepth 100000
set_option maxHeartbeats 4000000
namespace K79
open PySem PySem.Spec L2
section
variable {P : Program} {w : World} {K : PySem.W.Frag} {mg : Str → Option Value} {base : Heap}
/-! ### is_bag -/
abbrev N_is_bag : List Str := ["value", "numbers", "entry", "number", "count"]
theorem sc_is_bag : FnScope N_is_bag ["value"] (defScope st_is_bag) := ⟨rfl, rfl, rfl, by decide +kernel, rfl, by decide +kernel, by decide +kernel⟩
abbrev Sp_is_bag : Sp := SpG (γ := Bag) (fun b => [BagP b]) (fun b => IsBag b) (fun _ => IsB true)
theorem ok_is_bag (T : Fx K mg) : Glob P w K mg base 2 "is_bag" (He.ga K "is_bag") ["value"] Sp_is_bag := by
  have G_is_integer := ok_is_integer (P := P) (w := w) (base := base) T
  refine mkG T.f_is_bag T.g_is_bag sc_is_bag (fun _ => rfl) (fun _ _ _ _ _ _ us hl => match us, hl with | [_], _ => rfl) fun cdv A outer s H E hr => ?_
  have nd := sc_is_bag.nd
  refine ⟨_, (pss_cons (ps_if (pt_not (pt_val (pe_callB call_isi (by rfl) T.n_isinstance (by decide +kernel) (pa_cons (pv 0) (pa_cons (pe_bltn (v := .ty "tuple") (by rfl) T.n_tuple (by decide +kernel) rfl) pa_nil))))) (pss_one (ps_ret pe_bl)) pss_nil)
    (pss_cons (ps_set (i := 1) nd rfl (Or.inl rfl) (pe_lst pa_nil))
    (pss_cons (ps_for PassesOwn.never rfl (pi_tup (pv 0)) (pg_name (i := 2) nd rfl (Or.inl rfl)) (pss_cons (ps_if (PW.pt (pw_or (pt_not (pt_val (pe_callB call_isi (by rfl) T.n_isinstance (by decide +kernel) (pa_cons (pv 2) (pa_cons (pe_bltn (v := .ty "tuple") (by rfl) T.n_tuple (by decide +kernel) rfl) pa_nil))))) (pw_or1 (pt_cmpR op_ne (pe_callB call_len_seq (by rfl) T.n_len (by decide +kernel) (pa_cons (pv 2) pa_nil)) pe_int (nomark _))))) (pss_one (ps_ret pe_bl)) pss_nil)
    (pss_cons (ps_asg (pv 2) (pg_tup rfl (pgs_cons (pg_name (i := 3) nd rfl (Or.inl rfl)) (pgs_cons (pg_name (i := 4) nd rfl (Or.inl rfl)) pgs_nil))))
    (pss_cons (ps_if (PW.pt (pw_or (pt_not (pt_val (pe_callG G_is_integer (hr.mono (by decide)) (pa_cons (pv 3) pa_nil)))) (pw_or (pt_not (pt_val (pe_callG G_is_integer (hr.mono (by decide)) (pa_cons (pv 4) pa_nil)))) (pw_or1 (pt_cmpR op_lt (pv 4) pe_int (nomark _)))))) (pss_one (ps_ret pe_bl)) pss_nil)
    (pss_cons (ps_if (PW.pt (pw_and (pt_cmpR (op_neD hr.units) (pv 1) (pe_lst pa_nil) (nomark _)) (pw_and1 (pt_cmpR op_le (pv 3) (pe_ix ix_list (pv 1) (pe_un un_neg pe_int) (fun _ _ => rfl)) (nomark _))))) (pss_one (ps_ret pe_bl)) pss_nil)
    (pss_one (ps_expr (pe_bm PySem.F.plainAttrs_list PySem.F.slot_list_append PySem.F.type_list_append mt_append (pv 1) (pa_cons (pv 3) pa_nil)))))))))
    (pss_one (ps_ret pe_bl))))), ?_⟩
  rintro b vs Q hb ⟨v, _, rfl, hv, rfl⟩ q
  refine q_no (et_not (a := true) (et_B (ev_isi (ev_var rfl hv) tyBag (.ty "tuple") (kit_ty (by decide +kernel))))) fun H1 e1 => ?_
  refine q_asg (ev_lst ea_nil (by decide)) fun v1 H2 e2 p2 => ?_
  obtain ⟨l, ys, rfl, nl, hl, hys⟩ := p2
  have hys : ys = [] := hys
  subst hys
  have e12 := e1.trans e2
  refine q_forT (H0 := H) (Ps := b.map entP) (ev_v rfl) (BagP.tup hv) (fun i σ' H' => ∃ x2 x3 x4, σ' = [some v, some (.ref l), x2, x3, x4] ∧ Same H H' ∧ H' l = some (.lst (((b.take i).map (·.1)).map V.int)))
    (fun H3 e3 => ⟨none, none, none, rfl, e12.trans e3, e3 _ _ hl⟩) (fun i σ' H' ⟨_, _, _, _, e, _⟩ => e) ?_ ?_
  · rintro i P' y σ' H' hi hy ⟨x2, x3, x4, rfl, eH, hL⟩
    rw [List.getElem?_map] at hi
    obtain ⟨e, he, rfl⟩ := Option.map_eq_some_iff.mp hi
    have hlt : i < b.length := (List.getElem?_eq_some_iff.mp he).1
    have hem := List.mem_of_getElem? he
    have hc := hb.2 e hem
    have hn0 : H l = none := free_back e1 nl
    show tSeq _ _ _ [some v, some (.ref l), some y, x3, x4] H'
    refine q_no (et_or (a := false) (b := false) (et_not (a := true) (et_B (ev_isi (ev_var rfl hy) tyTup (.ty "tuple") (kit_ty (by decide +kernel))))) fun _ => et_test (ev_ne (ev_lenT (ev_var rfl hy) rfl) ev_c rfl)) fun H4 e4 => ?_
    refine q_unpair (ev_var rfl ((entP e).kp e4 hy)) fun v1 v2 H5 e5 h1 h2 => ?_
    have h1 : v1 = .int e.1 := h1
    have h2 : v2 = .int e.2 := h2
    subst h1 h2
    refine q_no (et_or (a := false) (b := false) (et_not (a := true) (et_B (ev_call e.1 trivial (ea1 (ev_v rfl))))) fun _ => et_or (a := false) (b := false) (et_not (a := true) (et_B (ev_call e.2 trivial (ea1 (ev_v rfl))))) fun _ => et_test (ev_i (ev_v rfl) ev_c (by rw [decide_eq_false (by omega)]))) fun H6 e6 => ?_
    have e46 := (e4.trans e5).trans e6
    have hL6 := e46 _ _ hL
    refine q_no ?_ fun H7 e7 => ?_
    · have hd : ∀ (σ : St) (h : σ[1]? = some (some (.ref l))), EvT (tTest (tOp (rNeD K) (tVar 1) (tLst tNil))) σ H6 (!((b.take i).map (·.1)).isEmpty) := fun σ h => et_test (ev_neD (P := LstP (((b.take i).map (·.1)).map IsI)) (Q := LstP (([] : List Int).map IsI)) (ev_var h ⟨l, _, rfl, hL6, AllP.of_is⟩) (ev_lst' ea_nil (by decide)) (dp_lst (Ps := [])) (dp_lst (Ps := [])) (sh_ints _) (sh_ints _) (by rw [eqv_nil]))
      by_cases hz : i = 0
      · subst hz
        exact EvT.is (et_and (b := true) (hd _ rfl) fun z => by simp at z) (by simp)
      · have hlast : ((b.take i).map (·.1)) = ((b.take (i - 1)).map (·.1)) ++ [(b[i - 1]'(by omega)).1] := by
          have : b.take i = b.take (i - 1) ++ [b[i - 1]'(by omega)] := by
            conv => lhs; rw [show i = (i - 1) + 1 by omega]
            rw [List.take_succ, List.getElem?_eq_getElem (by omega)] <;> rfl
          rw [this, List.map_append] <;> rfl
        have hlt2 : (b[i - 1]'(by omega)).1 < e.1 := by
          have hp := List.pairwise_iff_getElem.mp hb.1 (i - 1) i (by omega) hlt (by omega)
          have : b[i] = e := (List.getElem?_eq_some_iff.mp he).2
          rw [this] at hp
          exact hp
        refine EvT.is (et_and (b := false) (hd _ rfl) fun _ => et_test ?_) (by simp)
        refine ev_i (i := e.1) (j := (b[i - 1]'(by omega)).1) (ev_v rfl) ?_ (by rw [decide_eq_false (by omega)])
        refine ev_opP (P := IsV (.ref l)) (Q := IsI (-1)) (ev_v rfl) (ev_neg ev_c rfl) fun x y H8 e8 (hx : x = _) (hy : y = _) k q => ?_
        subst hx hy
        refine ⟨l, _, -1, .int (b[i - 1]'(by omega)).1, rfl, rfl, SqL.of (e8 _ _ hL6), ?_, q _ _ (Same.refl _) rfl⟩
        rw [hlast, List.map_append]
        exact atI_last _ _
    · refine s_app (e7 _ _ hL6) (ev_v rfl) (ev_v rfl) (by rw [List.length_map, List.length_map, List.length_take]; have := hv.1; omega) fun v8 H8 e8 (p8 : v8 = _) => ?_
      subst p8
      refine ⟨_, _, _, rfl, Same.chg (((eH.trans e46).trans e7).trans e8) hn0, ?_⟩
      rw [upd_same]
      congr 2
      rw [List.take_succ, he] <;> simp
  · rintro σ' H' ⟨x2, x3, x4, rfl, eH, hL⟩
    exact s_ret (P := IsB true) ev_c fun v H1 e p => q v H1 (eH.trans e) p
/-! ### check_count, check_bag -/
abbrev N_check_count : List Str := ["value"]
theorem sc_check_count : FnScope N_check_count ["value"] (defScope st_check_count) := ⟨rfl, rfl, rfl, by decide +kernel, rfl, by decide +kernel, by decide +kernel⟩
abbrev Sp_check_count : Sp := SpG (γ := Int) (fun i => [IsI i]) (fun i => 0 ≤ i) (fun _ => IsV .non)
theorem ok_check_count (T : Fx K mg) : Glob P w K mg base 3 "check_count" (He.ga K "check_count") ["value"] Sp_check_count := by
  have G_is_count := ok_is_count (P := P) (w := w) (base := base) T
  refine mkG T.f_check_count T.g_check_count sc_check_count (fun _ => rfl) (fun _ _ _ _ _ _ us hl => match us, hl with | [_], _ => rfl) fun cdv A outer s H E hr => ?_
  have nd := sc_check_count.nd
  refine ⟨_, (pss_one (ps_if (pt_not (pt_val (pe_callG G_is_count (hr.mono (by decide)) (pa_cons (pv 0) pa_nil)))) pss_never pss_nil)), ?_⟩
  rintro i vs Q hc ⟨v, _, rfl, hv, rfl⟩ q
  exact s_no (et_not (a := true) (et_B (ev_call i hc (ea1 (ev_var rfl hv))))) fun H1 e1 => q _ H1 e1 rfl
abbrev N_check_bag : List Str := ["value"]
theorem sc_check_bag : FnScope N_check_bag ["value"] (defScope st_check_bag) := ⟨rfl, rfl, rfl, by decide +kernel, rfl, by decide +kernel, by decide +kernel⟩
abbrev Sp_check_bag : Sp := SpG (γ := Bag) (fun b => [BagP b]) (fun b => IsBag b) (fun _ => IsV .non)
theorem ok_check_bag (T : Fx K mg) : Glob P w K mg base 3 "check_bag" (He.ga K "check_bag") ["value"] Sp_check_bag := by
  have G_is_bag := ok_is_bag (P := P) (w := w) (base := base) T
  refine mkG T.f_check_bag T.g_check_bag sc_check_bag (fun _ => rfl) (fun _ _ _ _ _ _ us hl => match us, hl with | [_], _ => rfl) fun cdv A outer s H E hr => ?_
  have nd := sc_check_bag.nd
  refine ⟨_, (pss_one (ps_if (pt_not (pt_val (pe_callG G_is_bag (hr.mono (by decide)) (pa_cons (pv 0) pa_nil)))) pss_never pss_nil)), ?_⟩
  rintro i vs Q hc ⟨v, _, rfl, hv, rfl⟩ q
  exact s_no (et_not (a := true) (et_B (ev_call i hc (ea1 (ev_var rfl hv))))) fun H1 e1 => q _ H1 e1 rfl
/-! ### from_counts -/
abbrev N_from_counts : List Str := ["counts", "number", "count"]
theorem sc_from_counts : FnScope N_from_counts ["counts"] (defScope st_from_counts) := ⟨rfl, rfl, rfl, by decide +kernel, rfl, by decide +kernel, by decide +kernel⟩
abbrev Sp_from_counts : Sp := SpG (γ := Bag) (fun L => [DctP L]) (fun L => Dist L ∧ L.length ≤ 1000) (fun L => BagP (nf L))
theorem filt_cnt {L : Bag} (hd : Dist L) (m : Int) : cnt (L.filter fun e => decide (0 < e.2)) m = if 0 < cnt L m then cnt L m else 0 := by
  induction L with
  | nil => rfl
  | cons e r ih =>
    obtain ⟨h1, h2⟩ := dist_cons.mp hd
    have ih := ih h2
    have nr : e.1 = m → cnt r m = 0 := fun z => cnt_none fun p hp => by have := h1 p hp; omega
    by_cases hp : 0 < e.2
    · rw [List.filter_cons_of_pos (by simpa using hp), cnt_cons, cnt_cons, ih]
      by_cases z : e.1 = m
      · simp [z, nr z, hp]
      · simp [z]
    · rw [List.filter_cons_of_neg (by simpa using hp), cnt_cons, ih]
      by_cases z : e.1 = m
      · simp [z, nr z]; omega
      · simp [z]
theorem nf_filt {L : Bag} (hd : Dist L) : nf (L.filter fun e => decide (0 < e.2)) = nf L := nf_eq (nf_bag _) fun m => by
  rw [nf_cnt, filt_cnt hd]
  split <;> simp_all
theorem dist_filt {L : Bag} (hd : Dist L) (f : Int × Int → Bool) : Dist (L.filter f) := by
  unfold Dist at hd ⊢
  exact hd.sublist (List.filter_sublist.map _)
theorem ok_from_counts (T : Fx K mg) : Glob P w K mg base 1 "from_counts" (He.ga K "from_counts") ["counts"] Sp_from_counts := by
  refine mkG T.f_from_counts T.g_from_counts sc_from_counts (fun _ => rfl) (fun _ _ _ _ _ _ us hl => match us, hl with | [_], _ => rfl) fun cdv A outer s H E hr => ?_
  have nd := sc_from_counts.nd
  refine ⟨_, (pss_one (ps_ret (pe_callTy call_tupleF (by rfl) T.n_tuple (by decide +kernel) (pa_cons (pe_callB cr_sortedPO (by rfl) T.n_sorted (by decide +kernel) (pa_cons (pe_lock (pe_lc (own := [("number", 1), ("count", 2)]) (g := gTup K 2 (gCons (gName 1) (gCons (gName 2) gNil))) rfl nd (pi_items (pv 0)) (blkOk_by (N := N_from_counts) (sc := defScope st_from_counts) (by decide +kernel)) (fun _ _ _ _ _ => (pg_tup rfl (pgs_cons (pg_name (i := 1) nd rfl (Or.inl rfl)) (pgs_cons (pg_name (i := 2) nd rfl (Or.inl rfl)) pgs_nil)))) (fun _ _ _ _ _ => (pts_one (pt_cmpR op_gt (pv 2) pe_int (nomark _)))) (fun _ _ _ _ _ => (pe_tup (pa_cons (pv 1) (pa_cons (pv 2) pa_nil)))))) pa_nil)) pa_nil)))), ?_⟩
  rintro L vs Q ⟨hd, hlen⟩ ⟨v, _, rfl, ⟨d, rfl, hdd⟩, rfl⟩ q
  refine s_ret (P := SolP ((nf L).map entP)) ?_ fun v H1 e p => q v H1 e ⟨Nat.le_trans (nf_len L) hlen, p⟩
  refine ev_tupleF ?_
  rw [← nf_filt hd]
  refine ev_sortP (L := L.filter fun e => decide (0 < e.2)) ?_ (dist_filt hd _) (fun p hp => by have := (List.mem_filter.mp hp).2; simp at this; omega)
  refine EvP.imp (ev_lock hdd (Ps := (L.filter fun e => decide (0 < e.2)).map entD) (fun P hP => by obtain ⟨x, _, rfl⟩ := List.mem_map.mp hP; infer_instance) fun od H1 sm h1 => ?_) fun v H1 _ p => NewL.lst p
  refine ev_lcI (fun e => decide (0 < e.2)) entD h1 (ev_v rfl) (Nat.lt_of_le_of_lt hlen (by decide)) (fun _ _ => rfl) (fun e _ H2 _ => ?_) (fun e _ H2 _ _ => ?_)
  · exact et_test (ev_I0 (ev_v rfl) ev_c)
  · exact ev_tupD (ea2 (ev_v rfl) (ev_v rfl)) (by simp)
/-! ### add, subtract -/
abbrev N_add : List Str := ["first", "second", "counts", "number", "count"]
theorem sc_add : FnScope N_add ["first", "second"] (defScope st_add) := ⟨rfl, rfl, rfl, by decide +kernel, rfl, by decide +kernel, by decide +kernel⟩
abbrev Sp_add : Sp := SpG (γ := Bag × Bag) (fun g => [BagP g.1, BagP g.2]) (fun g => IsBag g.1 ∧ IsBag g.2 ∧ g.1.length + g.2.length ≤ 1000) (fun g => BagP (addB g.1 g.2))
theorem ok_add (T : Fx K mg) : Glob P w K mg base 2 "add" (He.ga K "add") ["first", "second"] Sp_add := by
  have G_from_counts := ok_from_counts (P := P) (w := w) (base := base) T
  refine mkG T.f_add T.g_add sc_add (fun _ => rfl) (fun _ _ _ _ _ _ us hl => match us, hl with | [_, _], _ => rfl) fun cdv A outer s H E hr => ?_
  have nd := sc_add.nd
  refine ⟨_, (pss_cons (ps_set (i := 2) nd rfl (Or.inl rfl) (pe_callTy (call_dictT rfl) (by rfl) T.n_dict (by decide +kernel) (pa_cons (pv 0) pa_nil)))
    (pss_cons (ps_for PassesOwn.never rfl (pi_tup (pv 1)) (pg_tup rfl (pgs_cons (pg_name (i := 3) nd rfl (Or.inl rfl)) (pgs_cons (pg_name (i := 4) nd rfl (Or.inl rfl)) pgs_nil))) (pss_one (ps_dput (hu_of hr) (pv 2) (pv 3) (pe_op op_add (pe_dget2 (hu_of hr) (pv 2) (pv 3) pe_int ⟨rfl, rfl, rfl, rfl⟩) (pv 4)) rfl)))
    (pss_one (ps_ret (pe_callG G_from_counts (hr.mono (by decide)) (pa_cons (pv 2) pa_nil)))))), ?_⟩
  rintro ⟨a, b⟩ vs Q ⟨ha, hb, hlen⟩ ⟨v1, _, rfl, h1, v2, _, rfl, h2, rfl⟩ q
  refine q_asg (ev_dictT (ev_var rfl h1) ha.dist) fun vd H1 e1 hd => ?_
  obtain ⟨d, rfl, nd0, hdd⟩ := hd
  refine q_forT (H0 := H) (Ps := b.map entP) (ev_v rfl) (BagP.tup h2) (fun i σ' H' => ∃ x3 x4 L, σ' = [some v1, some v2, some (.ref d), x3, x4] ∧ Same H H' ∧ H' d = some (.dK (dictOf L)) ∧ Dist L ∧ L.length ≤ a.length + i ∧ ∀ m, cnt L m = cnt a m + cnt (b.take i) m)
    (fun H2 e2 => ⟨none, none, a, rfl, e1.trans e2, e2 _ _ hdd, ha.dist, by omega, fun m => by simp [cnt_nil]⟩) (fun i σ' H' ⟨_, _, _, _, e, _⟩ => e) ?_ ?_
  · rintro i P' y σ' H' hi hy ⟨x3, x4, L, rfl, eH, hL, dL, lL, cL⟩
    rw [List.getElem?_map] at hi
    obtain ⟨e, he, rfl⟩ := Option.map_eq_some_iff.mp hi
    have hlt : i < b.length := (List.getElem?_eq_some_iff.mp he).1
    refine g_pair hy fun w1 w2 k1 k2 => ?_
    have k1 : w1 = .int e.1 := k1
    have k2 : w2 = .int e.2 := k2
    subst k1 k2
    have hlen' : a.length + b.length ≤ 1000 := hlen
    refine s_put (L := L) (n := e.1) (x := (getL L e.1).getD 0 + e.2) hL dL (by omega) (ev_i (ev_get hL (ev_v rfl) (ev_v rfl) ev_c) (ev_v rfl) rfl) (ev_v rfl) (ev_v rfl) fun H3 e3 => ?_
    refine ⟨_, _, putL L e.1 ((getL L e.1).getD 0 + e.2), rfl, Same.chg (eH.trans e3) nd0, upd_same, putL_dist dL, by have := putL_len L e.1 ((getL L e.1).getD 0 + e.2); omega, fun m => ?_⟩
    rw [putL_cnt dL, List.take_succ, he, getL_cnt dL]
    show _ = cnt a m + cnt (b.take i ++ [e]) m
    rw [cnt_append, cnt_cons, cnt_nil, cL, cL]
    by_cases z : m = e.1
    · subst z; simp; omega
    · rw [if_neg z, if_neg (fun k => z k.symm)]; omega
  · rintro σ' H' ⟨x3, x4, L, rfl, eH, hL, dL, lL, cL⟩
    rw [List.length_map] at lL cL
    rw [List.take_of_length_le (Nat.le_refl _)] at cL
    have hlen' : a.length + b.length ≤ 1000 := hlen
    refine s_ret (P := BagP (nf L)) (ev_call L ⟨dL, by omega⟩ (ea1 (ev_var rfl ⟨d, rfl, hL⟩))) fun v H1 e p => q v H1 (eH.trans e) ?_
    have : nf L = addB a b := nf_eq (nf_bag L) fun m => by rw [nf_cnt, cL, cnt_append]
    show (BagP (addB a b)).h v H1
    rw [← this]
    exact p
abbrev N_subtract : List Str := ["bag", "other", "counts", "number", "count"]
theorem sc_subtract : FnScope N_subtract ["bag", "other"] (defScope st_subtract) := ⟨rfl, rfl, rfl, by decide +kernel, rfl, by decide +kernel, by decide +kernel⟩
abbrev Sp_subtract : Sp := SpG (γ := Bag × Bag) (fun g => [BagP g.1, BagP g.2]) (fun g => IsBag g.1 ∧ IsBag g.2 ∧ Has g.1 g.2 ∧ g.1.length + g.2.length ≤ 1000) (fun g => BagP (subB g.1 g.2))
theorem mem_cnt {L : Bag} (h : Dist L) {e : Int × Int} (he : e ∈ L) : cnt L e.1 = e.2 := by
  induction L with
  | nil => cases he
  | cons x r ih =>
    obtain ⟨h1, h2⟩ := dist_cons.mp h
    rw [cnt_cons]
    rcases List.mem_cons.mp he with z | z
    · subst z
      rw [if_pos rfl, cnt_none h1]
      omega
    · rw [if_neg (fun k => h1 e z k.symm), ih h2 z]
      omega
theorem ok_subtract (T : Fx K mg) : Glob P w K mg base 2 "subtract" (He.ga K "subtract") ["bag", "other"] Sp_subtract := by
  have G_from_counts := ok_from_counts (P := P) (w := w) (base := base) T
  refine mkG T.f_subtract T.g_subtract sc_subtract (fun _ => rfl) (fun _ _ _ _ _ _ us hl => match us, hl with | [_, _], _ => rfl) fun cdv A outer s H E hr => ?_
  have nd := sc_subtract.nd
  refine ⟨_, (pss_cons (ps_set (i := 2) nd rfl (Or.inl rfl) (pe_callTy (call_dictT rfl) (by rfl) T.n_dict (by decide +kernel) (pa_cons (pv 0) pa_nil)))
    (pss_cons (ps_for PassesOwn.never rfl (pi_tup (pv 1)) (pg_tup rfl (pgs_cons (pg_name (i := 3) nd rfl (Or.inl rfl)) (pgs_cons (pg_name (i := 4) nd rfl (Or.inl rfl)) pgs_nil))) (pss_one (ps_dput (hu_of hr) (pv 2) (pv 3) (pe_op op_sub (pe_dget2 (hu_of hr) (pv 2) (pv 3) pe_int ⟨rfl, rfl, rfl, rfl⟩) (pv 4)) rfl)))
    (pss_one (ps_ret (pe_ifExp (pt_val (pe_callB (cr_any rfl) (by rfl) T.n_any (by decide +kernel) (pa_cons (pe_lock (pe_lc (own := [("count", 4)]) (g := gName 4) (tt := tYes) rfl nd (pi_values (pv 2)) (blkOk_by (N := N_subtract) (sc := defScope st_subtract) (by decide +kernel)) (fun _ _ _ _ _ => (pg_name (i := 4) nd rfl (Or.inl rfl))) (fun _ _ _ _ _ => pts_nil) (fun _ _ _ _ _ => (pe_cmpR op_lt (pv 4) pe_int (nomark _))))) pa_nil))) pe_non (pe_callG G_from_counts (hr.mono (by decide)) (pa_cons (pv 2) pa_nil))))))), ?_⟩
  rintro ⟨a, b⟩ vs Q ⟨ha, hb, hs, hlen⟩ ⟨v1, _, rfl, h1, v2, _, rfl, h2, rfl⟩ q
  refine q_asg (ev_dictT (ev_var rfl h1) ha.dist) fun vd H1 e1 hd => ?_
  obtain ⟨d, rfl, nd0, hdd⟩ := hd
  refine q_forT (H0 := H) (Ps := b.map entP) (ev_v rfl) (BagP.tup h2) (fun i σ' H' => ∃ x3 x4 L, σ' = [some v1, some v2, some (.ref d), x3, x4] ∧ Same H H' ∧ H' d = some (.dK (dictOf L)) ∧ Dist L ∧ L.length ≤ a.length + i ∧ ∀ m, cnt L m = cnt a m - cnt (b.take i) m)
    (fun H2 e2 => ⟨none, none, a, rfl, e1.trans e2, e2 _ _ hdd, ha.dist, by omega, fun m => by simp [cnt_nil]⟩) (fun i σ' H' ⟨_, _, _, _, e, _⟩ => e) ?_ ?_
  · rintro i P' y σ' H' hi hy ⟨x3, x4, L, rfl, eH, hL, dL, lL, cL⟩
    rw [List.getElem?_map] at hi
    obtain ⟨e, he, rfl⟩ := Option.map_eq_some_iff.mp hi
    have hlt : i < b.length := (List.getElem?_eq_some_iff.mp he).1
    refine g_pair hy fun w1 w2 k1 k2 => ?_
    have k1 : w1 = .int e.1 := k1
    have k2 : w2 = .int e.2 := k2
    subst k1 k2
    have hlen' : a.length + b.length ≤ 1000 := hlen
    refine s_put (L := L) (n := e.1) (x := (getL L e.1).getD 0 - e.2) hL dL (by omega) (ev_i (ev_get hL (ev_v rfl) (ev_v rfl) ev_c) (ev_v rfl) rfl) (ev_v rfl) (ev_v rfl) fun H3 e3 => ?_
    refine ⟨_, _, putL L e.1 ((getL L e.1).getD 0 - e.2), rfl, Same.chg (eH.trans e3) nd0, upd_same, putL_dist dL, by have := putL_len L e.1 ((getL L e.1).getD 0 - e.2); omega, fun m => ?_⟩
    rw [putL_cnt dL, List.take_succ, he, getL_cnt dL]
    show _ = cnt a m - cnt (b.take i ++ [e]) m
    rw [cnt_append, cnt_cons, cnt_nil, cL, cL]
    by_cases z : m = e.1
    · subst z; simp; omega
    · rw [if_neg z, if_neg (fun k => z k.symm)]; omega
  · rintro σ' H' ⟨x3, x4, L, rfl, eH, hL, dL, lL, cL⟩
    rw [List.length_map] at lL cL
    rw [List.take_of_length_le (Nat.le_refl _)] at cL
    have hlen' : a.length + b.length ≤ 1000 := hlen
    have cL' : ∀ m, 0 ≤ cnt L m := fun m => by rw [cL]; have hs : cnt b m ≤ cnt a m := hs m; omega
    refine s_ret (P := BagP (nf L)) (ev_if (b := false) (et_B ?_) (fun z => by cases z) fun _ => ev_call L ⟨dL, by omega⟩ (ea1 (ev_var rfl ⟨d, rfl, hL⟩))) fun v H1 e p => q v H1 (eH.trans e) ?_
    · have hany : L.any (fun e => decide (e.2 < 0)) = false := List.any_eq_false.mpr fun e he => by
        have := cL' e.1
        rw [mem_cnt dL he] at this
        simp
        omega
      rw [← hany]
      refine ev_any (f := fun e : Int × Int => decide (e.2 < 0)) (xs := L) ?_
      refine EvP.imp (ev_lock hL (Ps := (L.filter fun _ => true).map fun e => IsB (decide (e.2 < 0))) (fun P hP => by obtain ⟨x, _, rfl⟩ := List.mem_map.mp hP; infer_instance) fun od H1 sm h1 => ?_) fun v H1 _ p => ?_
      · exact ev_lcV (fun _ => true) (fun e => IsB (decide (e.2 < 0))) h1 (ev_v rfl) (by omega) (fun _ => rfl) (fun e _ H2 _ => et_yes) (fun e _ H2 _ _ => ev_I0 (ev_v rfl) ev_c)
      · rw [List.filter_eq_self.mpr fun _ _ => rfl] at p
        exact NewL.lst p
    · have : nf L = subB a b := nf_eq (nf_bag L) fun m => by rw [nf_cnt, cL, cnt_append, cnt_neg] <;> rfl
      show (BagP (subB a b)).h v H1
      rw [← this]
      exact p
/-! ### drop -/
abbrev N_drop : List Str := ["bag", "count", "left", "kept", "number", "many", "dropped"]
theorem sc_drop : FnScope N_drop ["bag", "count"] (defScope st_drop) := ⟨rfl, rfl, rfl, by decide +kernel, rfl, by decide +kernel, by decide +kernel⟩
abbrev Sp_drop : Sp := SpG (γ := Bag × Int) (fun g => [BagP g.1, IsI g.2]) (fun _ => True) (fun g => BagP (dropB g.1 g.2))
/-- what is left to drop behind the first entries -/
def leftB : Bag → Int → Int
  | [], k => k
  | e :: r, k => leftB r (k - min k e.2)
theorem leftB_snoc (e : Int × Int) : ∀ (b : Bag) (k : Int), leftB (b ++ [e]) k = leftB b k - min (leftB b k) e.2
  | [], k => rfl
  | x :: r, k => leftB_snoc e r _
theorem dropB_snoc (e : Int × Int) : ∀ (b : Bag) (k : Int), dropB (b ++ [e]) k = dropB b k ++ (if e.2 > min (leftB b k) e.2 then [(e.1, e.2 - min (leftB b k) e.2)] else [])
  | [], k => by
    simp only [dropB, leftB, List.nil_append]
    rfl
  | x :: r, k => by
    have ih := dropB_snoc e r (k - min k x.2)
    simp only [List.cons_append, dropB, leftB]
    rw [ih]
    split <;> rfl
theorem ok_drop (T : Fx K mg) : Glob P w K mg base 1 "drop" (He.ga K "drop") ["bag", "count"] Sp_drop := by
  refine mkG T.f_drop T.g_drop sc_drop (fun _ => rfl) (fun _ _ _ _ _ _ us hl => match us, hl with | [_, _], _ => rfl) fun cdv A outer s H E hr => ?_
  have nd := sc_drop.nd
  refine ⟨_, (pss_cons (ps_par (i := 2) (j := 3) (by rfl) nd rfl rfl (by decide) rfl rfl (pa_cons (pv 1) (pa_cons (pe_lst pa_nil) pa_nil)) (by rfl))
    (pss_cons (ps_for PassesOwn.never rfl (pi_tup (pv 0)) (pg_tup rfl (pgs_cons (pg_name (i := 4) nd rfl (Or.inl rfl)) (pgs_cons (pg_name (i := 5) nd rfl (Or.inl rfl)) pgs_nil))) (pss_cons (ps_set (i := 6) nd rfl (Or.inl rfl) (pe_callB (call_min2 rfl) (by rfl) T.n_min (by decide +kernel) (pa_cons (pv 2) (pa_cons (pv 5) pa_nil))))
    (pss_cons (ps_aug (i := 2) nd rfl (Or.inl rfl) (pv 6) ip_sub)
    (pss_one (ps_if (pt_cmpR op_gt (pv 5) (pv 6) (nomark _)) (pss_one (ps_expr (pe_bm PySem.F.plainAttrs_list PySem.F.slot_list_append PySem.F.type_list_append mt_append (pv 3) (pa_cons (pe_tup (pa_cons (pv 4) (pa_cons (pe_op op_sub (pv 5) (pv 6)) pa_nil))) pa_nil)))) pss_nil)))))
    (pss_one (ps_ret (pe_callTy call_tupleF (by rfl) T.n_tuple (by decide +kernel) (pa_cons (pv 3) pa_nil)))))), ?_⟩
  rintro ⟨b, k⟩ vs Q - ⟨v1, _, rfl, h1, v2, _, rfl, (h2 : v2 = _), rfl⟩ q
  subst h2
  refine q_par2 (ev_v rfl) (ev_lst ea_nil (by decide)) fun vk vl H1 e1 (hk : vk = _) hl => ?_
  subst hk
  obtain ⟨l, ys, rfl, nl, hl, hys⟩ := hl
  have hys : ys = [] := hys
  subst hys
  refine q_forT (H0 := H) (Ps := b.map entP) (ev_v rfl) (BagP.tup h1) (fun i σ' H' => ∃ x4 x5 x6 ys, σ' = [some v1, some (.int k), some (.int (leftB (b.take i) k)), some (.ref l), x4, x5, x6] ∧ Same H H' ∧ H' l = some (.lst ys) ∧ AllP ((dropB (b.take i) k).map entP) ys H')
    (fun H2 e2 => ⟨none, none, none, [], rfl, e1.trans e2, e2 _ _ hl, rfl⟩) (fun i σ' H' ⟨_, _, _, _, _, e, _⟩ => e) ?_ ?_
  · rintro i P' y σ' H' hi hy ⟨x4, x5, x6, ys, rfl, eH, hL, hys⟩
    rw [List.getElem?_map] at hi
    obtain ⟨e, he, rfl⟩ := Option.map_eq_some_iff.mp hi
    have hlt : i < b.length := (List.getElem?_eq_some_iff.mp he).1
    have hb1 : b.length ≤ 1000 := h1.1
    have htk : b.take (i + 1) = b.take i ++ [e] := by rw [List.take_succ, he] <;> rfl
    refine g_pair hy fun w1 w2 k1 k2 => ?_
    have k1 : w1 = .int e.1 := k1
    have k2 : w2 = .int e.2 := k2
    subst k1 k2
    refine q_asg (ev_min2 (ev_v rfl) (ev_v rfl) rfl) fun v6 H2 e2 (p6 : v6 = _) => ?_
    subst p6
    refine q_aug (a := leftB (b.take i) k) (b := min (leftB (b.take i) k) e.2) rfl (ev_v rfl) fun H3 e3 => ?_
    have hl3 : (dropB (b.take i) k).length ≤ 1000 := Nat.le_trans (dropB_len _ _) (by rw [List.length_take]; omega)
    refine s_if (b := decide (min (leftB (b.take i) k) e.2 < e.2)) (et_test (ev_I0 (ev_v rfl) (ev_v rfl))) (fun z H4 e4 => ?_) (fun z H4 e4 => ?_)
    · have z := of_decide_eq_true z
      have e24 := (e2.trans e3).trans e4
      refine s_app (e24 _ _ hL) (ev_v rfl) (ev_tup (Ps := [IsI e.1, IsI (e.2 - min (leftB (b.take i) k) e.2)]) (ea2 (ev_v rfl) (ev_i (ev_v rfl) (ev_v rfl) rfl)) (by simp)) (by rw [hys.len, List.length_map]; omega) fun v8 H8 e8 p8 => ?_
      have sm : Sim H8 (upd H8 l (.lst (ys ++ [v8]))) := Sim.lst (e8 _ _ (e24 _ _ hL))
      refine ⟨_, _, _, ys ++ [v8], by rw [htk, leftB_snoc] <;> rfl, Same.chg ((eH.trans e24).trans e8) (free_back (Same.refl H) nl), upd_same, ?_⟩
      rw [htk, dropB_snoc, if_pos (by omega), List.map_append]
      exact AllP.snoc (AllP.fx (fun P hP => by obtain ⟨x, _, rfl⟩ := List.mem_map.mp hP; infer_instance) sm (AllP.kp (e24.trans e8) hys)) ((inferInstance : Fixd (entP (e.1, e.2 - min (leftB (b.take i) k) e.2))).fx sm p8)
    · have z := of_decide_eq_false z
      have e24 := (e2.trans e3).trans e4
      refine ⟨_, _, _, ys, by rw [htk, leftB_snoc] <;> rfl, eH.trans e24, e24 _ _ hL, ?_⟩
      rw [htk, dropB_snoc, if_neg (by omega), List.append_nil]
      exact AllP.kp e24 hys
  · rintro σ' H' ⟨x4, x5, x6, ys, rfl, eH, hL, hys⟩
    rw [List.length_map, List.take_of_length_le (Nat.le_refl _)] at hys
    refine s_ret (P := SolP ((dropB b k).map entP)) (ev_tupleF (ev_var rfl ⟨l, ys, rfl, hL, hys⟩)) fun v H1 e p => q v H1 (eH.trans e) ⟨Nat.le_trans (dropB_len _ _) h1.1, p⟩
/-! ### find_fault -/
abbrev N_find_fault : List Str := ["inserted", "removals", "survivors", "consumed"]
theorem sc_find_fault : FnScope N_find_fault ["inserted", "removals", "survivors"] (defScope st_find_fault) := ⟨rfl, rfl, rfl, by decide +kernel, rfl, by decide +kernel, by decide +kernel⟩
abbrev Sp_find_fault : Sp := SpG (γ := Bag × Int × Bag) (fun g => [BagP g.1, IsI g.2.1, BagP g.2.2]) (fun g => IsBag g.1 ∧ IsBag g.2.2 ∧ Has g.1 g.2.2 ∧ g.1.length + g.2.2.length ≤ 1000 ∧ tot g.1 - tot g.2.2 ≤ g.2.1) (fun _ => IsV .non)
theorem ok_find_fault (T : Fx K mg) : Glob P w K mg base 3 "find_fault" (He.ga K "find_fault") ["inserted", "removals", "survivors"] Sp_find_fault := by
  have G_subtract := ok_subtract (P := P) (w := w) (base := base) T
  have G_total := ok_total (P := P) (w := w) (base := base) T
  refine mkG T.f_find_fault T.g_find_fault sc_find_fault (fun _ => rfl) (fun _ _ _ _ _ _ us hl => match us, hl with | [_, _, _], _ => rfl) fun cdv A outer s H E hr => ?_
  have nd := sc_find_fault.nd
  refine ⟨_, (pss_cons (ps_set (i := 3) nd rfl (Or.inl rfl) (pe_callG G_subtract (hr.mono (by decide)) (pa_cons (pv 0) (pa_cons (pv 2) pa_nil))))
    (pss_cons (ps_if (pt_cmpR op_isN (pv 3) pe_non (nomark _)) (pss_one (ps_ret pe_str)) pss_nil)
    (pss_one (ps_ret (pe_ifExp (pt_cmpR op_gt (pe_callG G_total (hr.mono (by decide)) (pa_cons (pv 3) pa_nil)) (pv 1) (nomark _)) pe_str pe_non))))), ?_⟩
  rintro ⟨a, r, b⟩ vs Q ⟨ha, hb, hs, hlen, ht⟩ ⟨v1, _, rfl, h1, v2, _, rfl, h2, v3, _, rfl, h3, rfl⟩ q
  refine q_asg (ev_call (a, b) ⟨ha, hb, hs, hlen⟩ (ea2 (ev_var rfl h1) (ev_var rfl h3))) fun v4 H1 e1 h4 => ?_
  refine q_no (et_test (ev_isNf (ev_var rfl h4) nn_bag rfl)) fun H2 e2 => ?_
  have h4 := (BagP _).kp e2 h4
  have e12 := e1.trans e2
  have h2 : v2 = .int r := h2
  subst h2
  refine s_ret (P := IsV .non) (ev_if (b := false) (et_test ?_) (fun z => by cases z) fun _ => ev_c) fun v H3 e3 p => q v H3 (e12.trans e3) p
  exact ev_i (i := tot (subB a b)) (j := r) (ev_call (subB a b) trivial (ea1 (ev_var rfl h4))) (ev_v rfl) (by rw [decide_eq_false]; have hs : Has a b := hs; rw [subB_tot hs]; have ht : tot a - tot b ≤ r := ht; omega)
end
end K79
end
section
set_option Elab.async false
set_option linter.all false
set_option maxRecDepth 100000
set_option maxHeartbeats 4000000
/-! Methods, properties, makers, the static method: rules over a promise, and their evaluation. -/
namespace K79
open PySem PySem.Spec L2
/-- a def that keeps a promise -/
structure GM (P : Program) (w : World) (K : PySem.W.Frag) (mg : Str → Option Value) (base : Heap) (k : Nat) (f : Addr) (ps : List Str) (sp : Sp) : Prop where
  ex : ∃ fd, FnOk P w K mg base CX0 k f fd ps sp ∧ Binds K fd ps []
section
variable {P : Program} {w : World} {K : PySem.W.Frag} {mg : Str → Option Value} {base : Heap} {k : Nat} {x qual : Str} {st : Stmt} {f : Addr} {N ps : List Str} {γ : Type} {Ps : γ → List Pr} {C : γ → Prop} {post : γ → Pr} {sp : Sp}
theorem mkS (F : ∃ fd, Fun K x qual st f fd) (S : FnScope N ps (defScope st)) (hl : ∀ vs H Q E, sp vs H Q E → vs.length = ps.length)
    (hb : ∀ (kV doc pm : Value) (an : Option Addr) (cdv ct : Value) (us : List Value), us.length = ps.length → bindArgs (PySem.W.fnOf x qual (defArgs st) (defBody st) (defScope st) .none kV doc pm an cdv ct) ⟨us, []⟩ = pure (ps.zip us))
    (body : ∀ (cdv : Value) (A : Around) (outer : List Env) (s : Shared) (H : Hp) (E : XK), Room k (A.deeper (PyProof.Rows.envOfC qual (defScope st) s.heap.objs.size f cdv)) →
      ∃ t, PSs (cxOf CX0 P w K mg base N qual (defScope st) f cdv A outer s H E).nox (defBody st) t ∧ ∀ (vs : List V) (Q : VK), sp vs H Q E → t { nx := fun _ H' => Q .non H', rt := Q } (start N vs) H) : GM P w K mg base (k + 1) f ps sp := by
  obtain ⟨fd, F⟩ := F
  refine ⟨fd, F.ok S hl (fun cdv A outer s H vs Q E hr h => ?_), F.binds hb⟩
  obtain ⟨t, ht, hd⟩ := body cdv A outer s H E hr
  exact ⟨t, ht, hd vs Q h⟩
theorem mkM (F : ∃ fd, Fun K x qual st f fd) (S : FnScope N ps (defScope st)) (hl : ∀ g, (Ps g).length = ps.length)
    (hb : ∀ (kV doc pm : Value) (an : Option Addr) (cdv ct : Value) (us : List Value), us.length = ps.length → bindArgs (PySem.W.fnOf x qual (defArgs st) (defBody st) (defScope st) .none kV doc pm an cdv ct) ⟨us, []⟩ = pure (ps.zip us))
    (body : ∀ (cdv : Value) (A : Around) (outer : List Env) (s : Shared) (H : Hp) (E : XK), Room k (A.deeper (PyProof.Rows.envOfC qual (defScope st) s.heap.objs.size f cdv)) →
      ∃ t, PSs (cxOf CX0 P w K mg base N qual (defScope st) f cdv A outer s H E).nox (defBody st) t ∧
        ∀ (g : γ) (vs : List V) (Q : VK), C g → AllP (Ps g) vs H → (∀ v H', Same H H' → (post g).h v H' → Q v H') → t { nx := fun _ H' => Q .non H', rt := Q } (start N vs) H) : GM P w K mg base (k + 1) f ps (SpG Ps C post) := by
  refine mkS F S (fun vs H Q E h => ?_) hb fun cdv A outer s H E hr => ?_
  · obtain ⟨g, _, ha, _⟩ := h
    rw [ha.len, hl]
  · obtain ⟨t, ht, hd⟩ := body cdv A outer s H E hr
    exact ⟨t, ht, fun vs Q ⟨g, hc, ha, hq⟩ => hd g vs Q hc ha hq⟩
end
section
variable {X : Cx} {k : Nat} {C p g f : Addr} {fl m x : Str} {ps : List Str} {sp : Sp} {e o : Expr} {es : List Expr} {ta : TE} {t : TA} {pos apos cpos : Pos} {pl : Sem Bool}
theorem pe_propG (c : Cls X.K C) (hp : PropOf X.K C fl p g) (G : GM X.prog X.w X.K X.mg X.base k g ps sp) (hr : Room (k + 1) X.A) (he : PE X e ta) (hab : attributeBase e fl X.env (eval e X.env) = eval e X.env := by rfl) :
    PE X (.Attribute e fl pos) (tProp C sp [] E0 ta) := by
  obtain ⟨fd, F, b⟩ := G.ex
  exact pe_prop he c hp F hr b .nil pass0 hab
theorem pe_methG (c : Cls X.K C) (hm : Meth X.K C m f) (G : GM X.prog X.w X.K X.mg X.base k f ps sp) (hr : Room k X.A) (ho : PE X o ta) (ha : PA X (e :: es) t)
    (hst : starEach (e :: es) X.env = (false, eval e X.env) :: starEach es X.env := by rfl) (hpl : (backTo cpos (starEach es X.env)).any (·.1) = false := by rfl)
    (ht : eval (.Call (.Attribute o m apos) (e :: es) [] cpos) X.env = (do
      let ov ← eval o X.env
      standAt apos.atName
      let (f, first) ← holding [ov] (getMethod ov m pl)
      callWith cpos f first (backTo cpos (starEach (e :: es) X.env)) (backToKw cpos (keywordEach [] X.env))) := by rfl) :
    PE X (.Call (.Attribute o m apos) (e :: es) [] cpos) (tMeth C m sp [] E0 ta t) := by
  obtain ⟨fd, F, b⟩ := G.ex
  exact pe_meth ho c hm F hr b .nil pass0 ha hst hpl ht
theorem pe_methG0 (c : Cls X.K C) (hm : Meth X.K C m f) (G : GM X.prog X.w X.K X.mg X.base k f ps sp) (hr : Room k X.A) (ho : PE X o ta)
    (ht : eval (.Call (.Attribute o m apos) [] [] cpos) X.env = (do
      let ov ← eval o X.env
      standAt apos.atName
      let (f, first) ← holding [ov] (getMethod ov m pl)
      callWith cpos f first (backTo cpos (starEach [] X.env)) (backToKw cpos (keywordEach [] X.env))) := by rfl) :
    PE X (.Call (.Attribute o m apos) [] [] cpos) (tMeth C m sp [] E0 ta tNil) := by
  obtain ⟨fd, F, b⟩ := G.ex
  exact pe_meth0 ho c hm F hr b .nil pass0 ht
theorem pe_makeG (M : Mk X.K C f) (hm : X.mg x = some (.ref C)) (G : GM X.prog X.w X.K X.mg X.base k f ps sp) (hr : Room (k + 1) X.A) (ha : PA X (e :: es) t) (hg : Gl X x := by rfl)
    (hdb : (x == ("__debug__" : Str)) = false := by decide) (he : starEach (e :: es) X.env = (false, eval e X.env) :: starEach es X.env := by rfl) (hpl : (backTo cpos (starEach es X.env)).any (·.1) = false := by rfl) :
    PE X (.Call (.Name x pos) (e :: es) [] cpos) (tMake C sp [] E0 t) := by
  obtain ⟨fd, F, b⟩ := G.ex
  exact pe_make M F hr hg hm b .nil pass0 ha hdb he hpl
/-- C.m(..), m a static method of the class at C -/
def tStat (C : Addr) (sp : Sp) (ta : TE) (t : TA) : TE := fun σ H Q => ta σ H fun x H1 => x = .ref C ∧ t σ H1 fun vs H2 => sp vs H2 Q E0
structure StatF (K : PySem.W.Frag) (C : Addr) (m : Str) (p g : Addr) : Prop where
  at_ : PySem.W.findCls K (.ref C) (.type "type") m = some (.get (.builtin "staticmethod.__get__") (.ref p) .none (.ref C))
  rc : ∃ rest, PySem.W.recIn K p "staticmethod" = some (.ref g :: rest)
  rd : PySem.W.readsIn K C (.type "type") = true
  ga : PySem.W.specialIn K (.ref C) "__getattribute__" = some (some (.builtin "type.__getattribute__"))
  kp : PySem.W.keepIn K (.ref g) = true
theorem statF_of {K : PySem.W.Frag} (h : statB K C m = true) (hk : PySem.W.keepIn K (.ref (He5.wf K C "staticmethod" m)) = true) : StatF K C m (He.ma K C m) (He5.wf K C "staticmethod" m) := by
  obtain ⟨h1, h⟩ := He.ba h
  obtain ⟨h2, h⟩ := He.ba h
  obtain ⟨h3, h⟩ := He.ba h
  obtain ⟨a, b⟩ := He5.wrapB_ok h1
  exact ⟨a, b, h2, He.eqO_ok h3, hk⟩
theorem pe_stat (c : StatF X.K C m p g) (G : GM X.prog X.w X.K X.mg X.base k g ps sp) (hr : Room k X.A) (ho : PE X o ta) (ha : PA X (e :: es) t)
    (hst : starEach (e :: es) X.env = (false, eval e X.env) :: starEach es X.env := by rfl) (hpl : (backTo cpos (starEach es X.env)).any (·.1) = false := by rfl)
    (ht : eval (.Call (.Attribute o m apos) (e :: es) [] cpos) X.env = (do
      let ov ← eval o X.env
      standAt apos.atName
      let (f, first) ← holding [ov] (getMethod ov m pl)
      callWith cpos f first (backTo cpos (starEach (e :: es) X.env)) (backToKw cpos (keywordEach [] X.env))) := by rfl) :
    PE X (.Call (.Attribute o m apos) (e :: es) [] cpos) (tStat C sp ta t) := by
  obtain ⟨fd, F, b⟩ := G.ex
  constructor
  intro pins s σ H Q I h
  refine PySem.W.methodCall_KW (pl := pl) (thn (ho.run pins s σ H _ I h) ?_) ht
  rintro u s1 ⟨v, H1, I1, rx, ex, q⟩
  subst ex
  obtain rfl : u = Value.ref C := rx
  obtain ⟨rest, hp⟩ := c.rc
  refine PySem.W.method_cls I1.kIn c.ga (PySem.W.cls_bind I1.kIn c.rd c.at_ ?_)
  refine wpAny_call (PySem.W.sm_get (s := { s1 with toks := s1.toks + 1 }) I1.kIn hp (PySem.W.handed_on rfl ?_))
  have I2 := I1.tok (s1.toks + 1)
  refine PySem.W.callWith_K (first := []) (h₀ := X.base) I2.ok.mod.kin c.kp (thn (ha.run cpos pins _ σ H1 _ I2 q) ?_) hst hpl
  rintro us s3 ⟨vs, H3, I3, r, q3⟩
  refine ⟨I3.kIn, run_fn (us := us) (vs := vs) F hr b .nil pass0 I3 r ?_⟩
  rw [List.append_nil]
  exact q3
end
section
variable {K : PySem.W.Frag} {σ : St} {H : Hp} {te ta : TE} {tr : TA} {P : Pr} {γ : Type} {Ps : γ → List Pr} {C : γ → Prop} {post : γ → Pr} {E : XK} {Cc : Addr} {m : Str}
theorem ev_prop (g : γ) (hg : Ps g = [P]) (hc : C g) (ha : EvP ta σ H P) (hi : ∀ v H1, P.h v H1 → ∃ a dx fs, v = .ref a ∧ H1 a = some (.ins Cc dx fs)) : EvP (tProp Cc (SpG Ps C post) [] E ta) σ H (post g) := fun H1 e Q q => ha H1 e _ fun v H2 e2 p => by
  obtain ⟨a, dx, fs, rfl, hh⟩ := hi v H2 p
  exact ⟨a, dx, fs, rfl, hh, g, hc, by rw [hg]; exact ⟨_, _, rfl, p, rfl⟩, fun v H3 e3 => q v H3 (e2.trans e3)⟩
theorem ev_meth {Rs : List Pr} (g : γ) (hg : Ps g = P :: Rs) (hc : C g) (ha : EvP ta σ H P) (hr : EvA tr σ H Rs) (hi : ∀ v H1, P.h v H1 → ∃ a dx fs, v = .ref a ∧ H1 a = some (.ins Cc dx fs) ∧ fs.lookup m = none) : EvP (tMeth Cc m (SpG Ps C post) [] E ta tr) σ H (post g) := fun H1 e Q q =>
  ha H1 e _ fun v H2 e2 p => by
    obtain ⟨a, dx, fs, rfl, hh, hl⟩ := hi v H2 p
    refine ⟨a, dx, fs, rfl, hh, hl, hr H2 (e.trans e2) _ fun vs H3 e3 ps => ⟨g, hc, ?_, fun v H4 e4 => q v H4 ((e2.trans e3).trans e4)⟩⟩
    rw [hg, List.append_nil]
    exact ⟨_, _, rfl, P.kp e3 p, ps⟩
theorem ev_stat (g : γ) (hc : C g) (ha : EvP ta σ H (IsV (.ref Cc))) (hr : EvA tr σ H (Ps g)) : EvP (tStat Cc (SpG Ps C post) ta tr) σ H (post g) := fun H1 e Q q =>
  ha H1 e _ fun v H2 e2 (p : v = _) => ⟨p, hr H2 (e.trans e2) _ fun vs H3 e3 ps => ⟨g, hc, ps, fun v H4 e4 => q v H4 ((e2.trans e3).trans e4)⟩⟩
end
end K79
end
section
set_option Elab.async false
set_option linter.all false
set_option maxRecDepth 100000
set_option maxHeartbeats 4000000
namespace K79
open PySem PySem.Spec L2
/-! ### effects -/
structure Eff where
  I : Bag
  R : Int
  S : Bag
structure Val (e : Eff) : Prop where
  i : IsBag e.I
  s : IsBag e.S
  has : Has e.I e.S
  len : e.I.length + e.S.length ≤ 900
  tot : tot e.I - tot e.S ≤ e.R
  r : 0 ≤ e.R
def partsP (e : Eff) : Pr := TupP [BagP e.I, IsI e.R, BagP e.S]
def EffP (K : PySem.W.Frag) (e : Eff) : Pr := ⟨fun v H => ∃ (a dx t : Addr), v = .ref a ∧ H a = some (.ins (cE K) dx [("own_parts", .ref t)]) ∧ (partsP e).h (.ref t) H, fun h ⟨a, dx, t, h1, h2, h3⟩ => ⟨a, dx, t, h1, h _ _ h2, (partsP e).kp h h3⟩⟩
instance {K : PySem.W.Frag} {e : Eff} : Fixd (EffP K e) := ⟨fun h ⟨a, dx, t, h1, h2, h3⟩ => ⟨a, dx, t, h1, h _ _ h2 rfl, (inferInstance : Fixd (TupP [BagP e.I, IsI e.R, BagP e.S])).fx h h3⟩⟩
theorem lk_own : ([("own_parts", V.ref t)] : List (Str × V)).lookup ("own_parts" : Str) = some (V.ref t) := by
  show (match ("own_parts" : Str) == ("own_parts" : Str) with | true => some (V.ref t) | false => none) = _
  rw [show (("own_parts" : Str) == ("own_parts" : Str)) = true by decide +kernel]
theorem lk_not {m : Str} (h : (m == ("own_parts" : Str)) = false) : ([("own_parts", V.ref t)] : List (Str × V)).lookup m = none := by
  show (match m == ("own_parts" : Str) with | true => some (V.ref t) | false => none) = _
  rw [h]
section
variable {K : PySem.W.Frag} {mg : Str → Option Value} {σ : St} {H : Hp} {ta : TE} {e : Eff}
theorem eff_ins : ∀ v (H1 : Hp), (EffP K e).h v H1 → ∃ a dx fs, v = .ref a ∧ H1 a = some (.ins (cE K) dx fs) := fun v H1 ⟨a, dx, t, h1, h2, _⟩ => ⟨a, dx, _, h1, h2⟩
theorem eff_meth {m : Str} (h : (m == ("own_parts" : Str)) = false) : ∀ v (H1 : Hp), (EffP K e).h v H1 → ∃ a dx fs, v = .ref a ∧ H1 a = some (.ins (cE K) dx fs) ∧ fs.lookup m = none := fun v H1 ⟨a, dx, t, h1, h2, _⟩ => ⟨a, dx, _, h1, h2, lk_not h⟩
/-- self.own_parts -/
theorem ev_own (T : Fx K mg) (ha : EvP ta σ H (EffP K e)) : EvP (tFld K ta "own_parts") σ H (partsP e) := fun H1 h Q q => ha H1 h _ fun v H2 h2 ⟨a, dx, t, e1, e2, e3⟩ => ⟨a, _, dx, _, _, e1, e2, T.cls_E, T.na_own_parts, lk_own, q _ H2 h2 e3⟩
end
section
variable {P : Program} {w : World} {K : PySem.W.Frag} {mg : Str → Option Value} {base : Heap}
/-! ### the properties -/
abbrev N_Einserted : List Str := ["self"]
theorem sc_Einserted : FnScope N_Einserted ["self"] (defScope st_Einserted) := ⟨rfl, rfl, rfl, by decide +kernel, rfl, by decide +kernel, by decide +kernel⟩
abbrev Sp_Einserted (K : PySem.W.Frag) : Sp := SpG (γ := Eff) (fun e => [EffP K e]) (fun _ => True) (fun e => BagP e.I)
theorem ok_Einserted (T : Fx K mg) : GM P w K mg base 1 (He5.wf K (cE K) "property" "inserted") ["self"] (Sp_Einserted K) := by
  refine mkM T.f_Einserted sc_Einserted (fun _ => rfl) (fun _ _ _ _ _ _ us hl => match us, hl with | [_], _ => rfl) fun cdv A outer s H E hr => ?_
  have nd := sc_Einserted.nd
  refine ⟨_, (pss_one (ps_ret (pe_ix ix_tup (pe_fld (pv 0) rfl) pe_int (fun _ _ => rfl)))), ?_⟩
  rintro e vs Q - ⟨v, _, rfl, hv, rfl⟩ q
  exact s_ret (ev_ixT (i := 0) (ev_own T (ev_var rfl hv)) ev_c rfl) fun v H1 h p => q v H1 h p
abbrev N_Eremovals : List Str := ["self"]
theorem sc_Eremovals : FnScope N_Eremovals ["self"] (defScope st_Eremovals) := ⟨rfl, rfl, rfl, by decide +kernel, rfl, by decide +kernel, by decide +kernel⟩
abbrev Sp_Eremovals (K : PySem.W.Frag) : Sp := SpG (γ := Eff) (fun e => [EffP K e]) (fun _ => True) (fun e => IsI e.R)
theorem ok_Eremovals (T : Fx K mg) : GM P w K mg base 1 (He5.wf K (cE K) "property" "removals") ["self"] (Sp_Eremovals K) := by
  refine mkM T.f_Eremovals sc_Eremovals (fun _ => rfl) (fun _ _ _ _ _ _ us hl => match us, hl with | [_], _ => rfl) fun cdv A outer s H E hr => ?_
  have nd := sc_Eremovals.nd
  refine ⟨_, (pss_one (ps_ret (pe_ix ix_tup (pe_fld (pv 0) rfl) pe_int (fun _ _ => rfl)))), ?_⟩
  rintro e vs Q - ⟨v, _, rfl, hv, rfl⟩ q
  exact s_ret (ev_ixT (i := 1) (ev_own T (ev_var rfl hv)) ev_c rfl) fun v H1 h p => q v H1 h p
abbrev N_Esurvivors : List Str := ["self"]
theorem sc_Esurvivors : FnScope N_Esurvivors ["self"] (defScope st_Esurvivors) := ⟨rfl, rfl, rfl, by decide +kernel, rfl, by decide +kernel, by decide +kernel⟩
abbrev Sp_Esurvivors (K : PySem.W.Frag) : Sp := SpG (γ := Eff) (fun e => [EffP K e]) (fun _ => True) (fun e => BagP e.S)
theorem ok_Esurvivors (T : Fx K mg) : GM P w K mg base 1 (He5.wf K (cE K) "property" "survivors") ["self"] (Sp_Esurvivors K) := by
  refine mkM T.f_Esurvivors sc_Esurvivors (fun _ => rfl) (fun _ _ _ _ _ _ us hl => match us, hl with | [_], _ => rfl) fun cdv A outer s H E hr => ?_
  have nd := sc_Esurvivors.nd
  refine ⟨_, (pss_one (ps_ret (pe_ix ix_tup (pe_fld (pv 0) rfl) pe_int (fun _ _ => rfl)))), ?_⟩
  rintro e vs Q - ⟨v, _, rfl, hv, rfl⟩ q
  exact s_ret (ev_ixT (i := 2) (ev_own T (ev_var rfl hv)) ev_c rfl) fun v H1 h p => q v H1 h p
abbrev N_Econsumed : List Str := ["self"]
theorem sc_Econsumed : FnScope N_Econsumed ["self"] (defScope st_Econsumed) := ⟨rfl, rfl, rfl, by decide +kernel, rfl, by decide +kernel, by decide +kernel⟩
abbrev Sp_Econsumed (K : PySem.W.Frag) : Sp := SpG (γ := Eff) (fun e => [EffP K e]) Val (fun e => BagP (subB e.I e.S))
theorem ok_Econsumed (T : Fx K mg) : GM P w K mg base 3 (He5.wf K (cE K) "property" "consumed") ["self"] (Sp_Econsumed K) := by
  have G_subtract := ok_subtract (P := P) (w := w) (base := base) T
  refine mkM T.f_Econsumed sc_Econsumed (fun _ => rfl) (fun _ _ _ _ _ _ us hl => match us, hl with | [_], _ => rfl) fun cdv A outer s H E hr => ?_
  have nd := sc_Econsumed.nd
  refine ⟨_, (pss_one (ps_ret (pe_callG G_subtract (hr.mono (by decide)) (pa_cons (pe_ix ix_tup (pe_fld (pv 0) rfl) pe_int (fun _ _ => rfl)) (pa_cons (pe_ix ix_tup (pe_fld (pv 0) rfl) pe_int (fun _ _ => rfl)) pa_nil))))), ?_⟩
  rintro e vs Q he ⟨v, _, rfl, hv, rfl⟩ q
  exact s_ret (ev_call (e.I, e.S) ⟨he.i, he.s, he.has, by have := he.len; show e.I.length + e.S.length ≤ 1000; omega⟩ (ea2 (ev_ixT (i := 0) (ev_own T (ev_var rfl hv)) ev_c rfl) (ev_ixT (i := 2) (ev_own T (ev_var rfl hv)) ev_c rfl))) fun v H1 h p => q v H1 h p
abbrev N_Eneeded : List Str := ["self"]
theorem sc_Eneeded : FnScope N_Eneeded ["self"] (defScope st_Eneeded) := ⟨rfl, rfl, rfl, by decide +kernel, rfl, by decide +kernel, by decide +kernel⟩
abbrev Sp_Eneeded (K : PySem.W.Frag) : Sp := SpG (γ := Eff) (fun e => [EffP K e]) (fun _ => True) (fun e => IsI (e.R - tot e.I + tot e.S))
theorem ok_Eneeded (T : Fx K mg) : GM P w K mg base 2 (He5.wf K (cE K) "property" "needed") ["self"] (Sp_Eneeded K) := by
  have G_total := ok_total (P := P) (w := w) (base := base) T
  refine mkM T.f_Eneeded sc_Eneeded (fun _ => rfl) (fun _ _ _ _ _ _ us hl => match us, hl with | [_], _ => rfl) fun cdv A outer s H E hr => ?_
  have nd := sc_Eneeded.nd
  refine ⟨_, (pss_one (ps_ret (pe_op op_add (pe_op op_sub (pe_ix ix_tup (pe_fld (pv 0) rfl) pe_int (fun _ _ => rfl)) (pe_callG G_total (hr.mono (by decide)) (pa_cons (pe_ix ix_tup (pe_fld (pv 0) rfl) pe_int (fun _ _ => rfl)) pa_nil))) (pe_callG G_total (hr.mono (by decide)) (pa_cons (pe_ix ix_tup (pe_fld (pv 0) rfl) pe_int (fun _ _ => rfl)) pa_nil))))), ?_⟩
  rintro e vs Q - ⟨v, _, rfl, hv, rfl⟩ q
  exact s_ret (P := IsI (e.R - tot e.I + tot e.S)) (ev_i (i := e.R - tot e.I) (j := tot e.S) (ev_i (i := e.R) (j := tot e.I) (ev_ixT (i := 1) (ev_own T (ev_var rfl hv)) ev_c rfl) (ev_call e.I trivial (ea1 (ev_ixT (i := 0) (ev_own T (ev_var rfl hv)) ev_c rfl))) rfl) (ev_call e.S trivial (ea1 (ev_ixT (i := 2) (ev_own T (ev_var rfl hv)) ev_c rfl))) rfl) fun v H1 h p => q v H1 h p
/-! ### the maker, is_valid -/
abbrev N_Einit : List Str := ["self", "inserted", "removals", "survivors", "fault"]
theorem sc_Einit : FnScope N_Einit ["self", "inserted", "removals", "survivors"] (defScope st_Einit) := ⟨rfl, rfl, rfl, by decide +kernel, rfl, by decide +kernel, by decide +kernel⟩
def Sp_Einit (K : PySem.W.Frag) : Sp := fun vs H Q _ => ∃ (H0 : Hp) (x dx : Addr) (v1 v2 v3 : V) (e : Eff), vs = [.ref x, v1, v2, v3] ∧ Same H0 H ∧ H0 x = none ∧ H x = some (.ins (cE K) dx []) ∧ (BagP e.I).h v1 H0 ∧ v2 = .int e.R ∧ (BagP e.S).h v3 H0 ∧ Val e ∧
  ∀ H', Same H0 H' → (EffP K e).h (.ref x) H' → Q .non H'
theorem ok_Einit (T : Fx K mg) : GM P w K mg base 4 (He.ma K (cE K) "__init__") ["self", "inserted", "removals", "survivors"] (Sp_Einit K) := by
  have G_check_bag := ok_check_bag (P := P) (w := w) (base := base) T
  have G_check_count := ok_check_count (P := P) (w := w) (base := base) T
  have G_find_fault := ok_find_fault (P := P) (w := w) (base := base) T
  refine mkS T.f_Einit sc_Einit (fun vs H Q E h => by obtain ⟨_, _, _, _, _, _, _, rfl, _⟩ := h; rfl) (fun _ _ _ _ _ _ us hl => match us, hl with | [_, _, _, _], _ => rfl) fun cdv A outer s H E hr => ?_
  have nd := sc_Einit.nd
  refine ⟨_, (pss_cons (ps_expr (pe_callG G_check_bag (hr.mono (by decide)) (pa_cons (pv 1) pa_nil)))
    (pss_cons (ps_expr (pe_callG G_check_count (hr.mono (by decide)) (pa_cons (pv 2) pa_nil)))
    (pss_cons (ps_expr (pe_callG G_check_bag (hr.mono (by decide)) (pa_cons (pv 3) pa_nil)))
    (pss_cons (ps_set (i := 4) nd rfl (Or.inl rfl) (pe_callG G_find_fault (hr.mono (by decide)) (pa_cons (pv 1) (pa_cons (pv 2) (pa_cons (pv 3) pa_nil)))))
    (pss_cons (ps_if (pt_cmpR op_notN (pv 4) pe_non (nomark _)) pss_never pss_nil)
    (pss_one (ps_fld (pv 0) (pe_tup (pa_cons (pv 1) (pa_cons (pv 2) (pa_cons (pv 3) pa_nil)))) rfl))))))), ?_⟩
  rintro vs Q ⟨H0, x, dx, v1, v2, v3, e, rfl, s0, nx, hx, h1, h2, h3, he, k⟩
  subst h2
  have h1 := (BagP _).kp s0 h1
  have h3 := (BagP _).kp s0 h3
  refine q_drop (ev_call e.I he.i (ea1 (ev_var rfl h1))) fun H1 e1 => ?_
  refine q_drop (ev_call e.R he.r (ea1 (ev_v rfl))) fun H2 e2 => ?_
  have e12 := e1.trans e2
  refine q_drop (ev_call e.S he.s (ea1 (ev_var rfl ((BagP _).kp e12 h3)))) fun H3 e3 => ?_
  have e13 := e12.trans e3
  refine q_asg (ev_call (e.I, e.R, e.S) ⟨he.i, he.s, he.has, by have := he.len; show e.I.length + e.S.length ≤ 1000; omega, he.tot⟩ (ea3 (ev_var rfl ((BagP _).kp e13 h1)) (ev_v rfl) (ev_var rfl ((BagP _).kp e13 h3)))) fun v4 H4 e4 (p4 : v4 = _) => ?_
  subst p4
  have e14 := e13.trans e4
  refine q_no (EvT.is (et_test (ev_notN (x := .non) (ev_v rfl) rfl)) (by decide)) fun H5 e5 => ?_
  have e15 := e14.trans e5
  refine ev_tup (Ps := [BagP e.I, IsI e.R, BagP e.S]) (ea3 (ev_var rfl ((BagP _).kp e15 h1)) (ev_v rfl) (ev_var rfl ((BagP _).kp e15 h3))) (by simp) H5 (Same.refl _) _ fun t H6 e6 ht => ?_
  have e16 := e15.trans e6
  have hx6 := e16 _ _ hx
  obtain ⟨tp, ys, rfl, htp, hys⟩ := id ht
  have sm : Same H0 (upd H6 x (.ins (cE K) dx (putF "own_parts" (.ref tp) []))) := Same.chg (s0.trans e16) nx
  refine ⟨_, rfl, x, cE K, dx, [], rfl, hx6, T.cls_E, T.na_own_parts, by decide, ?_⟩
  refine k _ sm ⟨x, dx, tp, rfl, ?_, ?_⟩
  · rw [upd_same] <;> rfl
  · -- the tuple's parts did not change: they stand at other addresses
    have key : ∀ a o, H6 a = some o → (∀ C d f, o ≠ .ins C d f) → upd H6 x (.ins (cE K) dx (putF "own_parts" (.ref tp) [])) a = some o := fun a o ho hn => by
      rw [upd_ne (fun z => by rw [z, hx6] at ho; exact hn _ _ _ (Option.some.inj ho).symm)]; exact ho
    have keyR : ∀ a xs, Rd H6 a (.tup xs) → Rd (upd H6 x (.ins (cE K) dx (putF "own_parts" (.ref tp) []))) a (.tup xs) := fun a xs h => h.imp (fun h => key _ _ h fun _ _ _ z => by cases z) fun ⟨o, h⟩ => ⟨o, key _ _ h fun _ _ _ z => by cases z⟩
    have bag : ∀ b v, (BagP b).h v H6 → (BagP b).h v (upd H6 x (.ins (cE K) dx (putF "own_parts" (.ref tp) []))) := fun b v ⟨hl, p, zs, o, h1, h2, h3, h4⟩ => by
      refine ⟨hl, p, zs, o, h1, h2, key _ _ h3 (fun _ _ _ z => by cases z), ?_⟩
      have go : ∀ (b : Bag) (zs : List V), AllP (b.map entP) zs H6 → AllP (b.map entP) zs (upd H6 x (.ins (cE K) dx (putF "own_parts" (.ref tp) []))) := by
        intro b
        induction b with
        | nil => exact fun _ h => h
        | cons f r ih => exact fun _ ⟨v, z, a1, ⟨q, us, a2, a3, a4⟩, a5⟩ => ⟨v, z, a1, ⟨q, us, a2, keyR _ _ a3, a4⟩, ih _ a5⟩
      exact go b zs h4
    obtain ⟨w1, _, rfl, k1, w2, _, rfl, k2, w3, _, rfl, k3, rfl⟩ := hys
    exact ⟨tp, _, rfl, keyR _ _ htp, w1, _, rfl, bag _ _ k1, w2, _, rfl, k2, w3, _, rfl, bag _ _ k3, rfl⟩
/-- Effect(i, r, s) -/
theorem ev_makeE {σ : St} {H : Hp} {tr : TA} {e : Eff} (he : Val e) (ha : EvA tr σ H [BagP e.I, IsI e.R, BagP e.S]) : EvP (tMake (cE K) (Sp_Einit K) [] E0 tr) σ H (EffP K e) := fun H1 h Q q => ha H1 h _ fun vs H2 h2 hv x dx nx ndx ne => by
  obtain ⟨v1, _, rfl, k1, v2, _, rfl, k2, v3, _, rfl, k3, rfl⟩ := hv
  refine ⟨H2, x, dx, v1, v2, v3, e, rfl, ?_, nx, upd_same, k1, k2, k3, he, fun H' s' hE => ⟨rfl, q _ H' (h2.trans s') hE⟩⟩
  refine Same.chg (Same.chg (Same.refl H2) ndx) nx
abbrev N_Eis_valid : List Str := ["inserted", "removals", "survivors"]
theorem sc_Eis_valid : FnScope N_Eis_valid ["inserted", "removals", "survivors"] (defScope st_Eis_valid) := ⟨rfl, rfl, rfl, by decide +kernel, rfl, by decide +kernel, by decide +kernel⟩
abbrev Sp_Eis_valid : Sp := SpG (γ := Eff) (fun e => [BagP e.I, IsI e.R, BagP e.S]) Val (fun _ => IsB true)
theorem ok_Eis_valid (T : Fx K mg) : GM P w K mg base 4 (He5.wf K (cE K) "staticmethod" "is_valid") ["inserted", "removals", "survivors"] Sp_Eis_valid := by
  have G_is_bag := ok_is_bag (P := P) (w := w) (base := base) T
  have G_is_count := ok_is_count (P := P) (w := w) (base := base) T
  have G_find_fault := ok_find_fault (P := P) (w := w) (base := base) T
  refine mkM T.f_Eis_valid sc_Eis_valid (fun _ => rfl) (fun _ _ _ _ _ _ us hl => match us, hl with | [_, _, _], _ => rfl) fun cdv A outer s H E hr => ?_
  have nd := sc_Eis_valid.nd
  refine ⟨_, (pss_cons (ps_if (PW.pt (pw_or (pt_not (pt_val (pe_callG G_is_bag (hr.mono (by decide)) (pa_cons (pv 0) pa_nil)))) (pw_or (pt_not (pt_val (pe_callG G_is_count (hr.mono (by decide)) (pa_cons (pv 1) pa_nil)))) (pw_or1 (pt_not (pt_val (pe_callG G_is_bag (hr.mono (by decide)) (pa_cons (pv 2) pa_nil)))))))) (pss_one (ps_ret pe_bl)) pss_nil)
    (pss_one (ps_ret (pe_cmpR op_isN (pe_callG G_find_fault (hr.mono (by decide)) (pa_cons (pv 0) (pa_cons (pv 1) (pa_cons (pv 2) pa_nil)))) pe_non (nomark _))))), ?_⟩
  rintro e vs Q he ⟨v1, _, rfl, h1, v2, _, rfl, h2, v3, _, rfl, h3, rfl⟩ q
  refine q_no (et_or (a := false) (b := false) (et_not (a := true) (et_B (ev_call e.I he.i (ea1 (ev_var rfl h1))))) fun _ => et_or (a := false) (b := false) (et_not (a := true) (et_B (ev_call e.R he.r (ea1 (ev_var rfl h2))))) fun _ => et_not (a := true) (et_B (ev_call e.S he.s (ea1 (ev_var rfl h3))))) fun H1 e1 => ?_
  refine s_ret (P := IsB true) (ev_isN (x := .non) (ev_call (e.I, e.R, e.S) ⟨he.i, he.s, he.has, by have := he.len; show e.I.length + e.S.length ≤ 1000; omega, he.tot⟩ (ea3 (ev_var rfl ((BagP _).kp e1 h1)) (ev_var rfl h2) (ev_var rfl ((BagP _).kp e1 h3)))) rfl) fun v H2 e2 p => q v H2 (e1.trans e2) p
/-! ### pool, apply -/
def poolB (e : Eff) (b : Bag) : Bag := addB b (subB e.I e.S)
def applyB (e : Eff) (b : Bag) : Bag := addB e.S (dropB (poolB e b) e.R)
abbrev N_Epool : List Str := ["self", "bag"]
theorem sc_Epool : FnScope N_Epool ["self", "bag"] (defScope st_Epool) := ⟨rfl, rfl, rfl, by decide +kernel, rfl, by decide +kernel, by decide +kernel⟩
abbrev Sp_Epool (K : PySem.W.Frag) : Sp := SpG (γ := Eff × Bag) (fun g => [EffP K g.1, BagP g.2]) (fun g => Val g.1 ∧ IsBag g.2 ∧ g.1.R - tot g.1.I + tot g.1.S ≤ tot g.2 ∧ g.2.length + (g.1.I.length + g.1.S.length) ≤ 1000) (fun g => BagP (poolB g.1 g.2))
theorem ok_Epool (T : Fx K mg) : GM P w K mg base 5 (He.ma K (cE K) "pool") ["self", "bag"] (Sp_Epool K) := by
  have G_check_bag := ok_check_bag (P := P) (w := w) (base := base) T
  have G_total := ok_total (P := P) (w := w) (base := base) T
  have G_add := ok_add (P := P) (w := w) (base := base) T
  have G_Eneeded := ok_Eneeded (P := P) (w := w) (base := base) T
  have G_Econsumed := ok_Econsumed (P := P) (w := w) (base := base) T
  refine mkM T.f_Epool sc_Epool (fun _ => rfl) (fun _ _ _ _ _ _ us hl => match us, hl with | [_, _], _ => rfl) fun cdv A outer s H E hr => ?_
  have nd := sc_Epool.nd
  refine ⟨_, (pss_cons (ps_expr (pe_callG G_check_bag (hr.mono (by decide)) (pa_cons (pv 1) pa_nil)))
    (pss_cons (ps_if (pt_cmpR op_lt (pe_callG G_total (hr.mono (by decide)) (pa_cons (pv 1) pa_nil)) (pe_propG T.cls_E T.p_needed G_Eneeded (hr.mono (by decide)) (pv 0)) (nomark _)) pss_never pss_nil)
    (pss_one (ps_ret (pe_callG G_add (hr.mono (by decide)) (pa_cons (pv 1) (pa_cons (pe_propG T.cls_E T.p_consumed G_Econsumed (hr.mono (by decide)) (pv 0)) pa_nil))))))), ?_⟩
  rintro ⟨e, b⟩ vs Q ⟨he, hb, hn, hl⟩ ⟨v1, _, rfl, h1, v2, _, rfl, h2, rfl⟩ q
  have hn : e.R - tot e.I + tot e.S ≤ tot b := hn
  have hl : b.length + (e.I.length + e.S.length) ≤ 1000 := hl
  refine q_drop (ev_call b hb (ea1 (ev_var rfl h2))) fun H1 e1 => ?_
  have h1 := (EffP K e).kp e1 h1
  have h2 := (BagP b).kp e1 h2
  refine q_no (et_test (ev_i (i := tot b) (j := e.R - tot e.I + tot e.S) (ev_call b trivial (ea1 (ev_var rfl h2))) (ev_prop e rfl trivial (ev_var rfl h1) eff_ins) (by rw [decide_eq_false (by omega)]))) fun H2 e2 => ?_
  refine s_ret (ev_call (b, subB e.I e.S) ⟨hb, subB_bag _ _, by have := subB_len e.I e.S; show b.length + (subB e.I e.S).length ≤ 1000; omega⟩ (ea2 (ev_var rfl ((BagP b).kp e2 h2)) (ev_prop e rfl he (ev_var rfl ((EffP K e).kp e2 h1)) eff_ins))) fun v H3 e3 p => q v H3 ((e1.trans e2).trans e3) p
abbrev N_Eapply : List Str := ["self", "bag"]
theorem sc_Eapply : FnScope N_Eapply ["self", "bag"] (defScope st_Eapply) := ⟨rfl, rfl, rfl, by decide +kernel, rfl, by decide +kernel, by decide +kernel⟩
abbrev Sp_Eapply (K : PySem.W.Frag) : Sp := SpG (γ := Eff × Bag) (fun g => [EffP K g.1, BagP g.2]) (fun g => Val g.1 ∧ IsBag g.2 ∧ g.1.R - tot g.1.I + tot g.1.S ≤ tot g.2 ∧ g.2.length + (g.1.I.length + g.1.S.length) + g.1.S.length ≤ 1000) (fun g => BagP (applyB g.1 g.2))
theorem ok_Eapply (T : Fx K mg) : GM P w K mg base 6 (He.ma K (cE K) "apply") ["self", "bag"] (Sp_Eapply K) := by
  have G_add := ok_add (P := P) (w := w) (base := base) T
  have G_drop := ok_drop (P := P) (w := w) (base := base) T
  have G_Esurvivors := ok_Esurvivors (P := P) (w := w) (base := base) T
  have G_Eremovals := ok_Eremovals (P := P) (w := w) (base := base) T
  have G_Epool := ok_Epool (P := P) (w := w) (base := base) T
  refine mkM T.f_Eapply sc_Eapply (fun _ => rfl) (fun _ _ _ _ _ _ us hl => match us, hl with | [_, _], _ => rfl) fun cdv A outer s H E hr => ?_
  have nd := sc_Eapply.nd
  refine ⟨_, (pss_one (ps_ret (pe_callG G_add (hr.mono (by decide)) (pa_cons (pe_propG T.cls_E T.p_survivors G_Esurvivors (hr.mono (by decide)) (pv 0)) (pa_cons (pe_callG G_drop (hr.mono (by decide)) (pa_cons (pe_methG T.cls_E T.m_Epool G_Epool (hr.mono (by decide)) (pv 0) (pa_cons (pv 1) pa_nil)) (pa_cons (pe_propG T.cls_E T.p_removals G_Eremovals (hr.mono (by decide)) (pv 0)) pa_nil))) pa_nil))))), ?_⟩
  rintro ⟨e, b⟩ vs Q ⟨he, hb, hn, hl⟩ ⟨v1, _, rfl, h1, v2, _, rfl, h2, rfl⟩ q
  have hn : e.R - tot e.I + tot e.S ≤ tot b := hn
  have hl : b.length + (e.I.length + e.S.length) + e.S.length ≤ 1000 := hl
  have lp : (poolB e b).length ≤ b.length + (e.I.length + e.S.length) := by
    have := addB_len b (subB e.I e.S)
    have := subB_len e.I e.S
    unfold poolB
    omega
  refine s_ret (ev_call (e.S, dropB (poolB e b) e.R) ⟨he.s, dropB_bag _ (addB_bag _ _), by have := dropB_len (poolB e b) e.R; show e.S.length + (dropB (poolB e b) e.R).length ≤ 1000; omega⟩ (ea2 (ev_prop e rfl trivial (ev_var rfl h1) eff_ins)
    (ev_call (poolB e b, e.R) trivial (ea2 (ev_meth (e, b) rfl ⟨he, hb, hn, by show b.length + (e.I.length + e.S.length) ≤ 1000; omega⟩ (ev_var rfl h1) (ea1 (ev_var rfl h2)) (eff_meth (by decide +kernel))) (ev_prop e rfl trivial (ev_var rfl h1) eff_ins))))) fun v H3 e3 p => q v H3 e3 p
end
end K79
end
section
set_option linter.all false
set_option Elab.async false
/-! Chains of levels, their sums, and the two ways of counting them. Plain Lean. -/
namespace K79
/-! ### sums over an interval -/
def isum (F : Int → Int) (a : Int) : Nat → Int
  | 0 => 0
  | n + 1 => isum F a n + F (a + (n : Int))
theorem isum_congr {F G : Int → Int} {a : Int} : ∀ {n : Nat}, (∀ i : Nat, i < n → F (a + i) = G (a + i)) → isum F a n = isum G a n
  | 0, _ => rfl
  | n + 1, h => by
    unfold isum
    rw [isum_congr fun i hi => h i (by omega), h n (by omega)]
theorem isum_zero {F : Int → Int} {a : Int} : ∀ {n : Nat}, (∀ i : Nat, i < n → F (a + i) = 0) → isum F a n = 0
  | 0, _ => rfl
  | n + 1, h => by
    unfold isum
    rw [isum_zero fun i hi => h i (by omega), h n (by omega)]
    rfl
theorem isum_app (F : Int → Int) (a : Int) (n : Nat) : ∀ m : Nat, isum F a (n + m) = isum F a n + isum F (a + n) m
  | 0 => by simp [isum]
  | m + 1 => by
    show isum F a (n + m) + F (a + ((n + m : Nat) : Int)) = _
    rw [isum_app F a n m, show isum F (a + n) (m + 1) = isum F (a + n) m + F (a + n + m) from rfl]
    have : a + ((n + m : Nat) : Int) = a + n + m := by omega
    rw [this]
    omega
theorem isum_add (F G : Int → Int) (a : Int) : ∀ n : Nat, isum (fun u => F u + G u) a n = isum F a n + isum G a n
  | 0 => rfl
  | n + 1 => by
    unfold isum
    rw [isum_add F G a n]
    omega
theorem isum_mul (F : Int → Int) (k a : Int) : ∀ n : Nat, isum (fun u => F u * k) a n = isum F a n * k
  | 0 => by simp [isum]
  | n + 1 => by
    unfold isum
    rw [isum_mul F k a n, Int.add_mul]
theorem isum_le {F G : Int → Int} {a : Int} : ∀ {n : Nat}, (∀ i : Nat, i < n → F (a + i) ≤ G (a + i)) → isum F a n ≤ isum G a n
  | 0, _ => Int.le_refl _
  | n + 1, h => by
    unfold isum
    have := isum_le (n := n) fun i hi => h i (by omega)
    have := h n (by omega)
    omega
/-- a window within an interval -/
theorem isum_window (F : Int → Int) {a : Int} {n : Nat} {lo hi : Int} (h1 : a ≤ lo) (h2 : hi ≤ a + n - 1) (h3 : lo ≤ hi + 1) : isum (fun u => if lo ≤ u ∧ u ≤ hi then F u else 0) a n = isum F lo (hi + 1 - lo).toNat := by
  have e : n = (lo - a).toNat + ((hi + 1 - lo).toNat + (a + n - 1 - hi).toNat) := by omega
  have z1 : isum (fun u => if lo ≤ u ∧ u ≤ hi then F u else 0) a (lo - a).toNat = 0 := isum_zero fun i hi' => by rw [if_neg (by omega)]
  have z3 : isum (fun u => if lo ≤ u ∧ u ≤ hi then F u else 0) (a + ((lo - a).toNat : Int) + ((hi + 1 - lo).toNat : Int)) (a + n - 1 - hi).toNat = 0 := isum_zero fun i hi' => by rw [if_neg (by omega)]
  have e2 : a + ((lo - a).toNat : Int) = lo := by omega
  have z2 : isum (fun u => if lo ≤ u ∧ u ≤ hi then F u else 0) (a + ((lo - a).toNat : Int)) (hi + 1 - lo).toNat = isum F lo (hi + 1 - lo).toNat := by
    rw [e2]
    exact isum_congr fun i hi' => by rw [if_pos (by omega)]
  rw [e, isum_app, isum_app, z1, z2, z3]
  omega
theorem isum_none (F : Int → Int) {a : Int} {n : Nat} {lo hi : Int} (h : hi < lo) : isum (fun u => if lo ≤ u ∧ u ≤ hi then F u else 0) a n = 0 := isum_zero fun i _ => by rw [if_neg (by omega)]

/-! ### chains -/
def Chn : List Int → Int → List Int → Prop
  | [], _, s => s = []
  | c :: cs, v, s => ∃ u r, s = u :: r ∧ v ≤ u ∧ u ≤ v + c ∧ Chn cs u r
def csum (g : List Int → Int) : List Int → Int → Int
  | [], _ => g []
  | c :: cs, v => isum (fun u => csum (fun r => g (u :: r)) cs u) v (c + 1).toNat
def lastD (v : Int) : List Int → Int
  | [] => v
  | u :: r => lastD u r
theorem Chn.len : ∀ {cs : List Int} {v : Int} {s : List Int}, Chn cs v s → s.length = cs.length
  | [], _, _, h => by rw [show _ = [] from h] <;> rfl
  | c :: cs, v, _, ⟨u, r, e, _, _, h⟩ => by rw [e, List.length_cons, List.length_cons, Chn.len h]
theorem csum_congr : ∀ {cs : List Int} {v : Int} {g g' : List Int → Int}, (∀ s, Chn cs v s → g s = g' s) → csum g cs v = csum g' cs v
  | [], v, g, g', h => h [] rfl
  | c :: cs, v, g, g', h => isum_congr fun i hi => csum_congr fun r hr => h _ ⟨_, r, rfl, by omega, by omega, hr⟩
theorem csum_le : ∀ {cs : List Int} {v : Int} {g g' : List Int → Int}, (∀ s, Chn cs v s → g s ≤ g' s) → csum g cs v ≤ csum g' cs v
  | [], v, g, g', h => h [] rfl
  | c :: cs, v, g, g', h => isum_le fun i hi => csum_le fun r hr => h _ ⟨_, r, rfl, by omega, by omega, hr⟩
theorem csum_add : ∀ {cs : List Int} {v : Int} (g g' : List Int → Int), csum (fun s => g s + g' s) cs v = csum g cs v + csum g' cs v
  | [], v, g, g' => rfl
  | c :: cs, v, g, g' => by
    show isum _ v _ = _
    rw [isum_congr (G := fun u => csum (fun r => g (u :: r)) cs u + csum (fun r => g' (u :: r)) cs u) fun i _ => csum_add _ _, isum_add] <;> rfl
theorem csum_zero {cs : List Int} {v : Int} {g : List Int → Int} (h : ∀ s, Chn cs v s → g s = 0) : csum g cs v = 0 := by
  have z : ∀ (cs : List Int) (v : Int), csum (fun _ => 0) cs v = 0 := by
    intro cs
    induction cs with
    | nil => exact fun _ => rfl
    | cons c cs ih => exact fun v => isum_zero fun i _ => ih _
  rw [csum_congr h, z]
open Classical in
theorem csum_one : ∀ {cs : List Int} {v : Int} {s0 : List Int}, Chn cs v s0 → csum (fun s => if s = s0 then 1 else 0) cs v = 1
  | [], v, s0, h => by
    rw [show s0 = [] from h]
    show (if ([] : List Int) = [] then (1 : Int) else 0) = 1
    rw [if_pos rfl]
  | c :: cs, v, _, ⟨u, r, rfl, h1, h2, h⟩ => by
    show isum (fun w => csum (fun q => if w :: q = u :: r then (1 : Int) else 0) cs w) v (c + 1).toNat = 1
    have e : ∀ w, csum (fun q => if w :: q = u :: r then (1 : Int) else 0) cs w = if u ≤ w ∧ w ≤ u then 1 else 0 := fun w => by
      by_cases z : w = u
      · subst z
        rw [if_pos ⟨Int.le_refl _, Int.le_refl _⟩]
        refine (csum_congr fun s _ => ?_).trans (csum_one h)
        by_cases k : s = r
        · rw [if_pos (by rw [k]), if_pos k]
        · rw [if_neg (fun q => k (List.cons.inj q).2), if_neg k]
      · rw [if_neg (by omega)]
        exact csum_zero fun s _ => if_neg fun q => z (List.cons.inj q).1
    rw [isum_congr (G := fun w => if u ≤ w ∧ w ≤ u then 1 else 0) fun i _ => e _, isum_window (fun _ => 1) h1 (by omega) (by omega)]
    have : (u + 1 - u).toNat = 1 := by omega
    rw [this]
    rfl
theorem csum_nonneg {cs : List Int} {v : Int} {g : List Int → Int} (h : ∀ s, Chn cs v s → 0 ≤ g s) : 0 ≤ csum g cs v := by
  have := csum_le (g := fun _ => 0) h
  rw [csum_zero (g := fun _ => 0) fun _ _ => rfl] at this
  exact this

/-! ### the count, place by place -/
/-- what one place does to a function of the level behind it -/
def stepF (Q : Int → Bool) (c : Int) (f : Int → Int) (b : Int) : Int := isum (fun u => if Q u = true then f u else 0) b (c + 1).toNat
def numW : List (Int × (Int → Bool)) → (Int → Int) → Int → Int
  | [], f => f
  | p :: r, f => stepF p.2 p.1 (numW r f)
def allQ : List (Int × (Int → Bool)) → List Int → Bool
  | [], _ => true
  | p :: r, u :: s => p.2 u && allQ r s
  | _ :: _, [] => false
theorem numW_csum : ∀ (PS : List (Int × (Int → Bool))) (f : Int → Int) (v : Int), numW PS f v = csum (fun s => if allQ PS s = true then f (lastD v s) else 0) (PS.map (·.1)) v
  | [], f, v => by
    show f v = if true = true then f v else 0
    rw [if_pos rfl]
  | p :: r, f, v => by
    show isum (fun u => if p.2 u = true then numW r f u else 0) v (p.1 + 1).toNat = isum (fun u => csum (fun s => if (p.2 u && allQ r s) = true then f (lastD u s) else 0) (r.map (·.1)) u) v (p.1 + 1).toNat
    refine isum_congr fun i _ => ?_
    rw [numW_csum r f]
    by_cases h : p.2 (v + i) = true
    · rw [if_pos h, h]
      rfl
    · rw [if_neg h]
      rw [csum_zero fun s _ => by rw [Bool.eq_false_iff.mpr h]; rfl]
theorem stepF_add (Q : Int → Bool) (c : Int) (f g : Int → Int) (b : Int) : stepF Q c (fun u => f u + g u) b = stepF Q c f b + stepF Q c g b := by
  unfold stepF
  rw [← isum_add]
  refine isum_congr fun i _ => ?_
  show (if Q (b + i) = true then f (b + i) + g (b + i) else 0) = (if Q (b + i) = true then f (b + i) else 0) + (if Q (b + i) = true then g (b + i) else 0)
  by_cases h : Q (b + i) = true
  · rw [if_pos h, if_pos h, if_pos h]
  · rw [if_neg h, if_neg h, if_neg h]
    rfl
/-- the program's step: from each size to the levels within its bounds -/
theorem stepF_range {lo hi c : Int} (hc : 0 ≤ c) (f : Int → Int) (b : Int) : stepF (fun u => decide (lo ≤ u ∧ u ≤ hi)) c f b = isum f (max b lo) (min (b + c) hi + 1 - max b lo).toNat := by
  unfold stepF
  have e : ∀ u, (if decide (lo ≤ u ∧ u ≤ hi) = true then f u else 0) = if lo ≤ u ∧ u ≤ hi then f u else 0 := fun u => by
    by_cases h : lo ≤ u ∧ u ≤ hi
    · rw [if_pos h, if_pos (decide_eq_true h)]
    · rw [if_neg h, if_neg (by rw [decide_eq_false h]; decide)]
  by_cases h : max b lo ≤ min (b + c) hi
  · rw [isum_congr (G := fun u => if max b lo ≤ u ∧ u ≤ min (b + c) hi then f u else 0), isum_window f (by omega) (by omega) (by omega)]
    intro i hi'
    rw [e]
    by_cases z : lo ≤ b + i ∧ b + i ≤ hi
    · rw [if_pos z, if_pos (by omega)]
    · rw [if_neg z, if_neg (by omega)]
  · have z : (min (b + c) hi + 1 - max b lo).toNat = 0 := by omega
    rw [z]
    exact isum_zero fun i hi' => by rw [e, if_neg (by omega)]
/-- adding f n * k at each of an interval's levels -/
theorem wsum_const (k : Int) (f : Int → Int) : ∀ L : Bag, wsum (fun n => f n * k) L = wsum f L * k
  | [] => by simp [wsum]
  | e :: r => by
    simp only [wsum, wsum_const k f r, Int.add_mul, Int.mul_assoc, Int.mul_comm k]
/-- the law's step: to each level from the sizes below it -/
theorem wsum_swap (Q : Int → Bool) (c top : Int) (f : Int → Int) (hc : 0 ≤ c) : ∀ L : Bag, (∀ e ∈ L, 0 ≤ e.1 ∧ e.1 + c ≤ top) →
    isum (fun u => if Q u = true then f u * (L.map fun e => if u - c ≤ e.1 ∧ e.1 ≤ u then e.2 else 0).sum else 0) 0 (top + 1).toNat = wsum (stepF Q c f) L
  | [], _ => by
    simp only [List.map_nil, List.sum_nil, Int.mul_zero, wsum]
    exact isum_zero fun i _ => by split <;> rfl
  | e :: r, h => by
    have ih := wsum_swap Q c top f hc r fun x hx => h x (List.mem_cons_of_mem _ hx)
    have he := h e List.mem_cons_self
    simp only [wsum]
    rw [← ih]
    have s1 : isum (fun u => if Q u = true then f u * (List.map (fun e => if u - c ≤ e.1 ∧ e.1 ≤ u then e.2 else 0) (e :: r)).sum else 0) 0 (top + 1).toNat =
        isum (fun u => (if e.1 ≤ u ∧ u ≤ e.1 + c then (if Q u = true then f u else 0) else 0) * e.2 + (if Q u = true then f u * (r.map fun e => if u - c ≤ e.1 ∧ e.1 ≤ u then e.2 else 0).sum else 0)) 0 (top + 1).toNat := by
      refine isum_congr fun i _ => ?_
      simp only [List.map_cons, List.sum_cons]
      by_cases q : Q (0 + i) = true
      · simp only [q, if_true, Int.mul_add]
        by_cases z : e.1 ≤ (0 + i : Int) ∧ (0 + i : Int) ≤ e.1 + c
        · rw [if_pos (by omega), if_pos z]
        · rw [if_neg (by omega), if_neg z]
          simp
      · simp only [q, if_false, Bool.false_eq_true]
        simp
    rw [s1, isum_add, isum_mul, isum_window (fun u => if Q u = true then f u else 0) he.1 (by omega) (by omega)]
    have : (e.1 + c + 1 - e.1).toNat = (c + 1).toNat := by omega
    rw [this]
    rfl
end K79
end
section
set_option linter.all false
set_option Elab.async false
/-! Survivors as chains of levels; what agrees with observations. Plain Lean. -/
namespace K79
def cts (I : Bag) : List Int := I.map (·.2)
def lvl : Bag → List Int → Int → Int → Int
  | e :: I, u :: s, p, x => if e.1 ≤ x then lvl I s u x else p
  | [], _, p, _ => p
  | _ :: _, [], p, _ => p
def diffs : Bag → List Int → Int → Bag
  | e :: I, u :: s, p => (e.1, u - p) :: diffs I s u
  | [], _, _ => []
  | _ :: _, [], _ => []
def bagOf (I : Bag) (s : List Int) : Bag := nf (diffs I s 0)
theorem diffs_mem : ∀ {I : Bag} {s : List Int} {p : Int} {q : Int × Int}, q ∈ diffs I s p → ∃ e ∈ I, e.1 = q.1
  | e :: I, u :: s, p, q, h => by
    rcases List.mem_cons.mp h with z | z
    · exact ⟨e, List.mem_cons_self, by rw [z]⟩
    · obtain ⟨f, h1, h2⟩ := diffs_mem z
      exact ⟨f, List.mem_cons_of_mem _ h1, h2⟩
  | [], _, _, _, h => by cases h
  | _ :: _, [], _, _, h => by cases h
theorem diffs_len : ∀ (I : Bag) (s : List Int) (p : Int), (diffs I s p).length ≤ I.length
  | e :: I, u :: s, p => by have := diffs_len I s u; simp only [diffs, List.length_cons]; omega
  | [], _, _ => Nat.le_refl _
  | _ :: _, [], _ => Nat.zero_le _
theorem diffs_dist : ∀ {I : Bag} (s : List Int) (p : Int), IsBag I → Dist (diffs I s p)
  | e :: I, u :: s, p, h => dist_cons.mpr ⟨fun q hq => by
      obtain ⟨f, h1, h2⟩ := diffs_mem hq
      have := h.above f h1
      show q.1 ≠ e.1
      omega, diffs_dist s u h.tail⟩
  | [], _, _, _ => by simp [diffs, Dist]
  | _ :: _, [], _, _ => by simp [diffs, Dist]
theorem diffs_cnt : ∀ {I : Bag} {s : List Int} {p : Int}, IsBag I → Chn (cts I) p s → ∀ m, 0 ≤ cnt (diffs I s p) m ∧ cnt (diffs I s p) m ≤ cnt I m
  | [], _, _, _, _, m => ⟨Int.le_refl _, Int.le_refl _⟩
  | e :: I, _, p, h, ⟨u, r, rfl, h1, h2, h3⟩, m => by
    obtain ⟨a, b⟩ := diffs_cnt h.tail h3 m
    have h2 : u ≤ p + e.2 := h2
    simp only [diffs, cnt_cons]
    split <;> omega
theorem lev_diffs : ∀ {I : Bag} {s : List Int} {p : Int} (x : Int), IsBag I → Chn (cts I) p s → lev (diffs I s p) x = lvl I s p x - p
  | [], _, p, x, _, _ => by simp only [diffs, lvl, lev_nil]; omega
  | e :: I, _, p, x, h, ⟨u, r, rfl, h1, h2, h3⟩ => by
    simp only [diffs, lvl, lev_cons]
    by_cases z : e.1 ≤ x
    · rw [if_pos z, if_pos z, lev_diffs x h.tail h3]
      omega
    · rw [if_neg z, if_neg z, lev_none fun q hq => by
        obtain ⟨f, k1, k2⟩ := diffs_mem hq
        have := h.above f k1
        omega]
      omega
theorem nf_lev {L : Bag} (h : ∀ m, 0 ≤ cnt L m) (x : Int) : lev (nf L) x = lev L x := lev_ext (fun m => nf_cnt' h m) x
theorem nf_tot {L : Bag} (h : ∀ m, 0 ≤ cnt L m) : tot (nf L) = tot L := tot_ext fun m => nf_cnt' h m
section
variable {I : Bag} {s : List Int} (hI : IsBag I) (hs : Chn (cts I) 0 s)
theorem bagOf_bag (I : Bag) (s : List Int) : IsBag (bagOf I s) := nf_bag _
include hI hs in
theorem bagOf_lev (x : Int) : lev (bagOf I s) x = lvl I s 0 x := by
  unfold bagOf
  rw [nf_lev fun m => (diffs_cnt hI hs m).1, lev_diffs x hI hs]
  omega
include hI hs in
theorem bagOf_has : Has I (bagOf I s) := fun m => by
  unfold bagOf
  rw [nf_cnt' fun k => (diffs_cnt hI hs k).1]
  exact (diffs_cnt hI hs m).2
theorem bagOf_len (I : Bag) (s : List Int) : (bagOf I s).length ≤ I.length := Nat.le_trans (nf_len _) (diffs_len _ _ _)
end
theorem lvl_top : ∀ {I : Bag} {s : List Int} {p x : Int}, Chn (cts I) p s → (∀ e ∈ I, e.1 ≤ x) → lvl I s p x = lastD p s
  | [], _, p, x, h, _ => by rw [show _ = [] from h] <;> rfl
  | e :: I, _, p, x, ⟨u, r, rfl, _, _, h3⟩, hx => by
    simp only [lvl, lastD]
    rw [if_pos (hx e List.mem_cons_self), lvl_top h3 fun f hf => hx f (List.mem_cons_of_mem _ hf)]
theorem bagOf_tot {I : Bag} {s : List Int} (hI : IsBag I) (hs : Chn (cts I) 0 s) : tot (bagOf I s) = lastD 0 s := by
  obtain ⟨M, hM⟩ := exists_top (bagOf I s ++ I)
  rw [← lev_all fun p hp => hM p (List.mem_append_left _ hp), bagOf_lev hI hs, lvl_top hs fun e he => hM e (List.mem_append_right _ he)]
/-- the levels of a bag at the inserted numbers -/
def sl (I S : Bag) : List Int := I.map fun e => lev S e.1
theorem lev_flat {b : Bag} {y x : Int} (h : y ≤ x) (hb : ∀ q ∈ b, q.1 ≤ y ∨ x < q.1) : lev b x = lev b y := by
  induction b with
  | nil => rfl
  | cons e r ih =>
    rw [lev_cons, lev_cons, ih fun q hq => hb q (List.mem_cons_of_mem _ hq)]
    rcases hb e List.mem_cons_self with z | z
    · rw [if_pos z, if_pos (by omega)]
    · rw [if_neg (by omega), if_neg (by omega)]
theorem sl_lvl {S : Bag} : ∀ {I : Bag} {z x : Int}, I.Pairwise (fun p q => p.1 < q.1) → (∀ e ∈ I, z < e.1) → (∀ q ∈ S, q.1 ≤ z ∨ ∃ e ∈ I, e.1 = q.1) → z ≤ x → lvl I (sl I S) (lev S z) x = lev S x
  | [], z, x, _, _, hS, hx => by
    show lev S z = lev S x
    exact (lev_flat hx fun q hq => .inl ((hS q hq).resolve_right fun ⟨_, h, _⟩ => by cases h)).symm
  | e :: I, z, x, hp, hz, hS, hx => by
    obtain ⟨h1, h2⟩ := List.pairwise_cons.mp hp
    show (if e.1 ≤ x then lvl I (sl I S) (lev S e.1) x else lev S z) = lev S x
    by_cases k : e.1 ≤ x
    · rw [if_pos k]
      refine sl_lvl h2 h1 (fun q hq => ?_) k
      rcases hS q hq with a | ⟨f, hf, ef⟩
      · have := hz e List.mem_cons_self
        exact .inl (by omega)
      · rcases List.mem_cons.mp hf with b | b
        · exact .inl (by rw [← ef, b]; exact Int.le_refl _)
        · exact .inr ⟨f, b, ef⟩
    · rw [if_neg k]
      refine (lev_flat hx fun q hq => ?_).symm
      rcases hS q hq with a | ⟨f, hf, ef⟩
      · exact .inl a
      · rcases List.mem_cons.mp hf with b | b
        · exact .inr (by rw [← ef, b]; omega)
        · have := h1 f b
          exact .inr (by omega)
theorem sl_chn {S : Bag} (hSb : IsBag S) : ∀ {I : Bag} {z : Int}, I.Pairwise (fun p q => p.1 < q.1) → (∀ e ∈ I, z < e.1) → (∀ q ∈ S, q.1 ≤ z ∨ ∃ e ∈ I, e.1 = q.1) → (∀ e ∈ I, cnt S e.1 ≤ e.2) → Chn (cts I) (lev S z) (sl I S)
  | [], z, _, _, _, _ => rfl
  | e :: I, z, hp, hz, hS, hc => by
    obtain ⟨h1, h2⟩ := List.pairwise_cons.mp hp
    have hze := hz e List.mem_cons_self
    have c1 := cnt_lev e.1 S
    have c2 : lev S (e.1 - 1) = lev S z := lev_flat (by omega) fun q hq => by
      rcases hS q hq with a | ⟨f, hf, ef⟩
      · exact .inl a
      · rcases List.mem_cons.mp hf with b | b
        · exact .inr (by rw [← ef, b]; omega)
        · have := h1 f b
          exact .inr (by omega)
    have c3 := hSb.cnt_nonneg e.1
    have c4 := hc e List.mem_cons_self
    refine ⟨lev S e.1, sl I S, rfl, by omega, (by omega : lev S e.1 ≤ lev S z + e.2), sl_chn hSb h2 h1 (fun q hq => ?_) fun f hf => hc f (List.mem_cons_of_mem _ hf)⟩
    rcases hS q hq with a | ⟨f, hf, ef⟩
    · exact .inl (by omega)
    · rcases List.mem_cons.mp hf with b | b
      · exact .inl (by rw [← ef, b]; exact Int.le_refl _)
      · exact .inr ⟨f, b, ef⟩
theorem exists_low (b : Bag) (x : Int) : ∃ z : Int, z ≤ x ∧ ∀ p ∈ b, z < p.1 := by
  induction b with
  | nil => exact ⟨x, Int.le_refl _, fun _ h => by cases h⟩
  | cons e r ih =>
    obtain ⟨z, h1, h2⟩ := ih
    refine ⟨min z (e.1 - 1), by omega, fun p hp => ?_⟩
    rcases List.mem_cons.mp hp with k | k
    · rw [k]; omega
    · have := h2 p k; omega
theorem has_mem {I S : Bag} (hS : IsBag S) (h : Has I S) : ∀ q ∈ S, ∃ e ∈ I, e.1 = q.1 := fun q hq => by
  have : cnt S q.1 ≠ 0 := by
    have h1 : 1 ≤ q.2 := hS.2 q hq
    have : ∀ {b : Bag}, IsBag b → q ∈ b → q.2 ≤ cnt b q.1 := by
      intro b
      induction b with
      | nil => intro _ h; cases h
      | cons e r ih =>
        intro hb hm
        rw [cnt_cons]
        rcases List.mem_cons.mp hm with z | z
        · have := hb.tail.cnt_nonneg q.1
          rw [← z, if_pos rfl]
          omega
        · have := ih hb.tail z
          have := hb.2 e List.mem_cons_self
          split <;> omega
    have := this hS hq
    omega
  have h2 := hS.cnt_nonneg q.1
  have h3 := h q.1
  exact cnt_pos_mem (by omega)
theorem mem_cnt_bag {b : Bag} (h : IsBag b) {q : Int × Int} (hq : q ∈ b) : cnt b q.1 = q.2 := by
  induction b with
  | nil => cases hq
  | cons e r ih =>
    rw [cnt_cons]
    rcases List.mem_cons.mp hq with z | z
    · rw [← z, if_pos rfl, cnt_none fun p hp => by have := h.above p hp; rw [← z] at this; omega]
      omega
    · have := h.above q z
      rw [if_neg (by omega), ih h.tail z]
      omega
section
variable {I S : Bag} (hI : IsBag I) (hS : IsBag S) (h : Has I S)
include hI hS h
theorem sl_chain : Chn (cts I) 0 (sl I S) := by
  obtain ⟨z, _, hz⟩ := exists_low (I ++ S) 0
  have e : lev S z = 0 := lev_none fun p hp => hz p (List.mem_append_right _ hp)
  have := sl_chn hS (z := z) hI.1 (fun e he => hz e (List.mem_append_left _ he)) (fun q hq => .inr (has_mem hS h q hq)) fun e he => by
    have := h e.1
    rw [mem_cnt_bag hI he] at this
    exact this
  rw [e] at this
  exact this
theorem sl_level (x : Int) : lvl I (sl I S) 0 x = lev S x := by
  obtain ⟨z, hx, hz⟩ := exists_low (I ++ S) x
  have e : lev S z = 0 := lev_none fun p hp => hz p (List.mem_append_right _ hp)
  have := sl_lvl (S := S) (z := z) (x := x) hI.1 (fun e he => hz e (List.mem_append_left _ he)) (fun q hq => .inr (has_mem hS h q hq)) hx
  rw [e] at this
  exact this
theorem bagOf_sl : bagOf I (sl I S) = S := (bagOf_bag _ _).eq_lev hS fun x => by rw [bagOf_lev hI (sl_chain hI hS h), sl_level hI hS h]
theorem sl_last : lastD 0 (sl I S) = tot S := by
  rw [← bagOf_tot hI (sl_chain hI hS h), bagOf_sl hI hS h]
end

/-! ### agreeing -/
def Agr (I : Bag) (R : Int) (o : Bag × Bag) (f : Int → Int) : Prop := ∀ x, lev o.2 x = max (f x) (lev o.1 x + lev I x - R)
structure Sol (I : Bag) (R : Int) (obs : List (Bag × Bag)) (s : List Int) : Prop where
  chn : Chn (cts I) 0 s
  last : tot I - R ≤ lastD 0 s
  agr : ∀ o ∈ obs, Agr I R o (lvl I s 0)
/-- places -/
def plc (I : Bag) (x : Int) : Int := ((I.filter fun e => decide (e.1 ≤ x)).length : Int) - 1
def numI (I : Bag) (i : Nat) : Int := (I.getD i (0, 0)).1
theorem filt_sorted : ∀ {I : Bag} {x : Int}, I.Pairwise (fun p q => p.1 < q.1) → (∀ e ∈ I, x < e.1) → (I.filter fun e => decide (e.1 ≤ x)) = [] := fun _ h => List.filter_eq_nil_iff.mpr fun e he => by have := h e he; simp; omega
theorem lvl_plc : ∀ {I : Bag} {s : List Int} {p x : Int}, I.Pairwise (fun p q => p.1 < q.1) → s.length = I.length → lvl I s p x = if plc I x < 0 then p else s.getD (plc I x).toNat 0
  | [], s, p, x, _, hs => by simp [lvl, plc]
  | e :: I, [], p, x, _, hs => by simp at hs
  | e :: I, u :: s, p, x, hp, hs => by
    obtain ⟨h1, h2⟩ := List.pairwise_cons.mp hp
    unfold lvl plc
    by_cases z : e.1 ≤ x
    · rw [if_pos z, List.filter_cons_of_pos (by simpa using z), lvl_plc h2 (by simpa using hs)]
      unfold plc
      simp only [List.length_cons]
      by_cases k : (I.filter fun e => decide (e.1 ≤ x)).length = 0
      · simp [k]
      · rw [if_neg (by omega), if_neg (by omega)]
        have e1 : (((I.filter fun e => decide (e.1 ≤ x)).length + 1 : Nat) - 1 : Int).toNat = (((I.filter fun e => decide (e.1 ≤ x)).length : Int) - 1).toNat + 1 := by omega
        rw [e1, List.getD_cons_succ]
    · have : ((e :: I).filter fun e => decide (e.1 ≤ x)) = [] := filt_sorted hp fun f hf => by
        rcases List.mem_cons.mp hf with q | q
        · rw [q]; omega
        · have := h1 f q; omega
      rw [if_neg z, this]
      simp
theorem plc_lt (I : Bag) (x : Int) : plc I x < I.length := by
  have := List.length_filter_le (fun e : Int × Int => decide (e.1 ≤ x)) I
  unfold plc
  omega
theorem plc_ge (I : Bag) (x : Int) : -1 ≤ plc I x := by unfold plc; omega
theorem plc_flat {I : Bag} {y x : Int} (h : y ≤ x) (hb : ∀ q ∈ I, q.1 ≤ y ∨ x < q.1) : plc I x = plc I y := by
  unfold plc
  congr 3
  refine List.filter_congr fun e he => ?_
  rcases hb e he with z | z
  · rw [decide_eq_true z, decide_eq_true (by omega)]
  · rw [decide_eq_false (by omega), decide_eq_false (by omega)]
/-- chains within the inserted numbers -/
theorem Chn.get : ∀ {I : Bag} {p : Int} {s : List Int}, IsBag I → Chn (cts I) p s → ∀ i, i < I.length → p ≤ s.getD i 0 ∧ s.getD i 0 ≤ p + lev I (numI I i)
  | [], _, _, _, _, i, hi => by simp at hi
  | e :: I, p, _, hI, ⟨u, r, rfl, h1, h2, h3⟩, i, hi => by
    have h2 : u ≤ p + e.2 := h2
    cases i with
    | zero =>
      simp only [List.getD_cons_zero, numI]
      rw [lev_cons, if_pos (Int.le_refl _), lev_none (b := I) fun q hq => hI.above q hq]
      omega
    | succ i =>
      have hi' : i < I.length := by simpa using hi
      obtain ⟨a, b⟩ := Chn.get hI.tail h3 i hi'
      simp only [List.getD_cons_succ, numI]
      have : I[i]? = some I[i] := List.getElem?_eq_getElem hi'
      have ab : e.1 < (I.getD i (0, 0)).1 := by
        rw [List.getD_eq_getElem?_getD, this]
        exact hI.above _ (List.getElem_mem hi')
      rw [lev_cons, if_pos (by omega)]
      unfold numI at b
      omega
theorem lastD_get : ∀ {s : List Int} {p : Int}, lastD p s = if s.length = 0 then p else s.getD (s.length - 1) 0
  | [], p => rfl
  | [u], p => rfl
  | u :: a :: b, p => by
    show lastD u (a :: b) = _
    rw [lastD_get, if_neg (by simp), if_neg (by simp)]
    simp only [List.length_cons]
    rw [show b.length + 1 + 1 - 1 = (b.length + 1 - 1) + 1 by omega, List.getD_cons_succ]
theorem Chn.step : ∀ {I : Bag} {p : Int} {s : List Int}, Chn (cts I) p s → ∀ i, i + 1 < I.length → s.getD i 0 ≤ s.getD (i + 1) 0 ∧ s.getD (i + 1) 0 ≤ s.getD i 0 + (I.getD (i + 1) (0, 0)).2
  | [], _, _, _, i, hi => by simp at hi
  | e :: I, p, _, ⟨u, r, rfl, h1, h2, h3⟩, i, hi => by
    have hi' : i < I.length := by simpa using hi
    cases i with
    | zero =>
      cases I with
      | nil => simp at hi'
      | cons f I =>
        obtain ⟨w, q, rfl, k1, k2, _⟩ := h3
        simp only [List.getD_cons_zero, List.getD_cons_succ]
        exact ⟨k1, k2⟩
    | succ i =>
      simp only [List.getD_cons_succ]
      exact Chn.step h3 i hi'
theorem Chn.of_steps : ∀ {I : Bag} {p : Int} {s : List Int}, s.length = I.length → (0 < I.length → p ≤ s.getD 0 0 ∧ s.getD 0 0 ≤ p + (I.getD 0 (0, 0)).2) → (∀ i, i + 1 < I.length → s.getD i 0 ≤ s.getD (i + 1) 0 ∧ s.getD (i + 1) 0 ≤ s.getD i 0 + (I.getD (i + 1) (0, 0)).2) → Chn (cts I) p s
  | [], _, s, h, _, _ => List.eq_nil_of_length_eq_zero h
  | e :: I, p, [], h, _, _ => by simp at h
  | e :: I, p, u :: r, h, h0, hs => by
    obtain ⟨a, b⟩ := h0 (by simp)
    simp only [List.getD_cons_zero] at a b
    refine ⟨u, r, rfl, a, b, Chn.of_steps (by simpa using h) (fun hl => ?_) fun i hi => ?_⟩
    · have := hs 0 (by simpa using hl)
      simpa using this
    · have := hs (i + 1) (by simpa using hi)
      simpa using this
end K79
end
section
set_option linter.all false
set_option Elab.async false
/-! The bounds of the levels: observed, restricted, settled. Plain Lean. -/
namespace K79
structure LS where
  lo : Nat → Int
  hi : Nat → Int
  p : Bool
def setN (f : Nat → Int) (i : Nat) (v : Int) : Nat → Int := fun j => if j = i then v else f j
def rst (s : LS) (place least most : Int) : LS :=
  if place < 0 then { s with p := s.p && decide (least ≤ 0 ∧ 0 ≤ most) } else { s with lo := setN s.lo place.toNat (max (s.lo place.toNat) least), hi := setN s.hi place.toNat (min (s.hi place.toNat) most) }
def obsS (I : Bag) (R : Int) (s : LS) (x b a : Int) : LS := rst s (plc I x) (if a > b + lev I x - R then a else 0) a
def inB (m : Nat) (s : LS) (c : List Int) : Prop := ∀ i, i < m → s.lo i ≤ c.getD i 0 ∧ c.getD i 0 ≤ s.hi i
/-- what the bounds say after the points D -/
def J (I : Bag) (R : Int) (D : List (Int × Int × Int)) (s : LS) : Prop := s.p = true ∧ ∀ i, i < I.length → ∀ v : Int, (s.lo i ≤ v ∧ v ≤ s.hi i) ↔ (0 ≤ v ∧ v ≤ lev I (numI I i) ∧ ∀ t ∈ D, plc I t.1 = i → (t.2.2 > t.2.1 + lev I t.1 - R → t.2.2 ≤ v) ∧ v ≤ t.2.2)
def ls0 (I : Bag) : LS := ⟨fun _ => 0, fun i => lev I (numI I i), true⟩
theorem J.start (I : Bag) (R : Int) : J I R [] (ls0 I) := ⟨rfl, fun i _ v => ⟨fun h => ⟨h.1, h.2, fun t ht => by cases ht⟩, fun h => ⟨h.1, h.2.1⟩⟩⟩
theorem J.obs {I : Bag} {R : Int} {D : List (Int × Int × Int)} {s : LS} {x b a : Int} (h : J I R D s) (h0 : 0 ≤ a) (hn : plc I x < 0 → a > b + lev I x - R → a ≤ 0) : J I R ((x, b, a) :: D) (obsS I R s x b a) := by
  obtain ⟨hp, hv⟩ := h
  unfold obsS rst
  by_cases z : plc I x < 0
  · rw [if_pos z]
    refine ⟨?_, fun i hi v => ?_⟩
    · show (s.p && decide _) = true
      rw [hp, decide_eq_true]
      · rfl
      · refine ⟨?_, h0⟩
        split
        · exact hn z (by assumption)
        · exact Int.le_refl _
    · show s.lo i ≤ v ∧ v ≤ s.hi i ↔ _
      rw [hv i hi v]
      refine and_congr_right fun _ => and_congr_right fun _ => ⟨fun h t ht => ?_, fun h t ht => h t (List.mem_cons_of_mem _ ht)⟩
      rcases List.mem_cons.mp ht with q | q
      · intro e
        rw [q] at e
        have e : plc I x = i := e
        omega
      · exact h t q
  · rw [if_neg z]
    refine ⟨hp, fun i hi v => ?_⟩
    show setN s.lo (plc I x).toNat _ i ≤ v ∧ v ≤ setN s.hi (plc I x).toNat _ i ↔ _
    unfold setN
    by_cases k : i = (plc I x).toNat
    · rw [if_pos k, if_pos k, ← k]
      have := hv i hi v
      constructor
      · intro h
        obtain ⟨h1, h2, h3⟩ := this.mp ⟨by omega, by omega⟩
        refine ⟨h1, h2, fun t ht => ?_⟩
        rcases List.mem_cons.mp ht with q | q
        · intro _
          rw [q]
          refine ⟨fun g => ?_, by show v ≤ a; omega⟩
          have g : a > b + lev I x - R := g
          rw [if_pos g] at h
          show a ≤ v
          omega
        · exact h3 t q
      · rintro ⟨h1, h2, h3⟩
        obtain ⟨g1, g2⟩ := this.mpr ⟨h1, h2, fun t ht => h3 t (List.mem_cons_of_mem _ ht)⟩
        obtain ⟨k1, k2⟩ := h3 (x, b, a) List.mem_cons_self (by show plc I x = i; omega)
        have k2 : v ≤ a := k2
        refine ⟨?_, by omega⟩
        split
        · have := k1 (by assumption)
          have this : a ≤ v := this
          omega
        · omega
    · rw [if_neg k, if_neg k, hv i hi v]
      refine and_congr_right fun _ => and_congr_right fun _ => ⟨fun h t ht => ?_, fun h t ht => h t (List.mem_cons_of_mem _ ht)⟩
      rcases List.mem_cons.mp ht with q | q
      · intro e
        rw [q] at e
        have e : plc I x = i := e
        omega
      · exact h t q
/-- the points of an observation -/
def InPts (I : Bag) (o : Bag × Bag) (x : Int) : Prop := (∃ q ∈ o.1, q.1 = x) ∨ (∃ q ∈ o.2, q.1 = x) ∨ ∃ q ∈ I, q.1 = x
def DAll (I : Bag) (obs : List (Bag × Bag)) (D : List (Int × Int × Int)) : Prop := ∀ t, t ∈ D ↔ ∃ o ∈ obs, InPts I o t.1 ∧ t.2 = (lev o.1 t.1, lev o.2 t.1)
/-- observations that some survivors explain -/
structure Feas (I : Bag) (R : Int) (obs : List (Bag × Bag)) : Prop where
  i : IsBag I
  r : 0 ≤ R
  ok : ∀ o ∈ obs, IsBag o.1 ∧ IsBag o.2 ∧ tot o.2 = tot o.1 + tot I - R
  ex : ∃ s, Sol I R obs s
theorem floor_of (L : List Int) (x : Int) : (∃ y ∈ L, y ≤ x ∧ ∀ z ∈ L, z ≤ x → z ≤ y) ∨ ∀ z ∈ L, x < z := by
  induction L with
  | nil => exact .inr fun _ h => by cases h
  | cons a L ih =>
    by_cases ha : a ≤ x
    · rcases ih with ⟨y, hy, h1, h2⟩ | h
      · by_cases k : y ≤ a
        · refine .inl ⟨a, List.mem_cons_self, ha, fun z hz hx => ?_⟩
          rcases List.mem_cons.mp hz with q | q
          · rw [q]; exact Int.le_refl _
          · have := h2 z q hx; omega
        · refine .inl ⟨y, List.mem_cons_of_mem _ hy, h1, fun z hz hx => ?_⟩
          rcases List.mem_cons.mp hz with q | q
          · rw [q]; omega
          · exact h2 z q hx
      · refine .inl ⟨a, List.mem_cons_self, ha, fun z hz hx => ?_⟩
        rcases List.mem_cons.mp hz with q | q
        · rw [q]; exact Int.le_refl _
        · have := h z q; omega
    · rcases ih with ⟨y, hy, h1, h2⟩ | h
      · refine .inl ⟨y, List.mem_cons_of_mem _ hy, h1, fun z hz hx => ?_⟩
        rcases List.mem_cons.mp hz with q | q
        · omega
        · exact h2 z q hx
      · refine .inr fun z hz => ?_
        rcases List.mem_cons.mp hz with q | q
        · omega
        · exact h z q
/-- a law at every point holds everywhere -/
theorem agr_of_pts {I : Bag} {R : Int} {o : Bag × Bag} {c : List Int} (hR : 0 ≤ R) (hI : IsBag I) (hc : c.length = I.length) (h : ∀ x, InPts I o x → lev o.2 x = max (lvl I c 0 x) (lev o.1 x + lev I x - R)) : Agr I R o (lvl I c 0) := fun x => by
  rcases floor_of ((o.1 ++ o.2 ++ I).map (·.1)) x with ⟨y, hy, h1, h2⟩ | hn
  · have pt : InPts I o y := by
      obtain ⟨q, hq, e⟩ := List.mem_map.mp hy
      rcases List.mem_append.mp hq with k | k
      · rcases List.mem_append.mp k with k | k
        · exact .inl ⟨q, k, e⟩
        · exact .inr (.inl ⟨q, k, e⟩)
      · exact .inr (.inr ⟨q, k, e⟩)
    have flat : ∀ q ∈ o.1 ++ o.2 ++ I, q.1 ≤ y ∨ x < q.1 := fun q hq => by
      by_cases k : q.1 ≤ x
      · exact .inl (h2 q.1 (List.mem_map.mpr ⟨q, hq, rfl⟩) k)
      · exact .inr (by omega)
    have f1 := lev_flat h1 fun q hq => flat q (List.mem_append_left _ (List.mem_append_left _ hq))
    have f2 := lev_flat h1 fun q hq => flat q (List.mem_append_left _ (List.mem_append_right _ hq))
    have f3 := lev_flat h1 fun q hq => flat q (List.mem_append_right _ hq)
    have f4 := plc_flat h1 fun q hq => flat q (List.mem_append_right _ hq)
    have := h y pt
    rw [lvl_plc hI.1 hc] at this ⊢
    rw [f1, f2, f3, f4]
    exact this
  · have below : ∀ q ∈ o.1 ++ o.2 ++ I, x < q.1 := fun q hq => hn q.1 (List.mem_map.mpr ⟨q, hq, rfl⟩)
    have f1 : lev o.1 x = 0 := lev_none fun q hq => below q (List.mem_append_left _ (List.mem_append_left _ hq))
    have f2 : lev o.2 x = 0 := lev_none fun q hq => below q (List.mem_append_left _ (List.mem_append_right _ hq))
    have f3 : lev I x = 0 := lev_none fun q hq => below q (List.mem_append_right _ hq)
    have f4 : plc I x < 0 := by
      unfold plc
      rw [filt_sorted hI.1 fun q hq => below q (List.mem_append_right _ hq)]
      decide
    rw [lvl_plc hI.1 hc, if_pos f4, f1, f2, f3]
    omega
theorem Feas.pt {I : Bag} {R : Int} {obs : List (Bag × Bag)} (F : Feas I R obs) {o : Bag × Bag} (ho : o ∈ obs) (x : Int) : 0 ≤ lev o.2 x ∧ lev o.1 x + lev I x - R ≤ lev o.2 x ∧ (plc I x < 0 → lev o.2 x > lev o.1 x + lev I x - R → lev o.2 x ≤ 0) := by
  obtain ⟨s, hs⟩ := F.ex
  have h := hs.agr o ho x
  refine ⟨lev_nonneg (F.ok o ho).2.1 x, by omega, fun z g => ?_⟩
  have hl := hs.chn.len
  rw [lvl_plc F.i.1 (by rw [hl]; unfold cts; rw [List.length_map]), if_pos z] at h
  omega
/-- the bounds behind all points and the last restriction say just what agrees -/
theorem J.sol {I : Bag} {R : Int} {obs : List (Bag × Bag)} {D : List (Int × Int × Int)} {s : LS} (F : Feas I R obs) (h : J I R D s) (hD : DAll I obs D) {c : List Int} (hc : Chn (cts I) 0 c) :
    inB I.length (rst s ((I.length : Int) - 1) (tot I - R) (tot I)) c ↔ Sol I R obs c := by
  have hlen : c.length = I.length := by
    have := hc.len
    unfold cts at this
    rwa [List.length_map] at this
  have key : inB I.length s c ↔ ∀ o ∈ obs, Agr I R o (lvl I c 0) := by
    constructor
    · intro hb o ho
      refine agr_of_pts F.r F.i hlen fun x hx => ?_
      obtain ⟨p1, p2, p3⟩ := F.pt ho x
      rw [lvl_plc F.i.1 hlen]
      by_cases z : plc I x < 0
      · rw [if_pos z]
        have := p3 z
        omega
      · rw [if_neg z]
        have hlt := plc_lt I x
        have hi : (plc I x).toNat < I.length := by omega
        obtain ⟨k1, k2, k3⟩ := (h.2 _ hi _).mp (hb _ hi)
        obtain ⟨k4, k5⟩ := k3 (x, lev o.1 x, lev o.2 x) ((hD _).mpr ⟨o, ho, hx, rfl⟩) (by show plc I x = _; omega)
        have k5 : c.getD (plc I x).toNat 0 ≤ lev o.2 x := k5
        by_cases g : lev o.2 x > lev o.1 x + lev I x - R
        · have k4 : lev o.2 x ≤ c.getD (plc I x).toNat 0 := k4 g
          omega
        · omega
    · intro ha i hi
      refine (h.2 i hi _).mpr ?_
      obtain ⟨g1, g2⟩ := hc.get F.i i hi
      refine ⟨g1, by omega, fun t ht e => ?_⟩
      obtain ⟨o, ho, hx, et⟩ := (hD t).mp ht
      have := ha o ho t.1
      rw [lvl_plc F.i.1 hlen, if_neg (by omega), show (plc I t.1).toNat = i by omega] at this
      rw [et]
      show (lev o.2 t.1 > lev o.1 t.1 + lev I t.1 - R → lev o.2 t.1 ≤ c.getD i 0) ∧ c.getD i 0 ≤ lev o.2 t.1
      omega
  have hlast : lastD 0 c = if I.length = 0 then 0 else c.getD (I.length - 1) 0 := by rw [lastD_get, hlen]
  by_cases z : I.length = 0
  · have e : I = [] := List.eq_nil_of_length_eq_zero z
    constructor
    · intro _
      refine ⟨hc, ?_, key.mp fun i hi => by omega⟩
      rw [hlast, if_pos z, e, tot_nil]
      have := F.r
      omega
    · intro _ i hi
      omega
  · rw [if_neg z] at hlast
    have hr : rst s ((I.length : Int) - 1) (tot I - R) (tot I) = { s with lo := setN s.lo (I.length - 1) (max (s.lo (I.length - 1)) (tot I - R)), hi := setN s.hi (I.length - 1) (min (s.hi (I.length - 1)) (tot I)) } := by
      unfold rst
      rw [if_neg (by omega), show ((I.length : Int) - 1).toNat = I.length - 1 by omega]
    have htop : c.getD (I.length - 1) 0 ≤ tot I := by
      have := (hc.get F.i (I.length - 1) (by omega)).2
      have := lev_le_tot F.i (numI I (I.length - 1))
      omega
    rw [hr]
    constructor
    · intro hb
      have hb' : inB I.length s c := fun i hi => by
        have := hb i hi
        unfold setN at this
        by_cases k : i = I.length - 1
        · simp only [k, if_true] at this ⊢
          omega
        · simpa only [k, if_false] using this
      refine ⟨hc, ?_, key.mp hb'⟩
      rw [hlast]
      have := hb (I.length - 1) (by omega)
      unfold setN at this
      simp only [if_true] at this
      omega
    · intro hs i hi
      have hb := key.mpr hs.agr i hi
      have := hs.last
      rw [hlast] at this
      show setN s.lo _ _ i ≤ _ ∧ _ ≤ setN s.hi _ _ i
      unfold setN
      by_cases k : i = I.length - 1
      · simp only [k, if_true] at hb ⊢
        omega
      · simpa only [k, if_false] using hb

/-! ### settling -/
structure Set0 (I : Bag) (s : LS) (G : List Int → Prop) : Prop where
  eqv : ∀ c, Chn (cts I) 0 c → (inB I.length s c ↔ G c)
  low : ∀ i, i < I.length → 0 ≤ s.lo i
  top : 0 < I.length → s.hi 0 ≤ (I.getD 0 (0, 0)).2
  p : s.p = true
def Fw (I : Bag) (k : Nat) (s : LS) : Prop := ∀ j, 1 ≤ j → j < k → s.lo (j - 1) ≤ s.lo j ∧ s.hi j ≤ s.hi (j - 1) + (I.getD j (0, 0)).2
def Bw (I : Bag) (k : Nat) (s : LS) : Prop := ∀ j, k ≤ j → 1 ≤ j → j < I.length → s.lo j - (I.getD j (0, 0)).2 ≤ s.lo (j - 1) ∧ s.hi (j - 1) ≤ s.hi j
def fwd (I : Bag) (s : LS) (k : Nat) : LS := rst s k (s.lo (k - 1)) (s.hi (k - 1) + (I.getD k (0, 0)).2)
def bwd (I : Bag) (s : LS) (k : Nat) : LS := rst s ((k : Int) - 1) (s.lo k - (I.getD k (0, 0)).2) (s.hi k)
theorem fwd_eq (I : Bag) (s : LS) (k : Nat) : fwd I s k = { s with lo := setN s.lo k (max (s.lo k) (s.lo (k - 1))), hi := setN s.hi k (min (s.hi k) (s.hi (k - 1) + (I.getD k (0, 0)).2)) } := by
  unfold fwd rst
  rw [if_neg (by omega), Int.toNat_natCast]
theorem bwd_eq (I : Bag) (s : LS) {k : Nat} (h : 1 ≤ k) : bwd I s k = { s with lo := setN s.lo (k - 1) (max (s.lo (k - 1)) (s.lo k - (I.getD k (0, 0)).2)), hi := setN s.hi (k - 1) (min (s.hi (k - 1)) (s.hi k)) } := by
  unfold bwd rst
  rw [if_neg (by omega), show ((k : Int) - 1).toNat = k - 1 by omega]
theorem Set0.fwd {I : Bag} {s : LS} {G : List Int → Prop} {k : Nat} (h : Set0 I s G) (h1 : 1 ≤ k) (hk : k < I.length) : Set0 I (fwd I s k) G := by
  rw [fwd_eq]
  refine ⟨fun c hc => (h.eqv c hc).symm.trans ?_ |>.symm, fun i hi => ?_, fun hl => ?_, h.p⟩
  · constructor
    · intro hb i hi
      have b1 := hb i hi
      show setN s.lo k _ i ≤ _ ∧ _ ≤ setN s.hi k _ i
      unfold setN
      by_cases z : i = k
      · subst z
        have b2 := hb (i - 1) (by omega)
        have st := hc.step (i - 1) (by omega)
        rw [show i - 1 + 1 = i by omega] at st
        simp only [if_true]
        omega
      · simpa only [z, if_false] using b1
    · intro hb i hi
      have b1 := hb i hi
      unfold setN at b1
      by_cases z : i = k
      · simp only [z, if_true] at b1 ⊢
        omega
      · simpa only [z, if_false] using b1
  · have := h.low i hi
    show 0 ≤ setN s.lo k _ i
    unfold setN
    split
    · rename_i z
      rw [← z]
      omega
    · exact this
  · show setN s.hi k _ 0 ≤ _
    unfold setN
    rw [if_neg (by omega)]
    exact h.top hl
theorem Fw.fwd {I : Bag} {s : LS} {k : Nat} (h1 : 1 ≤ k) (hk : k < I.length) (h : Fw I k s) : Fw I (k + 1) (fwd I s k) := by
  rw [fwd_eq]
  intro j j1 j2
  show setN s.lo k _ (j - 1) ≤ setN s.lo k _ j ∧ setN s.hi k _ j ≤ setN s.hi k _ (j - 1) + _
  unfold setN
  rw [if_neg (show ¬ j - 1 = k by omega), if_neg (show ¬ j - 1 = k by omega)]
  by_cases z : j = k
  · subst z
    simp only [if_true]
    omega
  · simp only [z, if_false]
    exact h j j1 (by omega)
theorem Set0.bwd {I : Bag} {s : LS} {G : List Int → Prop} {k : Nat} (h : Set0 I s G) (h1 : 1 ≤ k) (hk : k < I.length) : Set0 I (bwd I s k) G := by
  rw [bwd_eq I s h1]
  refine ⟨fun c hc => (h.eqv c hc).symm.trans ?_ |>.symm, fun i hi => ?_, fun hl => ?_, h.p⟩
  · constructor
    · intro hb i hi
      have b1 := hb i hi
      show setN s.lo (k - 1) _ i ≤ _ ∧ _ ≤ setN s.hi (k - 1) _ i
      unfold setN
      by_cases z : i = k - 1
      · subst z
        have b2 := hb k hk
        have st := hc.step (k - 1) (by omega)
        rw [show k - 1 + 1 = k by omega] at st
        simp only [if_true]
        omega
      · simpa only [z, if_false] using b1
    · intro hb i hi
      have b1 := hb i hi
      unfold setN at b1
      by_cases z : i = k - 1
      · simp only [z, if_true] at b1 ⊢
        omega
      · simpa only [z, if_false] using b1
  · have := h.low i hi
    show 0 ≤ setN s.lo (k - 1) _ i
    unfold setN
    split
    · rename_i z
      rw [← z]
      omega
    · exact this
  · have := h.top hl
    show setN s.hi (k - 1) _ 0 ≤ _
    unfold setN
    split
    · rename_i z
      rw [← z]
      omega
    · exact this
theorem Fw.bwd {I : Bag} {s : LS} {k : Nat} (h1 : 1 ≤ k) (hk : k < I.length) (hc : ∀ j, j < I.length → 0 ≤ (I.getD j (0, 0)).2) (h : Fw I I.length s) : Fw I I.length (bwd I s k) := by
  rw [bwd_eq I s h1]
  intro j j1 j2
  have g := h j j1 j2
  have cj := hc j j2
  show setN s.lo (k - 1) _ (j - 1) ≤ setN s.lo (k - 1) _ j ∧ setN s.hi (k - 1) _ j ≤ setN s.hi (k - 1) _ (j - 1) + _
  unfold setN
  by_cases z : j = k
  · subst z
    rw [if_pos rfl, if_pos rfl, if_neg (by omega), if_neg (by omega)]
    omega
  · rw [if_neg (show ¬ j - 1 = k - 1 by omega), if_neg (show ¬ j - 1 = k - 1 by omega)]
    by_cases z2 : j = k - 1
    · simp only [z2, if_true] at g ⊢
      omega
    · simp only [z2, if_false]
      exact g
theorem Bw.bwd {I : Bag} {s : LS} {k : Nat} (h1 : 1 ≤ k) (hk : k < I.length) (h : Bw I (k + 1) s) : Bw I k (bwd I s k) := by
  rw [bwd_eq I s h1]
  intro j j1 j2 j3
  show setN s.lo (k - 1) _ j - _ ≤ setN s.lo (k - 1) _ (j - 1) ∧ setN s.hi (k - 1) _ (j - 1) ≤ setN s.hi (k - 1) _ j
  unfold setN
  rw [if_neg (show ¬ j = k - 1 by omega), if_neg (show ¬ j = k - 1 by omega)]
  by_cases z : j = k
  · subst z
    simp only [if_true]
    omega
  · rw [if_neg (by omega), if_neg (by omega)]
    exact h j (by omega) j2 j3
/-- what settled bounds are worth -/
structure Settled (I : Bag) (R : Int) (obs : List (Bag × Bag)) (s : LS) : Prop where
  eqv : ∀ c, Chn (cts I) 0 c → (inB I.length s c ↔ Sol I R obs c)
  lo : Sol I R obs ((List.range I.length).map s.lo)
  hi : Sol I R obs ((List.range I.length).map s.hi)
theorem tab_get (f : Nat → Int) {m i : Nat} (h : i < m) : ((List.range m).map f).getD i 0 = f i := by
  rw [List.getD_eq_getElem?_getD, List.getElem?_map, List.getElem?_range h] <;> rfl
theorem Settled.of {I : Bag} {R : Int} {obs : List (Bag × Bag)} {s : LS} (F : Feas I R obs) (h : Set0 I s (Sol I R obs)) (hf : Fw I I.length s) (hb : Bw I 1 s) : Settled I R obs s := by
  obtain ⟨c0, h0⟩ := F.ex
  have b0 := (h.eqv c0 h0.chn).mpr h0
  have lohi : ∀ i, i < I.length → s.lo i ≤ s.hi i := fun i hi => by have := b0 i hi; omega
  have cl : Chn (cts I) 0 ((List.range I.length).map s.lo) := by
    refine Chn.of_steps (by simp) (fun hl => ?_) fun i hi => ?_
    · rw [tab_get _ hl]
      have := h.low 0 hl
      have := lohi 0 hl
      have := h.top hl
      omega
    · rw [tab_get _ hi, tab_get _ (by omega)]
      have f := hf (i + 1) (by omega) hi
      have b := hb (i + 1) (by omega) (by omega) hi
      simp only [Nat.add_sub_cancel] at f b
      omega
  have ch : Chn (cts I) 0 ((List.range I.length).map s.hi) := by
    refine Chn.of_steps (by simp) (fun hl => ?_) fun i hi => ?_
    · rw [tab_get _ hl]
      have := h.low 0 hl
      have := lohi 0 hl
      have := h.top hl
      omega
    · rw [tab_get _ hi, tab_get _ (by omega)]
      have f := hf (i + 1) (by omega) hi
      have b := hb (i + 1) (by omega) (by omega) hi
      simp only [Nat.add_sub_cancel] at f b
      omega
  refine ⟨h.eqv, (h.eqv _ cl).mp fun i hi => ?_, (h.eqv _ ch).mp fun i hi => ?_⟩
  · rw [tab_get _ hi]
    exact ⟨Int.le_refl _, lohi i hi⟩
  · rw [tab_get _ hi]
    exact ⟨lohi i hi, Int.le_refl _⟩
theorem getD_pos {I : Bag} (hI : IsBag I) : ∀ j, j < I.length → 0 ≤ (I.getD j (0, 0)).2 := fun j hj => by
  rw [List.getD_eq_getElem?_getD, List.getElem?_eq_getElem hj]
  have := hI.2 _ (List.getElem_mem hj)
  show 0 ≤ (I[j]).2
  omega
/-- the state behind the last restriction is fit to be settled -/
theorem J.set0 {I : Bag} {R : Int} {obs : List (Bag × Bag)} {D : List (Int × Int × Int)} {s : LS} (F : Feas I R obs) (h : J I R D s) (hD : DAll I obs D) : Set0 I (rst s ((I.length : Int) - 1) (tot I - R) (tot I)) (Sol I R obs) := by
  obtain ⟨c0, h0⟩ := F.ex
  have b0 := (h.sol F hD h0.chn).mpr h0
  have low : ∀ i, i < I.length → (rst s ((I.length : Int) - 1) (tot I - R) (tot I)).lo i ≤ (rst s ((I.length : Int) - 1) (tot I - R) (tot I)).hi i := fun i hi => by have := b0 i hi; omega
  have grow : ∀ i, i < I.length → s.lo i ≤ (rst s ((I.length : Int) - 1) (tot I - R) (tot I)).lo i ∧ (rst s ((I.length : Int) - 1) (tot I - R) (tot I)).hi i ≤ s.hi i := fun i hi => by
    unfold rst
    rw [if_neg (by omega)]
    show s.lo i ≤ setN s.lo _ _ i ∧ setN s.hi _ _ i ≤ s.hi i
    unfold setN
    split
    · rename_i z
      rw [← z]
      omega
    · omega
  refine ⟨fun c hc => h.sol F hD hc, fun i hi => ?_, fun hl => ?_, ?_⟩
  · obtain ⟨g1, g2⟩ := grow i hi
    have := low i hi
    have := ((h.2 i hi (s.lo i)).mp ⟨Int.le_refl _, by omega⟩).1
    omega
  · obtain ⟨g1, g2⟩ := grow 0 hl
    have := low 0 hl
    have t := ((h.2 0 hl (s.hi 0)).mp ⟨by omega, Int.le_refl _⟩).2.1
    have e : lev I (numI I 0) = (I.getD 0 (0, 0)).2 := by
      cases I with
      | nil => simp at hl
      | cons e r =>
        show lev (e :: r) e.1 = e.2
        rw [lev_cons, if_pos (Int.le_refl _), lev_none fun p hp => F.i.above p hp]
        omega
    omega
  · unfold rst
    split
    · show (s.p && decide _) = true
      have z : I.length = 0 := by omega
      have e : I = [] := List.eq_nil_of_length_eq_zero z
      rw [h.1, decide_eq_true]
      · rfl
      · rw [e, tot_nil]
        have := F.r
        omega
    · exact h.1
end K79
end
section
set_option linter.all false
set_option Elab.async false
/-! What LevelBounds.ways counts. Plain Lean. -/
namespace K79
def psOf : Bag → Nat → LS → List (Int × (Int → Bool))
  | [], _, _ => []
  | e :: I, k, s => (e.2, fun u => decide (s.lo k ≤ u ∧ u ≤ s.hi k)) :: psOf I (k + 1) s
theorem psOf_at : ∀ {I : Bag} {k i : Nat} {s : LS}, i < I.length → (psOf I k s)[i]? = some ((I.getD i (0, 0)).2, fun u => decide (s.lo (k + i) ≤ u ∧ u ≤ s.hi (k + i)))
  | e :: I, k, 0, s, _ => rfl
  | e :: I, k, i + 1, s, h => by
    show (psOf I (k + 1) s)[i]? = _
    rw [psOf_at (by simpa using h), List.getD_cons_succ, show k + 1 + i = k + (i + 1) by omega]
theorem psOf_len : ∀ (I : Bag) (k : Nat) (s : LS), (psOf I k s).length = I.length
  | [], _, _ => rfl
  | e :: I, k, s => by simp only [psOf, List.length_cons]; rw [psOf_len]
theorem psOf_cts : ∀ (I : Bag) (k : Nat) (s : LS), (psOf I k s).map (·.1) = cts I
  | [], _, _ => rfl
  | e :: I, k, s => by
    show e.2 :: (psOf I (k + 1) s).map (·.1) = e.2 :: cts I
    rw [psOf_cts]
theorem numW_snoc (p : Int × (Int → Bool)) (f : Int → Int) : ∀ PS, numW (PS ++ [p]) f = numW PS (stepF p.2 p.1 f)
  | [] => rfl
  | q :: PS => by
    show stepF q.2 q.1 (numW (PS ++ [p]) f) = stepF q.2 q.1 (numW PS (stepF p.2 p.1 f))
    rw [numW_snoc p f PS]
theorem numW_next {PS : List (Int × (Int → Bool))} {i : Nat} {p : Int × (Int → Bool)} (h : PS[i]? = some p) (f : Int → Int) : numW (PS.take (i + 1)) f = numW (PS.take i) (stepF p.2 p.1 f) := by
  rw [List.take_succ, h]
  exact numW_snoc p f _
/-- a dict of counts at levels 0 .. B -/
structure Good (B : Int) (M : Bag) : Prop where
  d : Dist M
  g : ∀ q ∈ M, 1 ≤ q.2 ∧ 0 ≤ q.1 ∧ q.1 ≤ B
theorem Good.nil (B : Int) : Good B [] := ⟨by simp [Dist], fun _ h => by cases h⟩
theorem mem_cntD {L : Bag} (h : Dist L) {e : Int × Int} (he : e ∈ L) : cnt L e.1 = e.2 := by
  induction L with
  | nil => cases he
  | cons x r ih =>
    obtain ⟨h1, h2⟩ := dist_cons.mp h
    rw [cnt_cons]
    rcases List.mem_cons.mp he with z | z
    · subst z
      rw [if_pos rfl, cnt_none h1]
      omega
    · rw [if_neg (fun k => h1 e z k.symm), ih h2 z]
      omega
theorem Good.cnt_nn {B : Int} {M : Bag} (h : Good B M) (n : Int) : 0 ≤ cnt M n := by
  by_cases z : cnt M n = 0
  · omega
  · obtain ⟨p, hp, e⟩ := cnt_pos_mem z
    have := mem_cntD h.d hp
    have := (h.g p hp).1
    rw [e] at *
    omega
theorem Good.put {B : Int} {M : Bag} (h : Good B M) {n k : Int} (h0 : 0 ≤ n) (h1 : n ≤ B) (hk : 1 ≤ k) : Good B (putL M n ((getL M n).getD 0 + k)) := by
  have dd := putL_dist (n := n) (v := (getL M n).getD 0 + k) h.d
  refine ⟨dd, fun q hq => ?_⟩
  have c := mem_cntD dd hq
  rw [putL_cnt h.d] at c
  have nn := h.cnt_nn n
  rw [← getL_cnt h.d] at nn
  by_cases e : q.1 = n
  · rw [if_pos e] at c
    omega
  · rcases putL_mem hq with z | z
    · exact absurd z e
    · exact h.g q z
theorem pigeon : ∀ (b : Nat) {M : Bag}, Dist M → (∀ q ∈ M, 0 ≤ q.1 ∧ q.1 < (b : Int)) → M.length ≤ b
  | 0, M, _, h => by
    cases M with
    | nil => exact Nat.le_refl _
    | cons q M => have := h q List.mem_cons_self; omega
  | b + 1, M, d, h => by
    have key : ∀ M : Bag, Dist M → M.length ≤ (M.filter fun q => !decide (q.1 = (b : Int))).length + 1 := by
      intro M
      induction M with
      | nil => intro _; simp
      | cons e r ih =>
        intro d
        obtain ⟨d1, d2⟩ := dist_cons.mp d
        by_cases z : e.1 = (b : Int)
        · have : (r.filter fun q => !decide (q.1 = (b : Int))) = r := List.filter_eq_self.mpr fun q hq => by
            have := d1 q hq
            have : ¬ q.1 = (b : Int) := by omega
            simp [this]
          rw [List.filter_cons_of_neg (by simp [z]), this, List.length_cons]
          omega
        · have := ih d2
          rw [List.filter_cons_of_pos (by simp [z]), List.length_cons, List.length_cons]
          omega
    have k1 := key M d
    have k2 := pigeon b (M := M.filter fun q => !decide (q.1 = (b : Int))) (by unfold Dist at d ⊢; exact d.sublist (List.filter_sublist.map _)) fun q hq => by
      obtain ⟨q1, q2⟩ := List.mem_filter.mp hq
      have := h q q1
      simp at q2
      omega
    omega
theorem Good.len {B : Nat} {M : Bag} (h : Good (B : Int) M) : M.length ≤ B + 1 := pigeon (B + 1) h.d fun q hq => by have := h.g q hq; omega
theorem wsum_put {M : Bag} (h : Dist M) (f : Int → Int) (n k : Int) : wsum f (putL M n ((getL M n).getD 0 + k)) = wsum f M + f n * k := by
  rw [putL_wsum f h]
  congr 2
  omega
theorem wsum_take {L : Bag} {j : Nat} {e : Int × Int} (h : L[j]? = some e) (f : Int → Int) : wsum f (L.take (j + 1)) = wsum f (L.take j) + f e.1 * e.2 := by
  rw [List.take_succ, h, wsum_append]
  show _ = _
  simp [wsum]
theorem Good.tot {B : Int} {M : Bag} (h : Good B M) : ∀ {f : Int → Int}, (∀ u, 0 ≤ f u) → 0 ≤ wsum f M := by
  intro f hf
  have hg := h.g
  clear h
  induction M with
  | nil => exact Int.le_refl _
  | cons e r ih =>
    have := ih fun q hq => hg q (List.mem_cons_of_mem _ hq)
    have h1 := (hg e List.mem_cons_self).1
    have h2 := hf e.1
    simp only [wsum]
    have := Int.mul_nonneg h2 (show (0 : Int) ≤ e.2 by omega)
    omega
end K79
end
section
set_option linter.all false
set_option Elab.async false
/-! Settled bounds; the count of solutions, their ends and tails. Plain Lean. -/
namespace K79
def fwdK (I : Bag) (s : LS) : Nat → LS
  | 0 => s
  | k + 1 => fwd I (fwdK I s k) (k + 1)
def bwdK (I : Bag) (s : LS) : Nat → LS
  | 0 => s
  | k + 1 => bwd I (bwdK I s k) (I.length - 1 - k)
def setl (I : Bag) (s : LS) : LS := bwdK I (fwdK I s (I.length - 1)) (I.length - 1)
theorem fwdK_ok {I : Bag} {s : LS} {G : List Int → Prop} (h : Set0 I s G) : ∀ k, k ≤ I.length - 1 → Set0 I (fwdK I s k) G ∧ Fw I (k + 1) (fwdK I s k)
  | 0, _ => ⟨h, fun j h1 h2 => by omega⟩
  | k + 1, hk => by
    obtain ⟨a, b⟩ := fwdK_ok h k (by omega)
    exact ⟨a.fwd (by omega) (by omega), b.fwd (by omega) (by omega)⟩
theorem bwdK_ok {I : Bag} {s : LS} {G : List Int → Prop} (hI : IsBag I) (h : Set0 I s G) (hf : Fw I I.length s) : ∀ k, k ≤ I.length - 1 → Set0 I (bwdK I s k) G ∧ Fw I I.length (bwdK I s k) ∧ Bw I (I.length - k) (bwdK I s k)
  | 0, _ => ⟨h, hf, fun j h1 h2 h3 => by omega⟩
  | k + 1, hk => by
    obtain ⟨a, b, c⟩ := bwdK_ok hI h hf k (by omega)
    have e : I.length - k = (I.length - 1 - k) + 1 := by omega
    rw [e] at c
    have e2 : I.length - (k + 1) = I.length - 1 - k := by omega
    rw [e2]
    exact ⟨a.bwd (by omega) (by omega), b.bwd (by omega) (by omega) (getD_pos hI), c.bwd (by omega) (by omega)⟩
theorem setl_ok {I : Bag} {R : Int} {obs : List (Bag × Bag)} {s : LS} (F : Feas I R obs) (h : Set0 I s (Sol I R obs)) : Settled I R obs (setl I s) ∧ (setl I s).p = true := by
  obtain ⟨a, b⟩ := fwdK_ok h (I.length - 1) (Nat.le_refl _)
  by_cases z : I.length = 0
  · have e : setl I s = s := by unfold setl; rw [z]; rfl
    rw [e]
    exact ⟨Settled.of F h (fun j h1 h2 => by omega) (fun j h1 h2 h3 => by omega), h.p⟩
  · rw [show I.length - 1 + 1 = I.length by omega] at b
    obtain ⟨c, d, e⟩ := bwdK_ok F.i a b (I.length - 1) (Nat.le_refl _)
    rw [show I.length - (I.length - 1) = 1 by omega] at e
    exact ⟨Settled.of F c d e, c.p⟩
/-! ### the ends of the solutions -/
structure Ext (I : Bag) (R : Int) (obs : List (Bag × Bag)) (a b : List Int) : Prop where
  la : Sol I R obs a
  lb : Sol I R obs b
  lo : ∀ c, Sol I R obs c → ∀ i, i < I.length → a.getD i 0 ≤ c.getD i 0
  hi : ∀ c, Sol I R obs c → ∀ i, i < I.length → c.getD i 0 ≤ b.getD i 0
theorem Settled.ext {I : Bag} {R : Int} {obs : List (Bag × Bag)} {s : LS} (h : Settled I R obs s) : Ext I R obs ((List.range I.length).map s.lo) ((List.range I.length).map s.hi) :=
  ⟨h.lo, h.hi, fun c hc i hi => by rw [tab_get _ hi]; exact ((h.eqv c hc.chn).mpr hc i hi).1, fun c hc i hi => by rw [tab_get _ hi]; exact ((h.eqv c hc.chn).mpr hc i hi).2⟩
theorem Settled.bd {I : Bag} {R : Int} {obs : List (Bag × Bag)} {s : LS} (hI : IsBag I) (h : Settled I R obs s) {i : Nat} (hi : i < I.length) : 0 ≤ s.lo i ∧ s.lo i ≤ tot I ∧ 0 ≤ s.hi i ∧ s.hi i ≤ tot I := by
  have a := h.lo.chn.get hI i hi
  have b := h.hi.chn.get hI i hi
  rw [tab_get _ hi] at a b
  have := lev_le_tot hI (numI I i)
  omega
theorem sol_len {I : Bag} {R : Int} {obs : List (Bag × Bag)} {c : List Int} (h : Sol I R obs c) : c.length = I.length := by
  have := h.chn.len
  unfold cts at this
  rwa [List.length_map] at this
theorem getD_ext {a b : List Int} (hl : a.length = b.length) (h : ∀ i, i < a.length → a.getD i 0 = b.getD i 0) : a = b := by
  refine List.ext_getElem hl fun i h1 h2 => ?_
  have := h i h1
  rwa [List.getD_eq_getElem?_getD, List.getD_eq_getElem?_getD, List.getElem?_eq_getElem h1, List.getElem?_eq_getElem h2] at this
theorem Ext.uniq {I : Bag} {R R' : Int} {obs obs' : List (Bag × Bag)} {a b a' b' : List Int} (h : Ext I R obs a b) (h' : Ext I R' obs' a' b') (hs : ∀ c, Sol I R obs c ↔ Sol I R' obs' c) : a = a' ∧ b = b' := by
  constructor
  · refine getD_ext (by rw [sol_len h.la, sol_len h'.la]) fun i hi => ?_
    rw [sol_len h.la] at hi
    have := h.lo a' ((hs _).mpr h'.la) i hi
    have := h'.lo a ((hs _).mp h.la) i hi
    omega
  · refine getD_ext (by rw [sol_len h.lb, sol_len h'.lb]) fun i hi => ?_
    rw [sol_len h.lb] at hi
    have := h.hi b' ((hs _).mpr h'.lb) i hi
    have := h'.hi b ((hs _).mp h.lb) i hi
    omega
/-! ### counts -/
open Classical in
noncomputable def solF (I : Bag) (R : Int) (obs : List (Bag × Bag)) (f : Int → Int) : Int := csum (fun c => if Sol I R obs c then f (lastD 0 c) else 0) (cts I) 0
theorem allQ_ps : ∀ {I : Bag} {k : Nat} {s : LS} {c : List Int}, c.length = I.length → (allQ (psOf I k s) c = true ↔ ∀ i, i < I.length → s.lo (k + i) ≤ c.getD i 0 ∧ c.getD i 0 ≤ s.hi (k + i))
  | [], k, s, [], _ => ⟨fun _ i hi => absurd hi (by simp), fun _ => rfl⟩
  | e :: I, k, s, u :: c, h => by
    show (decide (s.lo k ≤ u ∧ u ≤ s.hi k) && allQ (psOf I (k + 1) s) c) = true ↔ _
    rw [Bool.and_eq_true, decide_eq_true_eq, allQ_ps (by simpa using h)]
    constructor
    · rintro ⟨h0, hr⟩ i hi
      cases i with
      | zero => exact h0
      | succ i =>
        have := hr i (by simpa using hi)
        rw [List.getD_cons_succ, show k + (i + 1) = k + 1 + i by omega]
        exact this
    · intro hr
      refine ⟨hr 0 (by simp), fun i hi => ?_⟩
      have := hr (i + 1) (by simpa using hi)
      rw [List.getD_cons_succ, show k + (i + 1) = k + 1 + i by omega] at this
      exact this
  | [], _, _, _ :: _, h => by simp at h
  | _ :: _, _, _, [], h => by simp at h
theorem numW_sol {I : Bag} {R : Int} {obs : List (Bag × Bag)} {s : LS} (h : Settled I R obs s) (f : Int → Int) : numW (psOf I 0 s) f 0 = solF I R obs f := by
  classical
  rw [numW_csum, psOf_cts]
  unfold solF
  refine csum_congr fun c hc => ?_
  have hl : c.length = I.length := by
    have := hc.len
    unfold cts at this
    rwa [List.length_map] at this
  have e : allQ (psOf I 0 s) c = true ↔ Sol I R obs c := by
    rw [allQ_ps hl, ← h.eqv c hc]
    unfold inB
    simp only [Nat.zero_add]
  by_cases z : Sol I R obs c
  · rw [if_pos z, if_pos (e.mpr z)]
  · rw [if_neg z, if_neg fun q => z (e.mp q)]
noncomputable def cntS (I : Bag) (R : Int) (obs : List (Bag × Bag)) : Int := solF I R obs fun _ => 1
noncomputable def tailS (I : Bag) (R : Int) (obs : List (Bag × Bag)) (k : Int) : Int := solF I R obs fun u => if k ≤ u then 1 else 0
theorem solF_congr {I : Bag} {R R' : Int} {obs obs' : List (Bag × Bag)} (hs : ∀ c, Sol I R obs c ↔ Sol I R' obs' c) (f : Int → Int) : solF I R obs f = solF I R' obs' f := by
  classical
  unfold solF
  refine csum_congr fun c _ => ?_
  by_cases z : Sol I R obs c
  · rw [if_pos z, if_pos ((hs c).mp z)]
  · rw [if_neg z, if_neg fun q => z ((hs c).mpr q)]
theorem solF_le {I : Bag} {R R' : Int} {obs obs' : List (Bag × Bag)} (hs : ∀ c, Sol I R obs c → Sol I R' obs' c) {f : Int → Int} (hf : ∀ u, 0 ≤ f u) : solF I R obs f ≤ solF I R' obs' f := by
  classical
  unfold solF
  refine csum_le fun c _ => ?_
  by_cases z : Sol I R obs c
  · rw [if_pos z, if_pos (hs c z)]
    exact Int.le_refl _
  · rw [if_neg z]
    split
    · exact hf _
    · exact Int.le_refl _
/-- at least one -/
theorem one_le_sol {I : Bag} {R : Int} {obs : List (Bag × Bag)} {c : List Int} (h : Sol I R obs c) {f : Int → Int} (hf : ∀ u, 0 ≤ f u) : f (lastD 0 c) ≤ solF I R obs f := by
  classical
  have e : csum (fun s => if s = c then f (lastD 0 c) else 0) (cts I) 0 = f (lastD 0 c) := by
    have h1 := csum_one h.chn
    have gen : ∀ (k : Int) (cs : List Int) (v : Int), csum (fun s => if s = c then k else 0) cs v = csum (fun s => if s = c then 1 else 0) cs v * k := by
      intro k cs
      have mul : ∀ (cs : List Int) (v : Int) (g : List Int → Int), csum (fun s => g s * k) cs v = csum g cs v * k := by
        intro cs
        induction cs with
        | nil => intro v g; rfl
        | cons a cs ih =>
          intro v g
          show isum (fun u => csum (fun r => g (u :: r) * k) cs u) v _ = isum (fun u => csum (fun r => g (u :: r)) cs u) v _ * k
          rw [← isum_mul]
          exact isum_congr fun i _ => ih _ _
      intro v
      rw [← mul]
      refine csum_congr fun s _ => ?_
      split <;> simp
    rw [gen, h1]
    simp
  rw [← e]
  unfold solF
  refine csum_le fun s _ => ?_
  by_cases z : s = c
  · rw [if_pos z, z, if_pos h]
    exact Int.le_refl _
  · rw [if_neg z]
    split
    · exact hf _
    · exact Int.le_refl _
/-- two that differ -/
theorem two_le_sol {I : Bag} {R : Int} {obs : List (Bag × Bag)} {c c' : List Int} (h : Sol I R obs c) (h' : Sol I R obs c') (hne : c ≠ c') {f : Int → Int} (hf : ∀ u, 0 ≤ f u) (h1 : 1 ≤ f (lastD 0 c)) (h2 : 1 ≤ f (lastD 0 c')) : 2 ≤ solF I R obs f := by
  classical
  have e : csum (fun s => (if s = c then (1 : Int) else 0) + if s = c' then 1 else 0) (cts I) 0 = 2 := by
    rw [csum_add, csum_one h.chn, csum_one h'.chn]
    rfl
  rw [← e]
  unfold solF
  refine csum_le fun s _ => ?_
  by_cases z : s = c
  · rw [if_pos z, if_neg (fun q => hne (z.symm.trans q)), z, if_pos h]
    omega
  · rw [if_neg z]
    by_cases z2 : s = c'
    · rw [if_pos z2, z2, if_pos h']
      omega
    · rw [if_neg z2]
      split
      · have := hf (lastD 0 s)
        omega
      · omega
/-- at most one, where all are one -/
theorem sol_le_one {I : Bag} {R : Int} {obs : List (Bag × Bag)} {c : List Int} (h : Sol I R obs c) {f : Int → Int} (hu : ∀ s, Sol I R obs s → f (lastD 0 s) ≠ 0 → s = c) (h1 : f (lastD 0 c) ≤ 1) : solF I R obs f ≤ 1 := by
  classical
  rw [← csum_one h.chn]
  unfold solF
  refine csum_le fun s _ => ?_
  by_cases z : s = c
  · rw [z, if_pos h, if_pos rfl]
    exact h1
  · rw [if_neg z]
    split
    · rename_i hs
      by_cases q : f (lastD 0 s) = 0
      · rw [q]
        exact Int.le_refl _
      · exact absurd (hu s hs q) z
    · exact Int.le_refl _
/-! ### the dict of ways -/
theorem wsum_mono {L : Bag} (hg : ∀ q ∈ L, 0 ≤ q.2) {f g : Int → Int} (h : ∀ q ∈ L, f q.1 ≤ g q.1) : wsum f L ≤ wsum g L := by
  induction L with
  | nil => exact Int.le_refl _
  | cons e r ih =>
    have := ih (fun q hq => hg q (List.mem_cons_of_mem _ hq)) fun q hq => h q (List.mem_cons_of_mem _ hq)
    have := Int.mul_le_mul_of_nonneg_right (h e List.mem_cons_self) (hg e List.mem_cons_self)
    simp only [wsum]
    omega
theorem wsum_add (f g : Int → Int) : ∀ L : Bag, wsum (fun n => f n + g n) L = wsum f L + wsum g L
  | [] => rfl
  | e :: r => by
    simp only [wsum, wsum_add f g r, Int.add_mul]
    omega
abbrev ind (k : Int) : Int → Int := fun u => if k ≤ u then 1 else 0
theorem tail_one {B : Int} {L : Bag} (h : Good B L) {n k : Int} (hk : k ≤ n) : cnt L n ≤ wsum (ind k) L := by
  unfold cnt
  refine wsum_mono (fun q hq => by have := (h.g q hq).1; omega) fun q _ => ?_
  show (if q.1 = n then (1 : Int) else 0) ≤ if k ≤ q.1 then 1 else 0
  split <;> split <;> omega
theorem tail_two {B : Int} {L : Bag} (h : Good B L) {n m k : Int} (hk : k ≤ n) (hm : k ≤ m) (hne : n ≠ m) : cnt L n + cnt L m ≤ wsum (ind k) L := by
  unfold cnt
  rw [← wsum_add]
  refine wsum_mono (fun q hq => by have := (h.g q hq).1; omega) fun q _ => ?_
  show (if q.1 = n then (1 : Int) else 0) + (if q.1 = m then 1 else 0) ≤ if k ≤ q.1 then 1 else 0
  split <;> split <;> split <;> omega
theorem tail_le {B : Int} {L : Bag} (h : Good B L) {n k : Int} (hu : ∀ q ∈ L, k ≤ q.1 → q.1 = n) : wsum (ind k) L ≤ cnt L n := by
  unfold cnt
  refine wsum_mono (fun q hq => by have := (h.g q hq).1; omega) fun q hq => ?_
  have := hu q hq
  show (if k ≤ q.1 then (1 : Int) else 0) ≤ if q.1 = n then 1 else 0
  split <;> split <;> omega
theorem tail_zero {B : Int} {L : Bag} (h : Good B L) {k : Int} (hu : ∀ q ∈ L, q.1 < k) : wsum (ind k) L ≤ 0 := by
  have : wsum (ind k) L ≤ wsum (fun _ => 0) L := wsum_mono (fun q hq => by have := (h.g q hq).1; omega) fun q hq => by
    have := hu q hq
    show (if k ≤ q.1 then (1 : Int) else 0) ≤ 0
    split <;> omega
  have z : ∀ L : Bag, wsum (fun _ => 0) L = 0 := by
    intro L
    induction L with
    | nil => rfl
    | cons e r ih => simp only [wsum, ih]; omega
  rw [z] at this
  exact this
theorem getL_key {L : Bag} (hd : Dist L) {n : Int} (h : ∃ q ∈ L, q.1 = n) : getL L n = some (cnt L n) := by
  rw [← getL_cnt hd]
  cases e : getL L n with
  | none =>
    obtain ⟨q, hq, z⟩ := h
    exact absurd z (getL_none e q hq)
  | some v => rfl
end K79
end
section
set_option Elab.async false
set_option linter.all false
set_option maxRecDepth 100000
set_option maxHeartbeats 4000000
/-! Rules: a set comprehension of ints with two clauses. -/
namespace K79
open PySem PySem.Spec L2
open PyProof.Rows hiding St
/-- {el for ta in ia for tb in ib} -/
abbrev SC2 (el ta ia tb ib : Expr) (sco : Scope) (ps : Pos) : Expr := .SetComp el [⟨ta, ia, [], 0⟩, ⟨tb, ib, [], 0⟩] sco ps
theorem sc2_turn0 (el ta ia tb ib : Expr) (sco : Scope) (ps : Pos) (it acc : Value) (ev : Env) :
    compTurn (SC2 el ta ia tb ib sco ps) 0 it acc ev = (do
      standAt ia.pos
      match ← pyNext it with
      | none => pure (.done .next)
      | some u =>
        letOwnedTupleGo ta it u
        assign ta ev u
        let mut ok := true
        for c in ([] : List Expr) do
          if ok then ok ← isTrue c ev (eval c ev)
        if ok then
          let y ← eval ib ev
          standAt ib.pos
          let y ← foldedSetIterable ib ev y
          let _ ← runOwn (.compStart (SC2 el ta ia tb ib sco ps) 1 (← holding [y] (pyIter y)) acc ev) ev
        again (.compLoop (SC2 el ta ia tb ib sco ps) 0 it acc ev)) := by rfl
theorem sc2_turn1 (el ta ia tb ib : Expr) (sco : Scope) (ps : Pos) (it acc : Value) (ev : Env) :
    compTurn (SC2 el ta ia tb ib sco ps) 1 it acc ev = (do
      standAt ib.pos
      match ← pyNext it with
      | none => pure (.done .next)
      | some u =>
        letOwnedTupleGo tb it u
        assign tb ev u
        let mut ok := true
        for c in ([] : List Expr) do
          if ok then ok ← isTrue c ev (eval c ev)
        if ok then
          (do let y ← eval el ev; standAt el.pos; let _ ← call (.builtin "set.add") [acc, y])
        again (.compLoop (SC2 el ta ia tb ib sco ps) 1 it acc ev)) := by rfl
section
variable {pr : Program} {wd : World} {Ar : Around} {Z : Result → Shared → Prop} {s : Shared} {el ta ia tb ib : Expr} {sco : Scope} {ps : Pos} {it acc : Value} {ev : Env}
/-- what a raise within the block comes to -/
abbrev RaiseTo (pr : Program) (wd : World) (Ar : Around) (ev : Env) (Z : Result → Shared → Prop) : Value → Shared → Prop := notedBy (model pr wd) Ar ev fun x z => Z (.error x) z
theorem sc2_loop0 (hf : ∀ x, foldedSetIterable ib ev x = pure x) (J : Nat → Shared → Prop)
    (turn : ∀ n z, J n z → wpAny (model pr wd) Ar (pyNext it) (fun r z1 => match r with
      | none => Z (.ok .next) z1
      | some u => wpAny (model pr wd) Ar (letOwnedTupleGo ta it u) (fun _ z2 => wpAny (model pr wd) Ar (assign ta ev u) (fun _ z3 =>
          wpAny (model pr wd) Ar (eval ib ev) (fun y z4 => wpAny (model pr wd) Ar (pyIter y) (fun it1 z5 =>
            codeAny (model pr wd) Ar (.compStart (SC2 el ta ia tb ib sco ps) 1 it1 acc ev) (fun r z6 => match r with
              | .ok _ => ∃ m, m < n ∧ J m z6
              | .error _ => False) z5) (RaiseTo pr wd Ar ev Z) z4) (RaiseTo pr wd Ar ev Z) z3) (RaiseTo pr wd Ar ev Z) z2) (RaiseTo pr wd Ar ev Z) z1) (RaiseTo pr wd Ar ev Z) z)
    (n : Nat) (h : J n s) : codeAny (model pr wd) Ar (.compLoop (SC2 el ta ia tb ib sco ps) 0 it acc ev) Z s := by
  refine codeAny_loop rfl J (fun n z hJ => ?_) n h
  show wpAny _ Ar ((compTurn (SC2 el ta ia tb ib sco ps) 0 it acc ev).onRaise (fun x => do noteFrame x ev; theTreesLotGoes x)) _ _ z
  refine wpAny_noted ?_
  rw [sc2_turn0]
  refine wpAny_bind (wpAny_standAt (wpAny_bind (wpAny_mono (turn n z hJ) (fun r z1 h1 => ?_) fun _ _ q => q)))
  cases r with
  | none => exact wpAny_pure h1
  | some u =>
    refine wpAny_bind (wpAny_mono h1 (fun _ z2 h2 => ?_) fun _ _ q => q)
    refine wpAny_bind (wpAny_mono h2 (fun _ z3 h3 => ?_) fun _ _ q => q)
    refine wpAny_bind ?_
    rw [List.forIn_nil]
    refine wpAny_pure ?_
    refine wpAny_bind (wpAny_mono h3 (fun y z4 h4 => ?_) fun _ _ q => q)
    refine wpAny_bind (wpAny_standAt (wpAny_bind (wpAny_of_eq (hf y) (wpAny_bind (wpAny_holding (wpAny_mono h4 (fun it1 z5 h5 => ?_) fun _ _ q => q))))))
    refine wpAny_bind (wpAny_runOwn ?_)
    rw [Around.mark_none]
    refine codeAny_mono h5 fun r z6 hr => ?_
    cases r with
    | ok f =>
      first
        | exact wpAny_pure ⟨rfl, hr⟩
        | exact wpAny_bind (wpAny_pure (wpAny_pure ⟨rfl, hr⟩))
    | error e => exact hr.elim
theorem sc2_loop1 (J : Nat → Shared → Prop)
    (turn : ∀ n z, J n z → wpAny (model pr wd) Ar (pyNext it) (fun r z1 => match r with
      | none => Z (.ok .next) z1
      | some u => wpAny (model pr wd) Ar (letOwnedTupleGo tb it u) (fun _ z2 => wpAny (model pr wd) Ar (assign tb ev u) (fun _ z3 =>
          wpAny (model pr wd) Ar (eval el ev) (fun y z4 =>
            wpAny (model pr wd) Ar (call (.builtin "set.add") [acc, y]) (fun _ z5 => ∃ m, m < n ∧ J m z5) (RaiseTo pr wd Ar ev Z) z4) (RaiseTo pr wd Ar ev Z) z3) (RaiseTo pr wd Ar ev Z) z2) (RaiseTo pr wd Ar ev Z) z1) (RaiseTo pr wd Ar ev Z) z)
    (n : Nat) (h : J n s) : codeAny (model pr wd) Ar (.compLoop (SC2 el ta ia tb ib sco ps) 1 it acc ev) Z s := by
  refine codeAny_loop rfl J (fun n z hJ => ?_) n h
  show wpAny _ Ar ((compTurn (SC2 el ta ia tb ib sco ps) 1 it acc ev).onRaise (fun x => do noteFrame x ev; theTreesLotGoes x)) _ _ z
  refine wpAny_noted ?_
  rw [sc2_turn1]
  refine wpAny_bind (wpAny_standAt (wpAny_bind (wpAny_mono (turn n z hJ) (fun r z1 h1 => ?_) fun _ _ q => q)))
  cases r with
  | none => exact wpAny_pure h1
  | some u =>
    refine wpAny_bind (wpAny_mono h1 (fun _ z2 h2 => ?_) fun _ _ q => q)
    refine wpAny_bind (wpAny_mono h2 (fun _ z3 h3 => ?_) fun _ _ q => q)
    refine wpAny_bind ?_
    rw [List.forIn_nil]
    refine wpAny_pure ?_
    exact wpAny_bind (wpAny_bind (wpAny_mono h3 (fun y z4 h4 => wpAny_bind (wpAny_standAt (wpAny_bind (wpAny_mono h4 (fun _ z5 h5 => wpAny_pure (wpAny_pure ⟨rfl, h5⟩)) fun _ _ q => q)))) fun _ _ q => q))
theorem sc2_start1 (h0 : codeAny (model pr wd) Ar (.compLoop (SC2 el ta ia tb ib sco ps) 1 it acc ev) Z s)
    (h : wpAny (model pr wd) Ar (pyIter it) (fun it1 z => codeAny (model pr wd) Ar (.compLoop (SC2 el ta ia tb ib sco ps) 1 it1 acc ev) Z z) (RaiseTo pr wd Ar ev Z) s) :
    codeAny (model pr wd) Ar (.compStart (SC2 el ta ia tb ib sco ps) 1 it acc ev) Z s := by
  refine codeAny_of_tree ?_
  show wpAny _ _ ((compStart (SC2 el ta ia tb ib sco ps) 1 it acc ev).onRaise (fun x => do noteFrame x ev; standAt theWindowsPlace)) _ _ s
  refine wpAny_notedAt ?_
  unfold compStart
  show wpAny _ _ (ask >>= _) _ _ s
  refine wpAny_bind (wpAny_askSetting (wpAny_ite ?_))
  split
  · first
      | exact wpAny_bind (wpAny_pure (wpAny_pure (And.intro rfl h0)))
      | exact wpAny_pure (And.intro rfl h0)
  · first
      | exact wpAny_bind (wpAny_rule (wpAny_bind (wpAny_standAt (wpAny_bind (wpAny_mono h (fun it' z h' => wpAny_pure (And.intro rfl h')) fun _ _ q => q)))))
      | (refine wpAny_bind (wpAny_rule ?_); show wpAny _ _ (standAt ib.pos >>= _) _ _ s; exact wpAny_bind (wpAny_standAt (wpAny_bind (wpAny_mono h (fun it' z h' => wpAny_pure (And.intro rfl h')) fun _ _ q => q))))
end
section
variable {X : Cx}
/-- set.add of an int -/
theorem addI_ok {pins : List (Addr × Obj)} {σ : L2.St} {H : Hp} {s : Shared} {E : Value → Shared → Prop} {D : Addr} {S : Int → Bool} {n : Nat} {y : Int} {u : Value} {Q : Value → Shared → Prop} (I : Inv X pins σ H s) (hD : H D = some (SetO X.w D S n)) (room : n + 1 < scanBound) (ru : RelV (.int y) u)
    (h : ∀ z, Inv X pins σ (upd H D (SetO X.w D (fun j => S j || decide (j = y)) (if S y = true then n else n + 1))) z → Q .none z) : wpAny (model X.prog X.w) X.A (call (.builtin "set.add") [.ref D, u]) Q E s := by
  obtain ⟨tk, rfl⟩ := ru
  refine setR_add (setO_get I hD) room fun h' sb new => ?_
  have he : ∃ o, h'.get? D = some o := by
    have ⟨o, _, _, _, ho, _⟩ := new
    exact ⟨o, ho⟩
  exact h _ (I.write (e := D) (t' := s.toks + 1) (by rw [hD]; trivial) (.inl rfl) (fun b o hb ho => (sb.2 b hb).trans ho) he (setO_new new))
/-- the set {e for .. for ..}, D the new set; vs: the block's names, vt: those of the second target -/
def tSc2 (w : World) (wi : TI) (g : TG) (wj : TI) (gj : TG) (te : TE) (vs vt : List Nat) : TE := fun σ H Q => wi σ H fun J H1 => ∀ D, H1 D = none → ∃ W : Nat → Nat → Hp → Prop, (∃ m, W 0 m (upd H1 D (SetO w D (fun _ => false) 0))) ∧ ∀ i m H, W i m H →
  (J.stop i H ∧ Q (.ref D) H) ∨ (J.go i H ∧ ∃ Nx : Hp → Prop, (∀ H', Nx H' → ∃ m', m' < m ∧ W (i + 1) m' H') ∧ ∀ x H', J.yld i H x H' → g x (wipe σ vs) H' fun σ2 H2 => wipe σ2 vs = wipe σ vs ∧
    wj σ2 H2 fun J1 H4 => ∃ W1 : Nat → Nat → Hp → Prop, (∃ m, W1 0 m H4) ∧ ∀ j k H, W1 j k H →
      (J1.stop j H ∧ Nx H) ∨ (J1.go j H ∧ ∃ Ny : Hp → Prop, (∀ H', Ny H' → ∃ k', k' < k ∧ W1 (j + 1) k' H') ∧ ∀ x H', J1.yld j H x H' → gj x (wipe σ2 vt) H' fun σ3 H5 => wipe σ3 vt = wipe σ2 vt ∧
        te σ3 H5 fun y H7 => ∃ (c : Int) (S : Int → Bool) (n : Nat), y = .int c ∧ H7 D = some (SetO w D S n) ∧ n + 1 < scanBound ∧ Ny (upd H7 D (SetO w D (fun j => S j || decide (j = c)) (if S c = true then n else n + 1)))))
theorem sc2_core {pins : List (Addr × Obj)} {s : Shared} {σ : L2.St} {H : Hp} {Q : VK} {el ta ia tb ib : Expr} {sco : Scope} {own : List (PySem.Str × Nat)} {vt : List Nat} {ps p2 : Pos} {wi wj : TI} {g gj : TG} {te : TE} {Qf : Value → Shared → Prop}
    (hc : X.calm = true) (hN : X.N.Nodup) (I : Inv X pins σ H s) (hi : PI X ta ia wi) (ok : BlkOk X.N X.env.scope sco own) (hv : ∀ i ∈ vt, i ∈ own.map (·.2))
    (hg : ∀ (s : Shared) (H : Hp) (C : Addr) (cl : List (PySem.Str × Addr)) (fp : List Addr), PG (X.blk s H sco (compEnvC sco cl C X.env) fp) ta g)
    (he : ∀ (s : Shared) (H : Hp) (C : Addr) (cl : List (PySem.Str × Addr)) (fp : List Addr), PE (X.blk s H sco (compEnvC sco cl C X.env) fp) el te) (hs : ∀ x, foldedSetIterable ia X.env x = pure x)
    (hj : ∀ (s : Shared) (H : Hp) (C : Addr) (cl : List (PySem.Str × Addr)) (fp : List Addr), PI (X.blk s H sco (compEnvC sco cl C X.env) fp) tb ib wj)
    (hgj : ∀ (s : Shared) (H : Hp) (C : Addr) (cl : List (PySem.Str × Addr)) (fp : List Addr), PG (X.blk s H sco (compEnvC sco cl C X.env) fp) tb gj)
    (hs1 : ∀ env x, foldedSetIterable ib env x = pure x) (h : tSc2 X.w wi g wj gj te (own.map (·.2)) vt σ H Q)
    (fin : ∀ D C z m H', Inv X pins σ H' z → Q (.ref D) H' → z.heap.Ns C m → FpOk X pins H' C → compPost (model X.prog X.w) X.A X.xe none Qf (.ref D) C (.ok .next) z) :
    wpAny (model X.prog X.w) X.A (comprehension (SC2 el ta ia tb ib sco ps) sco X.env p2 (newSet (.type "set")) false (eval ia X.env) none) Qf X.xe s := by
  have hfree : ∀ y ∈ sco.names, y.2 = .free → ∃ c, X.env.cells.lookup y.1 = some c := fun y hy e => (ok.free y hy e).elim (fun k => I.ok.has _ (.inl k)) fun k => I.ok.has _ (.inr k)
  refine wpAny_comprehension_free (use := none) rfl hs (closure_ok hfree) ok.kind (fun y hy e => by rw [ok.uniq y hy, e])
    (thn (hi.run pins s σ H _ I h) fun xv z1 hx => thn hx fun itv z2 h2 => ?_)
  obtain ⟨it, fp, tn, J, H2, rfl, I2, T, st2, f2, q⟩ := h2
  refine PpSet.newSet_ok (newEnv_comp ?_)
  generalize hD : z2.heap.objs.size = D
  have hDn : H2 D = none := I2.hok.fresh (Nat.le_of_eq hD)
  obtain ⟨W, ⟨m0, w0⟩, turn⟩ := q D hDn
  generalize hz3 : ({ z2 with heap := z2.heap.push { cls := .type "set", dict := none, data := .set #[] 0 (.fresh 0 0 (!X.w.params.followText "set-order")) } } : Shared) = z3
  have I3 : Inv X pins σ (upd H2 D (SetO X.w D (fun _ => false) 0)) z3 := by
    rw [← hz3]
    refine I2.laid (t' := z2.toks) (fun b o e => Heap.get?_push_of_some _ e) (Nat.le_of_eq hD) ?_
    rw [← hD]
    exact setO_new (setR_fresh X.w)
  have h3 : z3.heap = z2.heap.push { cls := .type "set", dict := none, data := .set #[] 0 (.fresh 0 0 (!X.w.params.followText "set-order")) } := by rw [← hz3]
  have f3 : ∀ b ∈ fp, FpOk X pins (upd H2 D (SetO X.w D (fun _ => false) 0)) b ∧ b < z3.heap.objs.size := fun b hb => by
    obtain ⟨o, e, _⟩ := T.obj _ _ st2 b hb
    have hlt : b < z2.heap.objs.size := Heap.lt_size e
    refine ⟨⟨?_, (f2 b hb).2⟩, by rw [h3, Heap.size_push]; exact Nat.lt_succ_of_lt hlt⟩
    rw [upd_ne (by rw [← hD]; exact Nat.ne_of_lt hlt)]
    exact (f2 b hb).1
  have st3 : tn 0 z3.heap := T.keep _ _ _ st2 fun b _ o e => by rw [h3]; exact Heap.get?_push_of_some _ e
  have I4 := block_start I3 ok hN f3
  generalize hcl : cellsFrom (z3.heap.objs.size + 1) sco.names (cloFrom X.env.cells sco.names []) = cl at I4
  have pg := hg z3 (upd H2 D (SetO X.w D (fun _ => false) 0)) z3.heap.objs.size cl fp
  have pe := he z3 (upd H2 D (SetO X.w D (fun _ => false) 0)) z3.heap.objs.size cl fp
  have pj := hj z3 (upd H2 D (SetO X.w D (fun _ => false) 0)) z3.heap.objs.size cl fp
  have pgj := hgj z3 (upd H2 D (SetO X.w D (fun _ => false) 0)) z3.heap.objs.size cl fp
  show codeAny _ _ (.compStart (SC2 el ta ia tb ib sco ps) 0 (.ref it) (.ref D) (compEnvC sco cl z3.heap.objs.size X.env)) (compPost (model X.prog X.w) X.A X.xe none Qf (.ref D) z3.heap.objs.size) { z3 with heap := pushCells (z3.heap.push { cls := .type "dict", data := .dict #[] }) sco.names }
  have nfp : ∀ b ∈ fp, (upd H2 D (SetO X.w D (fun _ => false) 0)) b = none := fun b hb => (f3 b hb).1.1
  generalize hce : compEnvC sco cl z3.heap.objs.size X.env = ce at I4 pg pe pj pgj ⊢
  have cL : ce.locals = z3.heap.objs.size := by subst hce; rfl
  generalize hH3 : upd H2 D (SetO X.w D (fun _ => false) 0) = H3 at I3 I4 pg pe pj pgj w0 nfp f3
  generalize hz4 : ({ z3 with heap := pushCells (z3.heap.push { cls := .type "dict", data := .dict #[] }) sco.names } : Shared) = z4 at I4 ⊢
  have st4 : tn 0 z4.heap := T.keep _ _ _ st3 fun b _ o e => by rw [← hz4]; exact pushCells_keeps _ _ _ _ (Heap.get?_push_of_some _ e)
  generalize hvs : own.map (·.2) = vs at hv turn I4
  let B : Cx := X.blk z3 H3 sco ce fp
  have stat : ∀ {σ' : L2.St} {H' : Hp} {z : Shared}, Inv B [] σ' H' z → (∀ b ∈ fp, H' b = none) → ∀ b ∈ fp, FpOk B [] H' b := fun {σ' H' z} I' hn b hb =>
    ⟨hn b hb, (I'.ok.exf b hb).1, I'.ok.exfs b hb, .inl hb, fun x c e => (I'.ok.exf b hb).2 x c e, fun p hp => absurd (show p ∈ ([] : List (Addr × Obj)) ++ [] from hp) (by simp)⟩
  let Out : Nat → Shared → Prop := fun n z => ∃ i H', Inv B [] (wipe σ vs) H' z ∧ tn i z.heap ∧ (∀ b ∈ fp, H' b = none) ∧ W i n H'
  have loop : codeAny (model X.prog X.w) X.A (.compLoop (SC2 el ta ia tb ib sco ps) 0 (.ref it) (.ref D) ce) (compPost (model X.prog X.w) X.A X.xe none Qf (.ref D) z3.heap.objs.size) z4 := by
    refine sc2_loop0 (hs1 ce) Out ?_ m0 ⟨0, H3, I4, st4, nfp, w0⟩
    rintro n z5 ⟨i, H5, I5, st5, n5, w5⟩
    rcases turn i n H5 w5 with ⟨stop, qq⟩ | ⟨go, Nx, hNx, step⟩
    · refine thnF (T.done B rfl rfl rfl hc i [] z5 _ H5 (fun _ _ => False) I5 (stat I5 n5) st5 stop) fun r z6 ⟨hr, I6⟩ => ?_
      subst hr
      have I7 : Inv X pins σ H5 z6 := I3.call' (ch := fp) I6.os I6.base I6.hok I6.bare fun b hb => ⟨(f3 b hb).1.2.2.2.1, (f3 b hb).1.2.1, (f3 b hb).1.2.2.2.2.1, (f3 b hb).1.2.2.2.2.2⟩
      have nC : H5 z3.heap.objs.size = none := cL ▸ (show H5 ce.locals = none from I6.free)
      obtain ⟨m, hn, _⟩ := I6.loc
      exact fin D z3.heap.objs.size z6 m H5 I7 qq (cL ▸ (show z6.heap.Ns ce.locals m from hn)) (I3.fpOk (Nat.le_refl _) nC)
    · refine thnF (T.item B rfl rfl rfl hc i [] z5 _ H5 (fun _ _ => False) I5 (stat I5 n5) st5 go) fun r z6 ⟨u, hr, h6⟩ => ?_
      subst hr
      refine thnF h6 fun _ z7 ⟨x, H7, I7, r7, y7, st7, n7⟩ => ?_
      have I7' := I7.pinned (stat I7 n7) (T.obj _ _ st7)
      refine thnF (pg.run _ z7 _ H7 x u _ I7' r7 (step x H7 y7)) fun _ z8 ⟨σ8, H8, I8, hw8, q8⟩ => ?_
      have back : ∀ {σ9 : L2.St} {z : Shared} {H' : Hp}, Inv B ([] ++ pinsAt fp z7.heap) σ9 H' z → (wipe σ vs).length = σ9.length → (∀ (j : Nat) v, (wipe σ vs)[j]? = some (some v) → σ9[j]? = some (some v)) → Nx H' → ∃ m, m < n ∧ Out m z := fun {σ9 z H'} I' hl hk nx => by
        obtain ⟨m', hm, w'⟩ := hNx H' nx
        have pin' : ∀ b ∈ fp, ∀ o, z7.heap.get? b = some o → z.heap.get? b = some o ∧ H' b = none := fun b hb o e =>
          let p := I'.pin (b, o) (List.mem_append_right _ (List.mem_append_right _ (mem_pinsAt hb e)))
          ⟨p.1, p.2.1⟩
        refine ⟨m', hm, i + 1, H', (I'.unpinned (pins := [])).weak hl hk, T.keep _ _ _ st7 fun b hb o e => (pin' b hb o e).1, fun b hb => ?_, w'⟩
        obtain ⟨o, e, _⟩ := T.obj _ _ st7 b hb
        exact (pin' b hb o e).2
      have hl8 : (wipe σ vs).length = σ8.length := by rw [← hw8, wipe_length]
      have hk9 : ∀ (j : Nat) v, (wipe σ vs)[j]? = some (some v) → (wipe σ8 vt)[j]? = some (some v) := fun j v e => by
        rw [← hw8] at e
        obtain ⟨e1, e2⟩ := wipe_some e
        rw [wipe_out fun k => e2 (hv j k)]
        exact e1
      refine thnF (pj.run _ z8 σ8 H8 _ I8 q8) fun xv z10 hx => thnF hx fun itv z11 h11 => ?_
      obtain ⟨ix, fq, tm, J1, H11, rfl, I11, T1, st11, f11, W1, ⟨m1, w1⟩, turn1⟩ := h11
      have stat1 : ∀ {H' : Hp}, (∀ b ∈ fq, H' b = none) → ∀ b ∈ fq, FpOk B ([] ++ pinsAt fp z7.heap) H' b := fun hn b hb => ⟨hn b hb, (f11 b hb).2⟩
      have loop1 : codeAny (model X.prog X.w) X.A (.compLoop (SC2 el ta ia tb ib sco ps) 1 (.ref ix) (.ref D) ce)
          (fun r z => match r with
            | .ok _ => ∃ m, m < n ∧ Out m z
            | .error _ => False) z11 := by
        refine sc2_loop1 (fun k z => ∃ j H', Inv B ([] ++ pinsAt fp z7.heap) (wipe σ8 vt) H' z ∧ tm j z.heap ∧ (∀ b ∈ fq, H' b = none) ∧ W1 j k H') ?_ m1 ⟨0, H11, I11.weak (wipe_length _ _) (fun j v e => (wipe_some e).1), st11, fun b hb => (f11 b hb).1, w1⟩
        rintro k z12 ⟨j, H12, I12, st12, n12, w12⟩
        rcases turn1 j k H12 w12 with ⟨stop1, nx1⟩ | ⟨go1, Ny, hNy, step1⟩
        · refine thnF (T1.done B rfl rfl rfl hc j _ z12 (wipe σ8 vt) H12 (fun _ _ => False) I12 (stat1 n12) st12 stop1) fun r z13 ⟨hr, I13⟩ => ?_
          subst hr
          exact back I13 (hl8.trans (wipe_length σ8 vt).symm) hk9 nx1
        · refine thnF (T1.item B rfl rfl rfl hc j _ z12 (wipe σ8 vt) H12 (fun _ _ => False) I12 (stat1 n12) st12 go1) fun r z13 ⟨u1, hr, h13⟩ => ?_
          subst hr
          refine thnF h13 fun _ z14 ⟨x1, H14, I14, r14, y14, st14, n14⟩ => ?_
          have I14' := I14.pinned (stat1 n14) (T1.obj _ _ st14)
          refine thnF (pgj.run _ z14 (wipe σ8 vt) H14 x1 u1 _ I14' r14 (step1 x1 H14 y14)) fun _ z15 ⟨σ15, H15, I15, hw15, q15⟩ => ?_
          refine thnF (pe.run _ z15 σ15 H15 _ I15 q15) fun y z17 ⟨yv, H17, I17, r17, c, S0, n0, ey, hD17, hz17, nx⟩ => ?_
          subst ey
          refine addI_ok (X := B) I17 hD17 hz17 r17 fun z18 I18 => ?_
          obtain ⟨m', hm, w'⟩ := hNy _ nx
          have pin' : ∀ b ∈ fq, ∀ o, z14.heap.get? b = some o → z18.heap.get? b = some o ∧ _ = none := fun b hb o e =>
            let p := I18.pin (b, o) (List.mem_append_right _ (List.mem_append_right _ (mem_pinsAt hb e)))
            ⟨p.1, p.2.1⟩
          refine ⟨m', hm, j + 1, _, I18.unpinned.weak (by rw [← hw15, wipe_length]) (fun j v e => by rw [← hw15] at e; exact (wipe_some e).1), T1.keep _ _ _ st14 fun b hb o e => (pin' b hb o e).1, fun b hb => ?_, w'⟩
          obtain ⟨o, e, _⟩ := T1.obj _ _ st14 b hb
          exact (pin' b hb o e).2
      exact sc2_start1 loop1 (T1.self X.A 0 _ _ _ st11 loop1)
  exact PpSet.codeAny_compStart_set loop (T.self X.A 0 _ _ _ st4 loop)
theorem pe_sc2 {el ta ia tb ib : Expr} {sco : Scope} {own : List (PySem.Str × Nat)} {vt : List Nat} {ps : Pos} {wi wj : TI} {g gj : TG} {te : TE}
    (hc : X.calm = true) (hN : X.N.Nodup) (hi : PI X ta ia wi) (ok : BlkOk X.N X.env.scope sco own) (hv : ∀ i ∈ vt, i ∈ own.map (·.2))
    (hg : ∀ (s : Shared) (H : Hp) (C : Addr) (cl : List (PySem.Str × Addr)) (fp : List Addr), PG (X.blk s H sco (compEnvC sco cl C X.env) fp) ta g)
    (hj : ∀ (s : Shared) (H : Hp) (C : Addr) (cl : List (PySem.Str × Addr)) (fp : List Addr), PI (X.blk s H sco (compEnvC sco cl C X.env) fp) tb ib wj)
    (hgj : ∀ (s : Shared) (H : Hp) (C : Addr) (cl : List (PySem.Str × Addr)) (fp : List Addr), PG (X.blk s H sco (compEnvC sco cl C X.env) fp) tb gj)
    (he : ∀ (s : Shared) (H : Hp) (C : Addr) (cl : List (PySem.Str × Addr)) (fp : List Addr), PE (X.blk s H sco (compEnvC sco cl C X.env) fp) el te)
    (hs : ∀ x, foldedSetIterable ia X.env x = pure x := by intro _; rfl) (hs1 : ∀ env x, foldedSetIterable ib env x = pure x := by intro _ _; rfl) :
    PE X (SC2 el ta ia tb ib sco ps) (tSc2 X.w wi g wj gj te (own.map (·.2)) vt) := by
  refine ⟨fun pins s σ H Q I h => ?_⟩
  rw [PpSet.eval_SetComp]
  refine sc2_core hc hN I hi ok hv hg he hs hj hgj hs1 h fun D C z m H' I' q hn f => ⟨m, hn, fun h'' sb => ?_⟩
  obtain ⟨f0, f1, f2, f3, f4, f5⟩ := f
  exact ⟨.ref D, H', I'.turned (t' := z.toks) (fun b o hb e => (sb.2 b hb).trans e) f0 f1 f3 f4 f5, rfl, q⟩
end
end K79
end
section
set_option Elab.async false
set_option linter.all false
set_option maxRecDepth 100000
set_option maxHeartbeats 4000000
/-! Rules: enumerate of a tuple, zip of three, the sum of a dict's values, a dict's keys sorted in reverse. -/
namespace K79
open PySem PySem.Spec L2
open PyProof.Rows hiding St
/-- n new tuples, the i-th of f i, while G stands -/
def ItU (G : Hp → Prop) (n : Nat) (f : Nat → List V) : It :=
  ⟨fun i H => i < n ∧ G H, fun i H v H' => ∃ T, v = .ref T ∧ H T = none ∧ H' = upd H T (.tup (f i)), fun i H => i = n ∧ G H⟩
theorem walk_U {G : Hp → Prop} {n : Nat} {f : Nat → List V} : Walk (ItU G n f) n G (fun i H v H' => ∃ T, v = .ref T ∧ H T = none ∧ H' = upd H T (.tup (f i))) :=
  ⟨fun _ _ hi q => ⟨hi, q⟩, fun _ q => ⟨rfl, q⟩, fun _ _ _ _ _ _ y => y⟩
theorem turn_wt {P : Program} {w : World} {K : PySem.W.Frag} {elts : List Expr} {kk : Nat} {tp : Pos} {z : Addr} {fp wr : List Addr} {n : Nat} {f : Nat → List V} {G : Hp → Prop} {tn : Nat → Heap → Prop} (hz : z ∈ fp) (hw : ∀ b ∈ wr, b ∈ fp) (hf : ∀ i, (f i).length ≤ 10)
    (ob : ∀ i h, tn i h → ∀ b ∈ fp, ∃ o, h.get? b = some o ∧ ∀ v, o.data ≠ .cell v) (kp : ∀ i h h', tn i h → (∀ b ∈ fp, ∀ o, h.get? b = some o → h'.get? b = some o) → tn i h')
    (sl : ∀ (A : Around) (i : Nat) (s : Shared) (Q : Value → Shared → Prop) (E : Value → Shared → Prop), tn i s.heap → Q (.ref z) s → wpAny (model P w) A (pyIter (.ref z)) Q E s)
    (W : ∀ (X : Cx) (i : Nat) (pins : List (Addr × Obj)) (s : Shared) (σ : L2.St) (H : Hp), X.prog = P → X.w = w → X.K = K → X.calm = true → Inv X pins σ H s → G H → tn i s.heap → ∃ (fq : List Addr) (Pt : Nat → Array Value → Prop) (St : Nat → Heap → Prop) (Mid : Nat → Addr → Heap → Prop),
      WalksT P w X.A z fq wr n Pt St Mid ∧ St i s.heap ∧ (∀ h', St (i + 1) h' → tn (i + 1) h') ∧ ∀ vals, i < n → Pt i vals → Vals (f i) vals.toList) : Turn P w K (.Tuple elts kk tp) (ItU G n f) fp z tn where
  mem := hz
  obj := ob
  keep := kp
  item := by
    intro X hP hw' hK hc i pins s σ H E I hfp st hg
    obtain ⟨hi, hG⟩ := hg
    obtain ⟨fq, Pt, St, Mid, wt, s0, nx, vl⟩ := W X i pins s σ H hP hw' hK hc I hG st
    subst hP hw' hK
    refine wt.item i s _ _ hi s0 fun T vals h' tk hPt hT hTu hM k1 => ⟨_, rfl, wt.go _ _ _ i T _ _ _ hM fun h'' st2 k2 => ?_⟩
    have hTw := wt.apart i T h' hM
    obtain ⟨o, ho, hoc, m, hod⟩ := hTu
    have ho2 : h''.get? T = some o := k2 T o hTw ho
    have kk : ∀ b o, b ∉ wr → s.heap.get? b = some o → h''.get? b = some o := fun b o hb e => k2 b o hb (k1 b o hb e)
    have hv := vl vals hi hPt
    have new : ObjOk X.prog X.w (upd H T (.tup (f i))) h'' T (.tup (f i)) :=
      ⟨Nat.le_trans (hf i) (by decide), vals.toList, hv, ⟨o, ho2, hoc, m, by rw [Array.toArray_toList]; exact hod⟩⟩
    have I1 : Inv X pins σ (upd H T (.tup (f i))) { s with heap := h'', toks := tk } := I.turnedNew (ch := wr) kk (fun b hb => hfp b (hw b hb)) hT new
    refine ⟨.ref T, _, I1, rfl, ⟨T, rfl, I.hok.fresh hT, rfl⟩, nx _ st2, fun b hb => ?_⟩
    obtain ⟨o, e, _⟩ := ob i s.heap st b hb
    rw [upd_ne (Nat.ne_of_lt (Nat.lt_of_lt_of_le (Heap.lt_size e) hT))]
    exact (hfp b hb).1
  done := by
    intro X hP hw' hK hc i pins s σ H E I hfp st hg
    obtain ⟨hi, hG⟩ := hg
    obtain ⟨fq, Pt, St, Mid, wt, s0, nx, vl⟩ := W X i pins s σ H hP hw' hK hc I hG st
    subst hP hw' hK hi
    exact wt.done s _ _ s0 fun h' tk k => ⟨rfl, I.turnedL (t' := tk) (ch := wr) (fun b o hb e => k b o hb e) fun b hb => hfp b (hw b hb)⟩
  self := sl

/-! ### zip of a tuple and two lists -/
theorem sep3 (N a b c : Nat) (la : a < N) (lb : b < N) (lc : c < N) : ZipSep3 (N + 5) (N + 3) (N + 4) N (N + 1) (N + 2) [N, a] [N + 1, b] [N + 2, c] := by
  have nq : ∀ {x y : Nat}, x ≠ y → x ≠ y := fun h => h
  have ne : ∀ {x y z : Nat}, x ≠ y → x ≠ z → x ∉ [y, z] := fun h1 h2 h => (List.mem_cons.mp h).elim h1 fun h => h2 (List.mem_singleton.mp h)
  constructor
  all_goals first
    | exact List.mem_cons_self
    | (refine ne ?_ ?_ <;> omega)
    | (refine nq ?_; omega)
def iZip3 (K : PySem.W.Frag) (ta : TA) : TI := fun σ H R => ta σ H fun vs H1 => ∃ a b c xs ys zs, vs = [.ref a, .ref b, .ref c] ∧ SqT K H1 a xs ∧ SqL K H1 b ys ∧ SqL K H1 c zs ∧
  R (ItU (fun H => SqT K H a xs ∧ SqL K H b ys ∧ SqL K H c zs) (min (min xs.length ys.length) zs.length) fun i => [xs.getD i .non, ys.getD i .non, zs.getD i .non]) H1
theorem vals_getD {xs : List V} {us : List Value} (r : Vals xs us) {i : Nat} {u : Value} (h : us[i]? = some u) (hi : i < xs.length) : RelV (xs.getD i .non) u := by
  obtain ⟨v, hv, rv⟩ := r.get (List.getElem?_eq_getElem hi)
  rw [h] at hv
  cases hv
  rw [List.getD_eq_getElem?_getD, List.getElem?_eq_getElem hi]
  exact rv
section
variable {X : Cx}
theorem pi_zip3 {e e2 e3 : Expr} {ta : TA} {p pos tpos : Pos} {elts : List Expr} {kk : Nat} (hg : Gl X "zip") (hm : X.mg "zip" = none) (ha : PA X [e, e2, e3] ta)
    (hs : starEach [e, e2, e3] X.env = (false, eval e X.env) :: starEach [e2, e3] X.env := by rfl) (hpl : (backTo pos (starEach [e2, e3] X.env)).any (·.1) = false := by rfl) :
    PI X (.Tuple elts kk tpos) (.Call (.Name "zip" p) [e, e2, e3] [] pos) (iZip3 X.K ta) := by
  refine ⟨fun pins s σ H R I h => ?_⟩
  refine Call_ (ld_blt I hg hm PyProof.Rows.boot_zip (PyProof.Rows.callWith_type1 (thn (ha.run pos pins s σ H _ I h) fun us s1 ⟨vs, H1, I1, r1, q1⟩ => ?_) hs hpl))
  obtain ⟨a, b, c, xs, ys, zs, rfl, hx, hy, hz, q⟩ := q1
  cases r1 with
  | cons r rr => cases rr with
    | cons r' rr => cases rr with
      | cons r'' rr =>
        cases rr
        cases r
        cases r'
        cases r''
        obtain ⟨i1, rv1, p1, _⟩ := I1.tuple hx
        obtain ⟨i2, rv2, p2, _⟩ := I1.list hy
        obtain ⟨i3, rv3, p3, _⟩ := I1.list hz
        have la : a < s1.heap.objs.size := by obtain ⟨o, ho, _⟩ := p1; exact Heap.lt_size ho
        have lb : b < s1.heap.objs.size := p2.lt
        have lc : c < s1.heap.objs.size := p3.lt
        refine zip_begins3 (begins_tuple a i1.toArray) (begins_list b i2.toArray) (begins_list c i3.toArray) p1 p2.isList p3.isList fun h' kz kTI kTO k1 k2 k3 hsz hk => wpAny_pyIter_zip kz ?_
        have I2 : Inv X pins σ H1 { s1 with heap := h' } := I1.kept (t' := s1.toks) hk
        generalize hN : s1.heap.objs.size = N at *
        let tn : Nat → Heap → Prop := fun i h => IsZip h (N + 5) (N + 3) (N + 4) .none ∧ IsTupOf3 h (N + 3) (.ref N) (.ref (N + 1)) (.ref (N + 2)) ∧ (∃ a1 a2 a3, IsTupOf3 h (N + 4) a1 a2 a3) ∧ h.IsTupleIter N a i ∧ h.IsListIter (N + 1) b i ∧ h.IsListIter (N + 2) c i
        have sep : ZipSep3 (N + 5) (N + 3) (N + 4) N (N + 1) (N + 2) [N, a] [N + 1, b] [N + 2, c] := by
          exact sep3 N a b c la lb lc
        refine ⟨N + 5, [N + 5, N + 4, N, N + 1, N + 2, N + 3], tn, _, H1, rfl, I2, turn_wt (wr := [N + 5, N + 4, N, N + 1, N + 2]) (by simp) (fun b hb => ?_) (fun i => by simp) (fun i h st b hb => ?_) (fun i h h' st k => ?_) (fun A i s Q E st h => wpAny_pyIter_zip st.1 h) (fun Y i pins s σ H hP hw hK hc I hG st => ?_), ?_, fun b hb => ?_, q⟩
        · exact List.mem_append_left [N + 3] hb
        · obtain ⟨z1, z2, ⟨a1, a2, a3, z3⟩, ⟨o4, z4, _, d4⟩, ⟨o5, z5, _, d5⟩, ⟨o6, z6, _, d6⟩⟩ := st
          simp only [List.mem_cons, List.not_mem_nil, or_false] at hb
          rcases hb with rfl | rfl | rfl | rfl | rfl | rfl
          · exact ⟨_, z1, fun v q => nomatch q⟩
          · exact ⟨_, z3, fun v q => nomatch q⟩
          · exact ⟨_, z4, fun v q => by rw [d4] at q; cases q⟩
          · exact ⟨_, z5, fun v q => by rw [d5] at q; cases q⟩
          · exact ⟨_, z6, fun v q => by rw [d6] at q; cases q⟩
          · exact ⟨_, z2, fun v q => nomatch q⟩
        · obtain ⟨z1, z2, ⟨a1, a2, a3, z3⟩, z4, z5, z6⟩ := st
          exact ⟨k _ (by simp) _ z1, k _ (by simp) _ z2, ⟨a1, a2, a3, k _ (by simp) _ z3⟩, z4.at fun o q => k _ (by simp) o q, z5.at fun o q => k _ (by simp) o q, z6.at fun o q => k _ (by simp) o q⟩
        · obtain ⟨z1, z2, z3, z4, z5, z6⟩ := st
          obtain ⟨gx, gy, gz⟩ := hG
          rw [← hK] at gx gy gz
          obtain ⟨j1, w1, t1, _⟩ := I.tuple gx
          obtain ⟨j2, w2, t2, _⟩ := I.list gy
          obtain ⟨j3, w3, t3, _⟩ := I.list gz
          have hh := I.ok.hd hc
          rw [← hP, ← hw]
          have hh1 : Y.A.in1.handled = none := hh
          have D := WalksT.zipD3 (prog := Y.prog) (w := Y.w) (A := Y.A) sep (Draws.tuple hh1 N a (Nat.ne_of_lt la) j1.toArray) (Draws.list hh1 (N + 1) b (Nat.ne_of_lt (Nat.lt_succ_of_lt lb)) j2.toArray) (Draws.list hh1 (N + 2) c (Nat.ne_of_lt (Nat.lt_succ_of_lt (Nat.lt_succ_of_lt lc))) j3.toArray)
          have e : min (min j1.toArray.size j2.toArray.size) j3.toArray.size = min (min xs.length ys.length) zs.length := by
            rw [List.size_toArray, List.size_toArray, List.size_toArray, ← w1.length, ← w2.length, ← w3.length]
          rw [e] at D
          refine ⟨_, _, _, _, D, ⟨z1, z2, z3, ⟨z4, t1⟩, ⟨z5, t2.isList⟩, z6, t3.isList⟩, fun h' ⟨y1, y2, y3, y4, y5, y6⟩ => ⟨y1, y2, y3, y4.1, y5.1, y6.1⟩, fun vals hi ⟨x1, x2, x3, e1, e2, e3, ev⟩ => ?_⟩
          subst ev
          exact .cons (vals_getD w1 (by simpa using e1) (by omega)) (.cons (vals_getD w2 (by simpa using e2) (by omega)) (.cons (vals_getD w3 (by simpa using e3) (by omega)) .nil))
        · exact ⟨kz, kTI, ⟨_, _, _, kTO⟩, ⟨_, k1, rfl, rfl⟩, ⟨_, k2, rfl, rfl⟩, ⟨_, k3, rfl, rfl⟩⟩
        · simp only [List.mem_cons, List.not_mem_nil, or_false] at hb
          have hle : s1.heap.objs.size ≤ b := by
            rw [hN]
            rcases hb with rfl | rfl | rfl | rfl | rfl | rfl <;> first | exact Nat.le_add_right _ _ | exact Nat.le_refl _
          exact I1.fpOk hle (I1.hok.fresh hle)
end
/-! ### enumerate of a tuple -/
def iEnumT (K : PySem.W.Frag) (ta : TA) : TI := fun σ H R => ta σ H fun vs H1 => ∃ a xs, vs = [.ref a] ∧ SqT K H1 a xs ∧ R (ItU (fun H => SqT K H a xs) xs.length fun i => [.int (i : Nat), xs.getD i .non]) H1
section
set_option maxHeartbeats 8000000
theorem enum_new {v : Value} {o : Obj} {G : Heap → Prop} (B : Begins v o G) :
    Meets (Builtin.«enumerate.__new__» ⟨[.type "enumerate", v], []⟩) (fun _ R s => G s.heap ∧
      R (.ok (.ret (.ref (s.heap.push o).objs.size))) { s with heap := (s.heap.push o).push { cls := .type "enumerate", data := .fields #[.none, .bool false, .ref s.heap.objs.size, rawInt 0, .none, .none] } }) :=
  .of_wp fun prog w A R s h => by
    obtain ⟨hp, g, d, tk, os⟩ := s
    obtain ⟨h1, h⟩ := h
    have hsub := sub_enumerate
    have q1 : ∀ {A' : Around} {E : Value → Shared → Prop} {Q : Value → Shared → Prop}, Q (.ref hp.objs.size) ⟨hp.push o, g, d, tk, os⟩ → wpAny (model prog w) A' (pyIter v) Q E ⟨hp, g, d, tk, os⟩ :=
      fun q => B.iter prog w _ _ ⟨hp, g, d, tk, os⟩ _ h1 q
    wp_walk using q1
    refine wpAny_stack_any fun st => wpAny_pure ?_
    split
    · rename_i c _ _ _ _ _
      cases (c == Value.type "enumerate") <;> (wp_walk using q1; exact ⟨_, rfl, h⟩)
    · wp_walk using q1
      exact ⟨_, rfl, h⟩
variable {prog : Program} {w : World} {A : Around} {E : Value → Shared → Prop} {s : Shared}
theorem call_enumT {t : Addr} {items : Array Value} {Q : Value → Shared → Prop} (hT : s.heap.IsTuple t items)
    (h : ∀ h', IsEnum h' (s.heap.objs.size + 1) s.heap.objs.size 0 .none → h'.IsTupleIter s.heap.objs.size t 0 → (∀ b o, s.heap.get? b = some o → h'.get? b = some o) → Q (.ref (s.heap.objs.size + 1)) { s with heap := h' }) :
    wpAny (model prog w) A (call (.type "enumerate") [.ref t]) Q E s := by
  refine callType_new F.called_enumerate (by decide) (F.typeCall_enumerate_1 _) (F.newCall_enumerate_1 _) (fun obj => F.args_object_init_2 obj _) F.entry_enumerate_new (enum_new (begins_tuple t items)) ⟨hT, ?_⟩
  have z : (s.heap.push { cls := .type "tuple_iterator", data := .fields #[.ref t, .int 0 0] }).objs.size = s.heap.objs.size + 1 := Heap.size_push ..
  show _ ∧ _
  rw [z]
  have he := Heap.get?_push_size (s.heap.push { cls := .type "tuple_iterator", data := .fields #[.ref t, .int 0 0] }) (o := { cls := .type "enumerate", data := .fields #[.none, .bool false, .ref s.heap.objs.size, rawInt 0, .none, .none] }) rfl
  rw [z] at he
  exact ⟨⟨_, he, rfl⟩, h _ he ⟨_, Heap.get?_push_of_some _ (Heap.get?_push_size _ rfl), rfl, rfl⟩ fun b o x => Heap.get?_push_of_some _ (Heap.get?_push_of_some _ x)⟩
end
section
variable {X : Cx}
theorem pi_enumT {e : Expr} {ta : TA} {p pos tpos : Pos} {elts : List Expr} {kk : Nat} (hg : Gl X "enumerate") (hm : X.mg "enumerate" = none) (ha : PA X [e] ta) (hs : starEach [e] X.env = [(false, eval e X.env)] := by rfl) :
    PI X (.Tuple elts kk tpos) (.Call (.Name "enumerate" p) [e] [] pos) (iEnumT X.K ta) := by
  refine ⟨fun pins s σ H R I h => ?_⟩
  refine Call_ (ld_blt I hg hm boot_enumerate (PyProof.Rows.callWith_type1 (thn (ha.run pos pins s σ H _ I h) fun us s1 ⟨vs, H1, I1, r1, q1⟩ => ?_) hs rfl))
  obtain ⟨a, xs, rfl, hx, q⟩ := q1
  cases r1 with
  | cons r rr =>
    cases rr
    cases r
    obtain ⟨i1, rv1, p1, _⟩ := I1.tuple hx
    have la : a < s1.heap.objs.size := by obtain ⟨o, ho, _⟩ := p1; exact Heap.lt_size ho
    refine call_enumT p1 fun h' ke ki hk => wpAny_pyIter_enum ke ?_
    have I2 : Inv X pins σ H1 { s1 with heap := h' } := I1.kept (t' := s1.toks) hk
    generalize hN : s1.heap.objs.size = N at *
    let tn : Nat → Heap → Prop := fun i h => (∃ old, IsEnum h (N + 1) N ((i : Nat) : Int) old) ∧ h.IsTupleIter N a i
    refine ⟨N + 1, [N + 1, N], tn, _, H1, rfl, I2, turn_wt (wr := [N + 1, N]) (by simp) (fun b hb => hb) (fun i => by simp) (fun i h st b hb => ?_) (fun i h h' st k => ?_) (fun A i s Q E st h => by obtain ⟨⟨_, e⟩, _⟩ := st; exact wpAny_pyIter_enum e h) (fun Y i pins s σ H hP hw hK hc I hG st => ?_), ⟨⟨_, ke⟩, ki⟩, fun b hb => ?_, q⟩
    · obtain ⟨⟨old, z1⟩, ⟨o4, z4, _, d4⟩⟩ := st
      simp only [List.mem_cons, List.not_mem_nil, or_false] at hb
      rcases hb with rfl | rfl
      · exact ⟨_, z1, fun v q => nomatch q⟩
      · exact ⟨_, z4, fun v q => by rw [d4] at q; cases q⟩
    · obtain ⟨⟨old, z1⟩, z4⟩ := st
      exact ⟨⟨old, k _ (by simp) _ z1⟩, z4.at fun o q => k _ (by simp) o q⟩
    · obtain ⟨z1, z4⟩ := st
      have gx : SqT X.K H a xs := hG
      rw [← hK] at gx
      obtain ⟨j1, w1, t1, _⟩ := I.tuple gx
      have hh := I.ok.hd hc
      rw [← hP, ← hw]
      have hh1 : Y.A.in1.handled = none := hh
      have D := WalksT.enumerateD (prog := Y.prog) (w := Y.w) (A := Y.A) (Draws.tuple hh1 N a (Nat.ne_of_lt la) j1.toArray) (N + 1) (Nat.succ_ne_self N) (fun h => (List.mem_cons.mp h).elim (fun h => Nat.succ_ne_self N h) fun h => absurd (List.mem_singleton.mp h) (Nat.ne_of_gt (Nat.lt_succ_of_lt la))) List.mem_cons_self
      have e : j1.toArray.size = xs.length := by rw [List.size_toArray, ← w1.length]
      rw [e] at D
      refine ⟨_, _, _, _, D, ⟨z1, z4, t1⟩, fun h' ⟨y1, y4⟩ => ⟨y1, y4.1⟩, fun vals hi ⟨t, x1, e1, ev⟩ => ?_⟩
      subst ev
      exact .cons ⟨t, rfl⟩ (.cons (vals_getD w1 (by simpa using e1) hi) .nil)
    · simp only [List.mem_cons, List.not_mem_nil, or_false] at hb
      have hle : s1.heap.objs.size ≤ b := by
        rw [hN]
        rcases hb with rfl | rfl <;> first | exact Nat.le_add_right _ _ | exact Nat.le_refl _
      exact I1.fpOk hle (I1.hok.fresh hle)

/-! ### sum(d.values()) -/
def tSumVals (td : TE) : TE := fun σ H Q => td σ H fun x H1 => ∃ (d : Addr) (L : List (Int × Int)), x = .ref d ∧ H1 d = some (.dK (dictOf L)) ∧ Q (.int (L.map (·.2)).sum) H1
theorem preSum_list (L : List (Int × Int)) : ∀ i, i ≤ L.length → preSum (fun j => (L.getD j (0, 0)).2) i = ((L.take i).map (·.2)).sum
  | 0, _ => rfl
  | i + 1, h => by
    show preSum _ i + (L.getD i (0, 0)).2 = _
    have e : L.take (i + 1) = L.take i ++ [L[i]] := by rw [List.take_succ, List.getElem?_eq_getElem (by omega)] <;> rfl
    rw [preSum_list L i (by omega), e, List.map_append, List.sum_append, List.getD_eq_getElem?_getD, List.getElem?_eq_getElem (by omega)]
    simp
theorem pe_sumVals {e : Expr} {td : TE} {p pos apos cpos : Pos} (hc : X.calm = true) (hg : Gl X "sum") (hm : X.mg "sum" = none) (he : PE X e td) (hbase : attributeBase e "values" X.env (eval e X.env) = eval e X.env := by rfl) (hline : (apos.endLine == cpos.line) = true := by rfl)
    (na : starEach [.Call (.Attribute e "values" apos) [] [] cpos] X.env = (false, eval (.Call (.Attribute e "values" apos) [] [] cpos) X.env) :: starEach [] X.env := by rfl) :
    PE X (.Call (.Name "sum" p) [.Call (.Attribute e "values" apos) [] [] cpos] [] pos) (tSumVals td) := by
  refine ⟨fun pins s σ H Q I h => ?_⟩
  refine Call_ (ld_blt I hg hm PyProof.Rows.boot_sum ?_)
  refine PyProof.Rows.callWith_builtin1 (PyProof.Rows.args_cons ?_ rfl) rfl rfl
  refine wpAny_Call_method (T := "dict") (id := "dict.values") hbase rfl hline PySem.F.plainAttrs_dict PySem.F.slot_dict_values PySem.F.type_dict_values (thn (he.run pins s σ H _ I h) fun u s1 ⟨x, H1, I1, rx, d, L, ex, hd, q⟩ => ?_)
  subst ex
  obtain rfl : u = Value.ref d := rx
  obtain ⟨z, hs, vs, kv, dd⟩ := dk_of I1.hok hd
  refine ⟨dd.typeIs, dd.mapOf.noDict, ?_⟩
  show wpAny _ _ (callWith cpos (.builtin "dict.values") [.ref d] [] []) _ X.xe s1
  refine method_meetsIn PySem.F.slot_dict_values PySem.F.entry_dict_values rfl (PySem.evalArgs_none ⟨rfl, dd.typeIs, PySem.F.args_dict_values_1 _, _, meets_dict_values (mixKind X.prog X.w) d hs, ⟨vs, dd⟩, ?_⟩)
  refine PyProof.Rows.args_nil ?_
  obtain ⟨ep, da⟩ := dd.dictAt
  have K := PySem.W.kdl_values (prog := X.prog) (w := X.w) (r := s1.heap.objs.size) (knd := mixKind X.prog X.w) (d := d) (kvs := vs) (ep := ep)
  have hok : (s1.heap.push { cls := .type "dict_values", data := .fields #[.ref d] }).IsValuesView s1.heap.objs.size d ∧ (s1.heap.push { cls := .type "dict_values", data := .fields #[.ref d] }).DictAt (mixKind X.prog X.w) d vs ep := ⟨⟨_, Heap.get?_push_size _ rfl, rfl, rfl⟩, da.push _⟩
  have hl : L.length = vs.length := by
    have := Paired.length kv
    unfold dictOf at this
    rwa [List.length_map] at this
  refine call_sum_walkAnyS ?_
  obtain ⟨oI, St, hit, W, st⟩ := K.iter X.A.in1 { s1 with heap := s1.heap.push { cls := .type "dict_values", data := .fields #[.ref d] } } (I1.ok.hd hc) hok
  refine hit _ _ ⟨_, _, _, _, vs.length, _, _, (fun j => (L.getD j (0, 0)).2), rfl, W.toS, st, fun b hb => ?_, fun i v hv => ?_, fun s' t' hm' => ?_⟩
  · show b < (((s1.heap.push { cls := .type "dict_values", data := .fields #[.ref d] })).push oI).objs.size
    rw [Heap.size_push]
    rcases List.mem_cons.mp hb with e | hb
    · rw [e]; exact Nat.lt_succ_self _
    · rw [List.mem_singleton.mp hb]; exact Nat.lt_succ_of_lt (K.there _ hok).2
  · obtain ⟨k, hv⟩ := hv
    have hi : i < L.length := by rw [hl]; exact (List.getElem?_eq_some_iff.mp hv).1
    have gd : (dictOf L)[i]? = some (.inl L[i].1, .int L[i].2) := by unfold dictOf; rw [List.getElem?_map, List.getElem?_eq_getElem hi] <;> rfl
    obtain ⟨u, hu, ru⟩ := kv_get kv gd
    rw [hv] at hu
    cases hu
    obtain ⟨t, rfl⟩ := ru
    exact ⟨t, by simp only [List.getD_eq_getElem?_getD, List.getElem?_eq_getElem hi]; rfl⟩
  · have hk : ∀ b o, s1.heap.get? b = some o → s'.heap.get? b = some o := fun b o e =>
      hm'.heap b o (fun hI => by
        have h1 : b = (s1.heap.push { cls := .type "dict_values", data := .fields #[.ref d] }).objs.size := List.mem_singleton.mp hI
        rw [Heap.size_push] at h1
        exact absurd (Heap.lt_size e) (by rw [h1]; exact Nat.not_lt.mpr (Nat.le_succ _))) (Heap.get?_push_of_some _ (Heap.get?_push_of_some _ e))
    rw [Moved.eq_with hm', ← hl, preSum_list L L.length (Nat.le_refl _), List.take_of_length_le (Nat.le_refl _)]
    exact ⟨.int _, H1, I1.kept hk, ⟨t', rfl⟩, q⟩
/-! ### sorted(d, reverse=True) -/
def rSortRevD : List V → List V → Hp → VK → Prop := fun vs zs H Q => ∃ (d : Addr) (L : List (Int × Int)), vs = [.ref d] ∧ zs = [.bl true] ∧ H d = some (.dK (dictOf L)) ∧
  ∀ (ns : List Int) (p : Addr), ns.Perm (L.map (·.1)) → ns.Pairwise (· ≥ ·) → H p = none → Q (.ref p) (upd H p (.lst (ns.map V.int)))
theorem cr_sortRevD (hc : X.calm = true) : CallRK X (.builtin "sorted") [PySem.Str.ofString "reverse"] rSortRevD := by
  intro pins s σ H vs zs us ws Q I r rz h
  obtain ⟨d, L, rfl, rfl, hd, q⟩ := h
  obtain rfl := Vals.ref1 r
  obtain ⟨w1, rfl, e1⟩ := vals1 rz
  obtain rfl : w1 = Value.bool true := e1
  obtain ⟨z, lo, kvs, kv, dd⟩ := dk_of I.hok hd
  obtain ⟨ep, da⟩ := dd.dictAt
  have hl : L.length = kvs.length := by
    have := Paired.length kv
    unfold dictOf at this
    rwa [List.length_map] at this
  have hz : kvs.length ≤ sizeLine := by
    rw [← hl]
    unfold dictOf at z
    rwa [List.length_map] at z
  refine PyProof.Rows.call_function_entry_kw PyProof.Rows.kind_sorted PyProof.Rows.plain_sorted PyProof.Rows.entry_sorted (PyProof.Rows.args_sorted_rev _ _) ?_
  unfold Builtin.«sorted»
  refine wpAny_bind (m := checkCount "sorted" 1 1 _) (wpAny_pure ?_)
  refine wpAny_bind (PySem.W.kdu_collect (A := X.A.in1) (PySem.W.kdl_dict (prog := X.prog) (w := X.w) (knd := mixKind X.prog X.w) (d := d) (kvs := kvs) (ep := ep) lo) (I.ok.hd hc) da hz fun h' tk acc hk hacc => ?_)
  have hal : acc.toList.length = kvs.length := by rw [Array.length_toList]; exact hacc.1
  refine wpAny_bind (wpAny_newList ?_ (by rw [hal]; exact hz))
  have hoL : (h'.push (PyProof.Rows.seqObj "list" acc.toList.toArray 0)).get? h'.objs.size = some (PyProof.Rows.seqObj "list" acc.toList.toArray 0) := Heap.get?_push_size _ rfl
  -- the keys as ints
  have hI : PyProof.Rows.IntsAre acc.toList (L.map (·.1)) := by
    have key : ∀ (L : List (Int × Int)) (us : List Value), us.length = L.length → (∀ (i : Nat) (u : Value) (e : Int × Int), us[i]? = some u → L[i]? = some e → ∃ t, u = .int e.1 t) → PyProof.Rows.IntsAre us (L.map (·.1)) := by
      intro L
      induction L with
      | nil =>
        intro us hu _
        rw [List.eq_nil_of_length_eq_zero hu]
        exact .nil
      | cons e L ih =>
        intro us hu ha
        cases us with
        | nil => simp at hu
        | cons u us =>
          obtain ⟨t, rfl⟩ := ha 0 u e rfl rfl
          exact .cons e.1 t (ih us (by simpa using hu) fun i u e h1 h2 => ha (i + 1) u e (by simpa using h1) (by simpa using h2))
    refine key L acc.toList (by rw [hal, hl]) fun i u e hu he => ?_
    obtain ⟨k, x, hk1, hk2⟩ := hacc.2 i u (by rw [← Array.getElem?_toList]; exact hu)
    have gd : (dictOf L)[i]? = some (.inl e.1, .int e.2) := by unfold dictOf; rw [List.getElem?_map, he] <;> rfl
    obtain ⟨u2, hu2, _⟩ := kv_get kv gd
    rw [hk1] at hu2
    cases hu2
    have hk2 : keyIs (.inl e.1) u = true := hk2
    rcases keyIs_shape hk2 with ⟨j, t, e1, e2⟩ | ⟨y, t, e1, _⟩
    · exact ⟨t, by rw [e2, Sum.inl.inj e1]⟩
    · cases e1
  refine wpAny_bind (wpAny_holding (PyProof.Rows.wpAny_call_entry_kw PyProof.Rows.slot_list_sort ⟨_, hoL, rfl⟩ PyProof.Rows.entry_list_sort ?_ (PyProof.Rows.args_list_sort_rev _ _)))
  refine SrtR.list_sort_ordR (b := true) SrtO.swo_int hoL (by rw [hal]; exact hz) (fun h2 => SrtO.ints_sortable hI h2) fun out h1 h2 => ⟨_, rfl, ?_⟩
  refine wpAny_pure ⟨_, rfl, ?_⟩
  obtain ⟨ns', k1, k2, k3⟩ := SrtR.ints_outR hI h1 h2
  obtain ⟨e2, he'⟩ := PyProof.Rows.sortedHeap_at (vs := acc.toList) (out := out.toArray.reverse) hoL
  have hlen : (ns'.map V.int).length ≤ sizeLine := by
    rw [List.length_map, k2.length_eq, List.length_map, hl]
    exact hz
  have I1 : Inv X pins σ H { s with heap := h', toks := tk } := I.kept hk
  refine ⟨.ref _, upd H h'.objs.size (.lst (ns'.map V.int)), I1.laid (t' := tk) (fun b o e => ?_) (Nat.le_refl _) ⟨hlen, _, e2, vals_of_ints k1, by rw [Array.toArray_toList]; exact he'⟩, rfl, q _ _ k2 k3 (I1.hok.fresh (Nat.le_refl _))⟩
  show (PyProof.Rows.sortedHeap _ _ _ _).get? b = some o
  rw [PyProof.Rows.sortedHeap_old (Nat.ne_of_lt (Heap.lt_size e)) (Heap.lt_size (Heap.get?_push_of_some _ e))]
  exact Heap.get?_push_of_some _ e
end
end K79
end
section
set_option Elab.async false
set_option linter.all false
set_option maxRecDepth 100000
set_option maxHeartbeats 8000000
/-! Rule: set of a list of ints. -/
namespace K79
open PySem PySem.Spec L2
open PyProof.Rows hiding St
/-- a new set, empty -/
abbrev set0 (w : World) : Obj := { cls := .type "set", dict := none, data := .set #[] 0 (.fresh 0 0 (!w.params.followText "set-order")) }
section
variable {P : Program} {w : World} {A : Around} {E : Value → Shared → Prop} {s : Shared}
theorem call_set_listI {l : Addr} {its : Array Value} (ns : List Int) {Q : Value → Shared → Prop} (hh : A.handled = none) (hl : s.heap.IsList l its) (hit : IntsAre its.toList ns) (hb : ns.length + 1 < scanBound)
    (h : ∀ (h' : Heap) (tk c : Nat), SetR w h' s.heap.objs.size (fun j => decide (j ∈ ns)) c → c ≤ ns.length → (∀ b o, s.heap.get? b = some o → h'.get? b = some o) → Q (.ref s.heap.objs.size) { s with heap := h', toks := tk }) :
    wpAny (model P w) A (call (.type "set") [.ref l]) Q E s := by
  have hsz : its.size = ns.length := by
    have q := IntsAre.length hit
    rwa [Array.length_toList] at q
  obtain ⟨c, tl, hmro⟩ := PySem.F.called_set.mro
  have hmade := PySem.F.called_set.made
  have hsub := PySem.F.called_set.sub
  refine wpAny_call (codeAny_of_tree ?_)
  show wpAny _ _ (callAny (.type "set") _) _ _ _
  refine wpAny_pure ⟨Code.quiet_builtin _ (by decide +kernel), codeAny_builtin PySem.F.entry_type_call ?_⟩
  rw [Around.under_plain (weight_type_call_type "set" [.ref l] []) rfl]
  have t1 := PySem.F.called_set.notType
  have t2 := PySem.F.called_set.canCreate
  have t3 := PySem.F.typeCall_set_1 (.ref l)
  repeat (any_goals (first | assumption | wp_step))
  refine codeAny_mono (code_set_led1 (.ref l) (E := E) (Q₁ := fun ob z => ob = .ref s.heap.objs.size ∧ z = { s with heap := s.heap.push (set0 w) }) ⟨rfl, rfl⟩) fun r z hr => ?_
  cases r with
  | error e => exact hr
  | ok fl =>
    cases fl with
    | ret ob =>
      obtain ⟨rfl, rfl⟩ := hr
      have hS : (s.heap.push (set0 w)).get? s.heap.objs.size = some (set0 w) := Heap.get?_push_size _ rfl
      have hT : Shared.TypeIs { s with heap := s.heap.push (set0 w) } (.ref s.heap.objs.size) "set" := ⟨_, hS, rfl⟩
      have hli := PySem.F.called_set.init.lookup
      have hbi := PySem.F.called_set.init.bind (.ref s.heap.objs.size)
      repeat (any_goals (first | assumption | wp_step))
      refine codeAny_mono (codeAny_call_builtin (R := wants (fun r z => r = .none ∧ ∃ h' tk c, z = { s with heap := h', toks := tk } ∧ SetR w h' s.heap.objs.size (fun j => decide (j ∈ ns)) c ∧ c ≤ ns.length ∧
          (∀ b o, s.heap.get? b = some o → h'.get? b = some o)) E) PySem.F.called_set.init.plain PySem.F.entry_set_init (check_set_init_1 hT ?_)) fun r2 z2 hr2 => ?_
      · obtain ⟨⟨oc, od, ot, os⟩, hol, hcl, nl, hdl⟩ := hl
        simp only at hcl hdl
        subst hcl hdl
        have hol' : (s.heap.push (set0 w)).get? l = some { cls := .type "list", dict := od, data := .seq its nl, slots := os } := Heap.get?_push_of_some _ hol
        have u1 := PySem.F.sub_list_set
        have u2 := PySem.F.sub_list_frozenset
        have u3 : (Value.type "list" == Value.type "dict") = false := by decide
        have hl1 : (s.heap.push (set0 w)).IsList l its := ⟨_, hol', rfl, nl, rfl⟩
        unfold Builtin.«set.__init__» noKeywords Builtin.Frozenset.updateFrom
        generalize hPI : pyIter = PI
        wp_walk
        subst hPI
        refine wpAny_pyIter_list hl1 ?_
        refine wpAny_bind (wpAny_runValue ?_)
        have hlS : l < s.heap.objs.size := Heap.lt_size hol
        have hsz1 : (s.heap.push (set0 w)).objs.size = s.heap.objs.size + 1 := Heap.size_push ..
        have hh3 : A.in1.in1.in1.handled = none := by simp [hh]
        have hneI : l ≠ (s.heap.push (set0 w)).objs.size := by rw [hsz1]; exact Nat.ne_of_lt (Nat.lt_succ_of_lt hlS)
        have hSf : s.heap.objs.size ∉ [(s.heap.push (set0 w)).objs.size, l] := fun z => by
          rcases List.mem_cons.mp z with z | z
          · rw [hsz1] at z; exact absurd z (Nat.ne_of_lt (Nat.lt_succ_self _))
          · exact absurd (List.mem_singleton.mp z) (Nat.ne_of_gt hlS)
        have hval : ∀ (i : Nat) (v : Value), its[i]? = some v → ∃ k t, ns[i]? = some k ∧ v = .int k t := fun i v hv => by
          have hi : i < ns.length := by rw [← hsz]; exact (Array.getElem?_eq_some_iff.mp hv).1
          obtain ⟨t, e⟩ := IntsAre.int_at hit i v (by rw [Array.getElem?_toList]; exact hv)
          exact ⟨ns[i], t, List.getElem?_eq_getElem hi, by rw [e, List.getD_eq_getElem?_getD, List.getElem?_eq_getElem hi] <;> rfl⟩
        refine set_update_ints ((Walks.list hh3 _ l hneI its).toS) s.heap.objs.size hSf ns hsz hb hval (its.size - 0) 0 _ (by omega) (Nat.zero_le _)
          ⟨⟨_, Heap.get?_push_size _ rfl, rfl, rfl⟩, (hl1.push _)⟩ ⟨0, Nat.le_refl 0, setR_new_at (Heap.get?_push_of_some _ hS)⟩ fun z3 c3 hm hc3 hS3 => ?_
        obtain ⟨h', g', d', tk', os'⟩ := z3
        have eg : g' = s.gens := hm.gens
        have ed : d' = s.drawn := hm.drawn
        have eo : os' = s.os := hm.os
        subst eg ed eo
        show wpAny _ _ _ _ _ _
        refine wpAny_pure ?_
        show wpAny _ _ (ret Value.none) _ _ _
        rw [hsz] at hc3
        refine wpAny_pure ⟨rfl, h', tk', c3, rfl, hS3, hc3, fun b o e => ?_⟩
        have hb0 : b < s.heap.objs.size := Heap.lt_size e
        refine hm.heap b o (fun z => ?_) (Heap.get?_push_of_some _ (Heap.get?_push_of_some _ e))
        rcases List.mem_cons.mp z with z | z
        · exact absurd z (Nat.ne_of_lt hb0)
        · have z : b = (s.heap.push (set0 w)).objs.size := List.mem_singleton.mp z
          rw [hsz1] at z
          exact absurd z (Nat.ne_of_lt (Nat.lt_succ_of_lt hb0))
      · cases r2 with
        | error e => exact hr2
        | ok fl2 =>
          cases fl2 with
          | ret r =>
            obtain ⟨rfl, h', tk, c, rfl, hS', hc', hk'⟩ := hr2
            repeat (any_goals (first | assumption | wp_step))
            exact h _ _ _ hS' hc' hk'
          | _ => exact hr2.elim
    | _ => exact hr.elim
end
section
variable {X : Cx}
/-- set(a list of ints) -/
def rSetI (K : PySem.W.Frag) (w : World) : List V → Hp → VK → Prop := fun xs H Q => ∃ (l : Addr) (ns : List Int), xs = [.ref l] ∧ SqL K H l (ns.map V.int) ∧ ns.length ≤ 1000 ∧
  ∀ (a : Addr) (c : Nat), c ≤ ns.length → H a = none → Q (.ref a) (upd H a (SetO w a (fun j => decide (j ∈ ns)) c))
theorem call_setI (hc : X.calm = true) : CallR X (.type "set") (rSetI X.K X.w) := by
  intro pins s σ H xs us Q I r h
  obtain ⟨l, ns, rfl, hl, hz, q⟩ := h
  rw [Vals.ref1 r]
  obtain ⟨its, rv, pl, _⟩ := I.list hl
  refine call_set_listI ns (I.ok.hd hc) pl.isList (by simpa using rv.ints) (by unfold scanBound; omega) fun h' tk c R hcn k => ?_
  exact ⟨.ref _, upd H s.heap.objs.size (SetO X.w s.heap.objs.size (fun j => decide (j ∈ ns)) c), I.laid (t' := tk) k (Nat.le_refl _) (setO_new R), rfl, q _ c hcn (I.hok.fresh (Nat.le_refl _))⟩
end
end K79
end
section
set_option Elab.async false
set_option linter.all false
set_option maxRecDepth 100000
set_option maxHeartbeats 4000000
/-! The state of a LevelBounds; small evaluation lemmas. -/
namespace K79
open PySem PySem.Spec L2
def lbF (v1 : V) (R : Int) (l1 l2 : Addr) (p : Bool) : List (Str × V) := [("own_inserted", v1), ("own_removals", .int R), ("least", .ref l1), ("most", .ref l2), ("possible", .bl p)]
section
variable {v1 : V} {R : Int} {l1 l2 : Addr} {p q : Bool}
theorem lb_ins : (lbF v1 R l1 l2 p).lookup ("own_inserted" : Str) = some v1 := by
  unfold lbF
  rw [List.lookup_cons, show (("own_inserted" : Str) == ("own_inserted" : Str)) = true by decide +kernel]
theorem lb_rem : (lbF v1 R l1 l2 p).lookup ("own_removals" : Str) = some (.int R) := by
  unfold lbF
  rw [List.lookup_cons, show (("own_removals" : Str) == ("own_inserted" : Str)) = false by decide +kernel]
  rw [List.lookup_cons, show (("own_removals" : Str) == ("own_removals" : Str)) = true by decide +kernel]
theorem lb_least : (lbF v1 R l1 l2 p).lookup ("least" : Str) = some (.ref l1) := by
  unfold lbF
  rw [List.lookup_cons, show (("least" : Str) == ("own_inserted" : Str)) = false by decide +kernel]
  rw [List.lookup_cons, show (("least" : Str) == ("own_removals" : Str)) = false by decide +kernel]
  rw [List.lookup_cons, show (("least" : Str) == ("least" : Str)) = true by decide +kernel]
theorem lb_most : (lbF v1 R l1 l2 p).lookup ("most" : Str) = some (.ref l2) := by
  unfold lbF
  rw [List.lookup_cons, show (("most" : Str) == ("own_inserted" : Str)) = false by decide +kernel]
  rw [List.lookup_cons, show (("most" : Str) == ("own_removals" : Str)) = false by decide +kernel]
  rw [List.lookup_cons, show (("most" : Str) == ("least" : Str)) = false by decide +kernel]
  rw [List.lookup_cons, show (("most" : Str) == ("most" : Str)) = true by decide +kernel]
theorem lb_poss : (lbF v1 R l1 l2 p).lookup ("possible" : Str) = some (.bl p) := by
  unfold lbF
  rw [List.lookup_cons, show (("possible" : Str) == ("own_inserted" : Str)) = false by decide +kernel]
  rw [List.lookup_cons, show (("possible" : Str) == ("own_removals" : Str)) = false by decide +kernel]
  rw [List.lookup_cons, show (("possible" : Str) == ("least" : Str)) = false by decide +kernel]
  rw [List.lookup_cons, show (("possible" : Str) == ("most" : Str)) = false by decide +kernel]
  rw [List.lookup_cons, show (("possible" : Str) == ("possible" : Str)) = true by decide +kernel]
theorem lb_none {m : Str} (h : ([("own_inserted" : Str), "own_removals", "least", "most", "possible"].all fun x => !(m == x)) = true) : (lbF v1 R l1 l2 p).lookup m = none := by
  simp only [List.all_cons, List.all_nil, Bool.and_true, Bool.and_eq_true, Bool.not_eq_true'] at h
  obtain ⟨h1, h2, h3, h4, h5⟩ := h
  unfold lbF
  rw [List.lookup_cons, h1]
  show List.lookup m _ = _
  rw [List.lookup_cons, h2]
  show List.lookup m _ = _
  rw [List.lookup_cons, h3]
  show List.lookup m _ = _
  rw [List.lookup_cons, h4]
  show List.lookup m _ = _
  rw [List.lookup_cons, h5]
  rfl
theorem lb_put : putF "possible" (.bl q) (lbF v1 R l1 l2 p) = lbF v1 R l1 l2 q := by
  have n1 : ("own_inserted" : Str) ≠ "possible" := by decide +kernel
  have n2 : ("own_removals" : Str) ≠ "possible" := by decide +kernel
  have n3 : ("least" : Str) ≠ "possible" := by decide +kernel
  have n4 : ("most" : Str) ≠ "possible" := by decide +kernel
  unfold lbF
  simp only [putF, if_neg n1, if_neg n2, if_neg n3, if_neg n4, if_true]
end
def tab (m : Nat) (f : Nat → Int) : List V := (List.range m).map fun i => V.int (f i)
theorem tab_len {m : Nat} {f : Nat → Int} : (tab m f).length = m := by simp [tab]
theorem tab_at {m i : Nat} {f : Nat → Int} (h : i < m) : (tab m f)[i]? = some (V.int (f i)) := by unfold tab; rw [List.getElem?_map, List.getElem?_range h] <;> rfl
theorem tab_set {m i : Nat} {f : Nat → Int} {v : Int} (h : i < m) : (tab m f).set i (.int v) = tab m (setN f i v) := by
  refine List.ext_getElem? fun j => ?_
  rw [List.getElem?_set, tab_len]
  by_cases hj : j < m
  · rw [tab_at hj (f := setN f i v), tab_at hj]
    unfold setN
    by_cases e : i = j
    · subst e
      rw [if_pos rfl, if_pos h, if_pos rfl]
    · rw [if_neg e, if_neg fun z => e z.symm]
  · rw [List.getElem?_eq_none (l := tab m (setN f i v)) (by rw [tab_len]; omega), List.getElem?_eq_none (l := tab m f) (by rw [tab_len]; omega), if_neg (by omega)]
structure LBat (K : PySem.W.Frag) (H0 H : Hp) (x : Addr) (v1 : V) (R : Int) (m : Nat) (dx l1 l2 : Addr) (s : LS) : Prop where
  ob : H x = some (.ins (cB K) dx (lbF v1 R l1 l2 s.p))
  lo : H l1 = some (.lst (tab m s.lo))
  hi : H l2 = some (.lst (tab m s.hi))
  ne : l1 ≠ l2
  n0 : H0 x = none
  n1 : H0 l1 = none
  n2 : H0 l2 = none
  sm : Same H0 H
section
variable {K : PySem.W.Frag} {mg : Str → Option Value} {σ : St} {H0 H H' : Hp} {ta tb tc tv te to ti : TE} {x dx l1 l2 : Addr} {v1 : V} {R : Int} {m : Nat} {s : LS} {D : Ends} {tz : TS} {tr : TA}
theorem LBat.more (h : LBat K H0 H x v1 R m dx l1 l2 s) (e : Same H H') : LBat K H0 H' x v1 R m dx l1 l2 s := ⟨e _ _ h.ob, e _ _ h.lo, e _ _ h.hi, h.ne, h.n0, h.n1, h.n2, h.sm.trans e⟩
theorem LBat.x1 (h : LBat K H0 H x v1 R m dx l1 l2 s) : x ≠ l1 := fun z => by have := h.ob; rw [z, h.lo] at this; cases this
theorem LBat.x2 (h : LBat K H0 H x v1 R m dx l1 l2 s) : x ≠ l2 := fun z => by have := h.ob; rw [z, h.hi] at this; cases this
theorem LBat.setP (h : LBat K H0 H x v1 R m dx l1 l2 s) (b : Bool) : LBat K H0 (upd H x (.ins (cB K) dx (putF "possible" (.bl b) (lbF v1 R l1 l2 s.p)))) x v1 R m dx l1 l2 { s with p := b } :=
  ⟨by rw [upd_same, lb_put], by rw [upd_ne (Ne.symm h.x1)]; exact h.lo, by rw [upd_ne (Ne.symm h.x2)]; exact h.hi, h.ne, h.n0, h.n1, h.n2, Same.chg h.sm h.n0⟩
theorem LBat.setLo (h : LBat K H0 H x v1 R m dx l1 l2 s) {i : Nat} {v : Int} (hi : i < m) : LBat K H0 (upd H l1 (.lst ((tab m s.lo).set i (.int v)))) x v1 R m dx l1 l2 { s with lo := setN s.lo i v } :=
  ⟨by rw [upd_ne h.x1]; exact h.ob, by rw [upd_same, tab_set hi], by rw [upd_ne (Ne.symm h.ne)]; exact h.hi, h.ne, h.n0, h.n1, h.n2, Same.chg h.sm h.n1⟩
theorem LBat.setHi (h : LBat K H0 H x v1 R m dx l1 l2 s) {i : Nat} {v : Int} (hi : i < m) : LBat K H0 (upd H l2 (.lst ((tab m s.hi).set i (.int v)))) x v1 R m dx l1 l2 { s with hi := setN s.hi i v } :=
  ⟨by rw [upd_ne h.x2]; exact h.ob, by rw [upd_ne h.ne]; exact h.lo, by rw [upd_same, tab_set hi], h.ne, h.n0, h.n1, h.n2, Same.chg h.sm h.n2⟩
/-- a field -/
theorem ev_fldV {C : Addr} {f : Str} {fs : List (Str × V)} {v : V} (c : Cls K C) (n : NoAttr K C f) (ha : EvP ta σ H (IsV (.ref x))) (ho : H x = some (.ins C dx fs)) (hl : fs.lookup f = some v) : EvP (tFld K ta f) σ H (IsV v) := fun H1 e Q q =>
  ha H1 e _ fun u H2 e2 (pu : u = _) => ⟨x, C, dx, fs, v, pu, e2 _ _ (e _ _ ho), c, n, hl, q v H2 e2 rfl⟩
theorem s_fldV {C : Addr} {f : Str} {fs : List (Str × V)} {P : Pr} (c : Cls K C) (n : NoAttr K C f) (hv : EvP tv σ H P) (ha : EvP ta σ H (IsV (.ref x))) (ho : H x = some (.ins C dx fs)) (hl : fs.length < 1000) (k : ∀ v H1, Same H H1 → P.h v H1 → D.nx σ (upd H1 x (.ins C dx (putF f v fs)))) : sFld K ta tv f D σ H :=
  hv H (Same.refl H) _ fun y H1 e1 py => ha H1 e1 _ fun u H2 e2 (pu : u = _) => ⟨x, C, dx, fs, pu, e2 _ _ (e1 _ _ ho), c, n, hl, k y H2 (e1.trans e2) (P.kp e2 py)⟩
theorem q_fldV {C : Addr} {f : Str} {fs : List (Str × V)} {P : Pr} (c : Cls K C) (n : NoAttr K C f) (hv : EvP tv σ H P) (ha : EvP ta σ H (IsV (.ref x))) (ho : H x = some (.ins C dx fs)) (hl : fs.length < 1000) (k : ∀ v H1, Same H H1 → P.h v H1 → tz D σ (upd H1 x (.ins C dx (putF f v fs)))) : tSeq (sFld K ta tv f) tz D σ H :=
  s_fldV (D := { D with nx := tz D }) c n hv ha ho hl k
/-- xs[j] = v -/
theorem s_setL {l : Addr} {xs : List V} {j v : Int} (he : EvP te σ H (IsI v)) (ho : EvP to σ H (IsV (.ref l))) (hi : EvP ti σ H (IsI j)) (hl : H l = some (.lst xs)) (h0 : 0 ≤ j) (h1 : j < xs.length) (k : ∀ H1, Same H H1 → D.nx σ (upd H1 l (.lst (xs.set j.toNat (.int v))))) : tAsg te (gSub to ti rSetL) D σ H :=
  he H (Same.refl H) _ fun y H1 e1 (py : y = _) => ho H1 e1 _ fun u H2 e2 (pu : u = _) => hi H2 (e1.trans e2) _ fun w H3 e3 (pw : w = _) => by
    subst py
    refine ⟨l, xs, j, j.toNat, pu, pw, e3 _ _ (e2 _ _ (e1 _ _ hl)), ?_, k H3 ((e1.trans e2).trans e3)⟩
    unfold ixN
    rw [if_pos h0, if_pos h1]
theorem q_setL {l : Addr} {xs : List V} {j v : Int} (he : EvP te σ H (IsI v)) (ho : EvP to σ H (IsV (.ref l))) (hi : EvP ti σ H (IsI j)) (hl : H l = some (.lst xs)) (h0 : 0 ≤ j) (h1 : j < xs.length) (k : ∀ H1, Same H H1 → tz D σ (upd H1 l (.lst (xs.set j.toNat (.int v))))) : tSeq (tAsg te (gSub to ti rSetL)) tz D σ H :=
  s_setL (D := { D with nx := tz D }) he ho hi hl h0 h1 k
/-- a subscript of a list of ints -/
theorem ev_ixI {l : Addr} {xs : List V} {j v : Int} (ho : EvP to σ H (IsV (.ref l))) (hi : EvP ti σ H (IsI j)) (hl : H l = some (.lst xs)) (h0 : 0 ≤ j) (hv : xs[j.toNat]? = some (.int v)) : EvP (tOp (rIxL K) to ti) σ H (IsI v) := ev_opP ho hi fun a b H1 e (ha : a = _) (hb : b = _) k q => by
  subst ha hb
  have : atI xs j = some (.int v) := by
    have := atI_nat hv
    rwa [show ((j.toNat : Nat) : Int) = j by omega] at this
  exact ⟨l, xs, j, _, rfl, rfl, SqL.of (e _ _ hl), this, q _ H1 (Same.refl H1) rfl⟩
/-- a < b < c -/
theorem ev_chain {p q : Int → Int → Prop} [dp : ∀ i j, Decidable (p i j)] [dq : ∀ i j, Decidable (q i j)] {i j k : Int} (ha : EvP ta σ H (IsI i)) (hb : EvP tb σ H (IsI j)) (hc : EvP tc σ H (IsI k)) :
    EvP (tChain (rI0 fun i j => .bl (decide (p i j))) (rI0 fun i j => .bl (decide (q i j))) ta tb tc) σ H (IsB (decide (p i j) && decide (q j k))) := fun H1 e Q h =>
  ha H1 e _ fun u H2 e2 (pu : u = _) => hb H2 (e.trans e2) _ fun w H3 e3 (pw : w = _) => by
    subst pu pw
    refine ⟨i, j, rfl, rfl, _, rfl, ?_⟩
    by_cases z : p i j
    · rw [if_pos (decide_eq_true z)]
      refine hc H3 ((e.trans e2).trans e3) _ fun y H4 e4 (py : y = _) => ?_
      subst py
      refine ⟨j, k, rfl, rfl, h _ H4 ((e2.trans e3).trans e4) ?_⟩
      show V.bl _ = V.bl _
      rw [decide_eq_true z, Bool.true_and]
    · rw [if_neg (by rw [decide_eq_false z]; decide)]
      refine h _ H3 (e2.trans e3) ?_
      show V.bl _ = V.bl _
      rw [decide_eq_false z, Bool.false_and]
/-- a method of one that stands, called for what it does -/
theorem s_meth {C : Addr} {f : Str} {fs : List (Str × V)} {sp : Sp} {E : XK} {Rs : List Pr} (ha : EvP ta σ H (IsV (.ref x))) (ho : H x = some (.ins C dx fs)) (hl : fs.lookup f = none) (hr : EvA tr σ H Rs) (k : ∀ vs H1, Same H H1 → AllP Rs vs H1 → sp (.ref x :: vs) H1 (fun _ H2 => D.nx σ H2) E) :
    tDrop (tMeth C f sp [] E ta tr) D σ H := ha H (Same.refl H) _ fun u H1 e1 (pu : u = _) => by
  subst pu
  refine ⟨x, dx, fs, rfl, e1 _ _ ho, hl, hr H1 e1 _ fun vs H2 e2 hv => ?_⟩
  rw [List.append_nil]
  exact k vs H2 (e1.trans e2) hv
theorem q_meth {C : Addr} {f : Str} {fs : List (Str × V)} {sp : Sp} {E : XK} {Rs : List Pr} (ha : EvP ta σ H (IsV (.ref x))) (ho : H x = some (.ins C dx fs)) (hl : fs.lookup f = none) (hr : EvA tr σ H Rs) (k : ∀ vs H1, Same H H1 → AllP Rs vs H1 → sp (.ref x :: vs) H1 (fun _ H2 => tz D σ H2) E) :
    tSeq (tDrop (tMeth C f sp [] E ta tr)) tz D σ H := s_meth (D := { D with nx := tz D }) ha ho hl hr k
end
end K79
end
section
set_option Elab.async false
set_option linter.all false
set_option maxRecDepth 100000
set_option maxHeartbeats 4000000
namespace K79
open PySem PySem.Spec L2
section
variable {P : Program} {w : World} {K : PySem.W.Frag} {mg : Str → Option Value} {base : Heap}
/-! ### LevelBounds.restrict -/
abbrev N_Lrestrict : List Str := ["self", "place", "least", "most"]
theorem sc_Lrestrict : FnScope N_Lrestrict ["self", "place", "least", "most"] (defScope st_Lrestrict) := ⟨rfl, rfl, rfl, by decide +kernel, rfl, by decide +kernel, by decide +kernel⟩
def Sp_Lrestrict (K : PySem.W.Frag) : Sp := fun vs H Q _ => ∃ (H0 : Hp) (x dx l1 l2 : Addr) (v1 : V) (R : Int) (m : Nat) (s : LS) (place least most : Int), vs = [.ref x, .int place, .int least, .int most] ∧ LBat K H0 H x v1 R m dx l1 l2 s ∧ place < m ∧
  ∀ H', LBat K H0 H' x v1 R m dx l1 l2 (rst s place least most) → Q .non H'
theorem ok_Lrestrict (T : Fx K mg) : GM P w K mg base 1 (He.ma K (cB K) "restrict") ["self", "place", "least", "most"] (Sp_Lrestrict K) := by
  refine mkS T.f_Lrestrict sc_Lrestrict (fun vs H Q E h => by obtain ⟨_, _, _, _, _, _, _, _, _, _, _, _, rfl, _⟩ := h; rfl) (fun _ _ _ _ _ _ us hl => match us, hl with | [_, _, _, _], _ => rfl) fun cdv A outer s H E hr => ?_
  have nd := sc_Lrestrict.nd
  refine ⟨_, (pss_one (ps_if (pt_cmpR op_lt (pv 1) pe_int (nomark _)) (pss_one (ps_fld (pv 0) (pe_and (pe_fld (pv 0) rfl) (pe_one (pe_chain op_le op_le (pv 2) pe_int (pv 3)))) rfl)) (pss_cons (ps_asg (pe_callB (call_max2 rfl) (by rfl) T.n_max (by decide +kernel) (pa_cons (pe_ix ix_list (pe_fld (pv 0) rfl) (pv 1) (fun _ _ => rfl)) (pa_cons (pv 2) pa_nil))) (pg_sub (pe_fld (pv 0) rfl) (pv 1) set_list))
    (pss_one (ps_asg (pe_callB (call_min2 rfl) (by rfl) T.n_min (by decide +kernel) (pa_cons (pe_ix ix_list (pe_fld (pv 0) rfl) (pv 1) (fun _ _ => rfl)) (pa_cons (pv 3) pa_nil))) (pg_sub (pe_fld (pv 0) rfl) (pv 1) set_list)))))), ?_⟩
  rintro vs Q ⟨H0, x, dx, l1, l2, v1, R, m, s, place, least, most, rfl, L, hp, k⟩
  refine s_if (b := decide (place < 0)) (et_test (ev_I0 (ev_v rfl) ev_c)) (fun z H1 e1 => ?_) fun z H1 e1 => ?_
  · have z := of_decide_eq_true z
    have L1 := L.more e1
    refine s_fldV (P := IsB (s.p && (decide (least ≤ 0) && decide (0 ≤ most)))) T.cls_L T.na_possible (ev_and (ev_fldV T.cls_L T.na_possible (ev_v rfl) L1.ob lb_poss) fun _ => ev_chain (p := fun i j => i ≤ j) (q := fun i j => i ≤ j) (ev_v rfl) ev_c (ev_v rfl)) (ev_v rfl) L1.ob (by show 5 < 1000; decide) fun v H2 e2 (pv : v = _) => ?_
    subst pv
    refine k _ ?_
    have := (L1.more e2).setP (s.p && (decide (least ≤ 0) && decide (0 ≤ most)))
    unfold rst
    rw [if_pos z, Bool.decide_and]
    exact this
  · have z := of_decide_eq_false z
    have L1 := L.more e1
    have hj : place.toNat < m := by omega
    refine q_setL (v := max (s.lo place.toNat) least) (j := place) (ev_max2 (ev_ixI (ev_fldV T.cls_L T.na_least (ev_v rfl) L1.ob lb_least) (ev_v rfl) L1.lo (by omega) (tab_at hj)) (ev_v rfl) rfl) (ev_fldV T.cls_L T.na_least (ev_v rfl) L1.ob lb_least) (ev_v rfl) L1.lo (by omega) (by rw [tab_len]; omega) fun H2 e2 => ?_
    have L2 := (L1.more e2).setLo (v := max (s.lo place.toNat) least) hj
    refine s_setL (v := min (s.hi place.toNat) most) (j := place) (ev_min2 (ev_ixI (ev_fldV T.cls_L T.na_most (ev_v rfl) L2.ob lb_most) (ev_v rfl) L2.hi (by omega) (tab_at hj)) (ev_v rfl) rfl) (ev_fldV T.cls_L T.na_most (ev_v rfl) L2.ob lb_most) (ev_v rfl) L2.hi (by omega) (by rw [tab_len]; omega) fun H3 e3 => ?_
    refine k _ ?_
    have := (L2.more e3).setHi (v := min (s.hi place.toNat) most) hj
    unfold rst
    rw [if_neg z]
    exact this
/-! ### observe -/
abbrev N_Lobserve : List Str := ["self", "number", "before", "after", "place", "one", "count", "moved"]
theorem sc_Lobserve : FnScope N_Lobserve ["self", "number", "before", "after"] (defScope st_Lobserve) := ⟨rfl, rfl, rfl, by decide +kernel, rfl, by decide +kernel, by decide +kernel⟩
def Sp_Lobserve (K : PySem.W.Frag) : Sp := fun vs H Q _ => ∃ (H0 : Hp) (x dx l1 l2 : Addr) (v1 : V) (R : Int) (I : Bag) (s : LS) (n b a : Int), vs = [.ref x, .int n, .int b, .int a] ∧ LBat K H0 H x v1 R I.length dx l1 l2 s ∧ (BagP I).h v1 H0 ∧ b + lev I n - R ≤ a ∧
  ∀ H', LBat K H0 H' x v1 R I.length dx l1 l2 (obsS I R s n b a) → Q .non H'
theorem ok_Lobserve (T : Fx K mg) : GM P w K mg base 2 (He.ma K (cB K) "observe") ["self", "number", "before", "after"] (Sp_Lobserve K) := by
  have G_level := ok_level (P := P) (w := w) (base := base) T
  have G_Lrestrict := ok_Lrestrict (P := P) (w := w) (base := base) T
  refine mkS T.f_Lobserve sc_Lobserve (fun vs H Q E h => by obtain ⟨_, _, _, _, _, _, _, _, _, _, _, _, rfl, _⟩ := h; rfl) (fun _ _ _ _ _ _ us hl => match us, hl with | [_, _, _, _], _ => rfl) fun cdv A outer s H E hr => ?_
  have nd := sc_Lobserve.nd
  refine ⟨_, (pss_cons (ps_set (i := 4) nd rfl (Or.inl rfl) (pe_op op_sub (pe_callB call_len_seq (by rfl) T.n_len (by decide +kernel) (pa_cons (pe_lc (own := [("one", 5), ("count", 6)]) (g := gTup K 2 (gCons (gName 5) (gCons (gName 6) gNil))) rfl nd (pi_tup (pe_fld (pv 0) rfl)) (blkOk_by (N := N_Lobserve) (sc := defScope st_Lobserve) (by decide +kernel)) (fun _ _ _ _ _ => (pg_tup rfl (pgs_cons (pg_name (i := 5) nd rfl (Or.inl rfl)) (pgs_cons (pg_name (i := 6) nd rfl (Or.inl rfl)) pgs_nil)))) (fun _ _ _ _ _ => (pts_one (pt_cmpR op_le (pv 5) (pv 1) (nomark _)))) (fun _ _ _ _ _ => (pv 5))) pa_nil)) pe_int))
    (pss_cons (ps_set (i := 7) nd rfl (Or.inl rfl) (pe_op op_sub (pe_op op_add (pv 2) (pe_callG G_level (hr.mono (by decide)) (pa_cons (pe_fld (pv 0) rfl) (pa_cons (pv 1) pa_nil)))) (pe_fld (pv 0) rfl)))
    (pss_cons (ps_if (pt_cmpR op_lt (pv 3) (pv 7) (nomark _)) (pss_one (ps_fld (pv 0) pe_bl rfl)) pss_nil)
    (pss_one (ps_expr (pe_methG T.cls_L T.m_Lrestrict G_Lrestrict (hr.mono (by decide)) (pv 0) (pa_cons (pv 4) (pa_cons (pe_ifExp (pt_cmpR op_gt (pv 3) (pv 7) (nomark _)) (pv 3) pe_int) (pa_cons (pv 3) pa_nil))))))))), ?_⟩
  rintro vs Q ⟨H0, x, dx, l1, l2, v1, R, I, s, n, b, a, rfl, L, hI, hle, k⟩
  have hI1 : (BagP I).h v1 H := (BagP I).kp L.sm hI
  have fI : ∀ {σ : St} {H1 : Hp}, Same H H1 → σ[0]? = some (some (.ref x)) → EvP (tFld K (tVar 0) "own_inserted") σ H1 (BagP I) := fun {σ H1} e h => (ev_fldV T.cls_L T.na_own_inserted (ev_v h) (e _ _ L.ob) lb_ins).imp fun v H2 e2 (pv : v = _) => by subst pv; exact (BagP I).kp (e.trans e2) hI1
  refine q_asg (P := IsI (plc I n)) (ev_i (i := ((I.filter fun e => decide (e.1 ≤ n)).length : Int)) (j := 1) ?_ ev_c rfl) fun v4 H1 e1 (p4 : v4 = _) => ?_
  · rw [show ((I.filter fun e => decide (e.1 ≤ n)).length : Int) = (((I.filter fun e => decide (e.1 ≤ n)).map fun e => IsI e.1).length : Nat) by rw [List.length_map]]
    refine ev_lenL (Ps := (I.filter fun e => decide (e.1 ≤ n)).map fun e => IsI e.1) ?_ rfl
    refine EvP.imp (ev_lcT2 (xs := I) (P1 := fun e => IsI e.1) (P2 := fun e => IsI e.2) (fun e => decide (e.1 ≤ n)) (fun e => IsI e.1) ((fI (Same.refl H) rfl).imp fun v H2 _ p => BagP.tup p) (Nat.lt_of_le_of_lt hI1.1 (by decide)) (fun _ _ => rfl) (fun e _ w1 w2 H2 _ k1 _ => et_test (ev_I0 (ev_var rfl k1) (ev_v rfl))) fun e _ w1 w2 H2 _ k1 _ _ => ev_var rfl k1) fun v H2 _ p => NewL.lst p
  subst p4
  refine q_asg (P := IsI (b + lev I n - R)) (ev_i (i := b + lev I n) (j := R) (ev_i (i := b) (j := lev I n) (ev_v rfl) (ev_call (I, n) trivial (ea2 (fI e1 rfl) (ev_v rfl))) rfl) (ev_fldV T.cls_L T.na_own_removals (ev_v rfl) (e1 _ _ L.ob) lb_rem) rfl) fun v7 H2 e2 (p7 : v7 = _) => ?_
  subst p7
  refine q_no (et_test (ev_i (i := a) (j := b + lev I n - R) (ev_v rfl) (ev_v rfl) (by rw [decide_eq_false (by omega)]))) fun H3 e3 => ?_
  have e13 := (e1.trans e2).trans e3
  have L3 := L.more e13
  refine s_meth (Rs := [IsI (plc I n), IsI (if a > b + lev I n - R then a else 0), IsI a]) (ev_v rfl) L3.ob (lb_none (by decide +kernel)) (ea3 (ev_v rfl) (ev_if (b := decide (a > b + lev I n - R)) (et_test (ev_I0 (ev_v rfl) (ev_v rfl))) (fun z => ?_) fun z => ?_) (ev_v rfl)) fun vs H4 e4 hv => ?_
  · rw [if_pos (of_decide_eq_true z)]
    exact ev_v rfl
  · rw [if_neg (of_decide_eq_false z)]
    exact ev_c
  · obtain ⟨w1, _, rfl, (h1 : w1 = _), w2, _, rfl, (h2 : w2 = _), w3, _, rfl, (h3 : w3 = _), rfl⟩ := hv
    subst h1 h2 h3
    exact ⟨H0, x, dx, l1, l2, v1, R, I.length, s, _, _, _, rfl, L3.more e4, plc_lt I n, fun H' L' => k H' L'⟩
end
end K79
end
section
set_option Elab.async false
set_option linter.all false
set_option maxRecDepth 100000
set_option maxHeartbeats 4000000
namespace K79
open PySem PySem.Spec L2
section
variable {X : Cx} {K : PySem.W.Frag}
theorem ix_tupK (h : X.K = K) : IxR X (rIxT K) := h ▸ ix_tup
theorem ix_listK (h : X.K = K) : IxR X (rIxL K) := h ▸ ix_list
theorem op_catFK (h : X.K = K) : OpR X (binaryOp .Add) (rCatF K) := h ▸ op_catF
theorem op_rep01K (h : X.K = K) : OpR X (binaryOp .Mult) (rRep01 K) := h ▸ op_rep01
theorem pi_tupK {tg l : Expr} {tl : TE} (h : X.K = K) (hl : PE X l tl) : PI X tg l (iTup K tl) := h ▸ pi_tup hl
theorem op_eqDK (h : X.K = K) (hu : X.A.units + 64 < cLine) : OpR X (compareOp .Eq) (rEqD K) := h ▸ op_eqD hu
theorem pe_fldK {e : Expr} {f : Str} {pos : Pos} {ta : TE} (h : X.K = K) (he : PE X e ta) (hb : attributeBase e f X.env (eval e X.env) = eval e X.env) : PE X (.Attribute e f pos) (tFld K ta f) := h ▸ pe_fld he hb
end
section
variable {K : PySem.W.Frag} {σ : St} {H : Hp} {te ta tb tk tv : TE} {tr : TA} {tg : TG} {ts tz : TS} {D : Ends} {vs : List Nat}
theorem kept_all {α : Type} (xs : List α) (PP : α → Pr) : (xs.filter fun _ => true).map PP = xs.map PP := by rw [List.filter_eq_self.mpr fun _ _ => rfl]
/-- [e for a, b in zip(xs, ys)], lists of ints -/
theorem ev_lcZ {l1 l2 : Addr} {m : Nat} {f g : Nat → Int} {i j : Nat} (PP : Nat → Pr) [hF : ∀ a, Fixd (PP a)] (h : EvA tr σ H [IsV (.ref l1), IsV (.ref l2)]) (h1 : H l1 = some (.lst (tab m f))) (h2 : H l2 = some (.lst (tab m g))) (hz : m < 100000)
    (hw : ∀ x y, wipe (((wipe σ vs).set i (some x)).set j (some y)) vs = wipe σ vs)
    (he : ∀ k, k < m → ∀ H1, Same H H1 → EvP te (((wipe σ vs).set i (some (.int (f k)))).set j (some (.int (g k)))) H1 (PP k)) :
    EvP (tLc (iZip K tr) (gTup K 2 (gCons (gName i) (gCons (gName j) gNil))) tYes te vs) σ H (NewL H ((List.range m).map PP)) := fun H0 e Q q =>
  h H0 e _ fun us H1 e1 hv => by
    obtain ⟨v1, _, rfl, (p1 : v1 = _), v2, _, rfl, (p2 : v2 = _), rfl⟩ := hv
    subst p1 p2
    have g1 := e1 _ _ (e _ _ h1)
    have g2 := e1 _ _ (e _ _ h2)
    have hm : m = min (tab m f).length (tab m g).length := by rw [tab_len, tab_len]; omega
    refine ⟨l1, l2, tab m f, tab m g, rfl, SqL.of g1, SqL.of g2, fun Dl hD => lc_it (walk_zip hm) (Cv H1 Dl (kept (List.range m) (fun _ => true) PP)) (Cv.start hD rfl) (fun k H' _ c => ⟨SqL.of (c.2.1 _ _ g1), SqL.of (c.2.1 _ _ g2)⟩) (fun k x H' H'' hk c y => ?_) fun H' c => ?_⟩
    · obtain ⟨T, x1, x2, rfl, hT, rfl, y1, y2⟩ := y
      have y1 : (tab m f)[k]? = some x1 := y1
      have y2 : (tab m g)[k]? = some x2 := y2
      rw [tab_at hk] at y1 y2
      cases y1
      cases y2
      have c2 := c.more (Same.ext (Same.refl H') hT (o := .tup [V.int (f k), V.int (g k)]))
      have s2 : Same H (upd H' T (.tup [V.int (f k), V.int (g k)])) := (e.trans e1).trans c2.2.1
      exact ⟨T, _, rfl, SqT.of upd_same, rfl, _, _, rfl, _, _, rfl, rfl, hw _ _, kept_turn c2 (by omega) (List.getElem?_range hk) et_yes fun _ => he k hk _ s2⟩
    · have c' : Cv H1 Dl (kept (List.range m) (fun _ => true) PP) (List.range m).length H' := by rw [List.length_range]; exact c
      have r := Cv.done (e.trans e1) c'
      rw [kept_all] at r
      exact q _ H' (e1.trans c.2.1) r
/-- for i in range(n, 0, -1) -/
theorem q_forD {n : Int} (h : EvA tr σ H [IsI n, IsI 0, IsI (-1)]) (hb : -(2 ^ 62) ≤ n ∧ n < 2 ^ 62) (Pv : Nat → St → Hp → Prop) (h0 : ∀ H1, Same H H1 → Pv 0 σ H1)
    (hs : ∀ (i : Nat) σ' H', (i : Int) < n → Pv i σ' H' → tg (.int (n - i)) σ' H' fun σ2 H2 => ts { D with nx := Pv (i + 1), ct := Pv (i + 1), bk := tz D } σ2 H2) (hd : ∀ σ' H', Pv n.toNat σ' H' → tz D σ' H') : tSeq (tFor (iRng3 tr) tg ts) tz D σ H :=
  h H (Same.refl H) _ fun us H1 e1 hv => by
    obtain ⟨v1, _, rfl, (p1 : v1 = _), v2, _, rfl, (p2 : v2 = _), v3, _, rfl, (p3 : v3 = _), rfl⟩ := hv
    subst p1 p2 p3
    refine ⟨n, 0, -1, (n - 0).toNat, rfl, RgC.neg hb.1 hb.2 (by decide) (by decide), ?_⟩
    have en : (n - 0).toNat = n.toNat := by omega
    rw [en]
    refine for_rangeC (D := { D with nx := tz D }) Pv (h0 H1 e1) (fun i σ' H' hi p => ?_) hd
    rw [show n + (i : Nat) * (-1) = n - i by omega]
    exact hs i σ' H' (by omega) p
/-- a list + a list -/
theorem ev_catL {Ps Qs : List Pr} (ha : EvP ta σ H (LstP Ps)) (hb : EvP tb σ H (LstP Qs)) (hl : Ps.length + Qs.length ≤ 100000) : EvP (tOp rCat ta tb) σ H (NewL H (Ps ++ Qs)) := fun H0 e0 Q q => ha H0 e0 _ fun x H1 e1 hx => hb H1 (e0.trans e1) _ fun y H2 e2 hy => by
  obtain ⟨p, ys, rfl, hp, hP⟩ := hx
  obtain ⟨p', ys', rfl, hp', hP'⟩ := hy
  exact ⟨p, p', ys, ys', rfl, rfl, e2 _ _ hp, hp', Nat.le_trans (by rw [hP.len, hP'.len]; exact hl) (by decide), fun l hn => q _ _ ((e1.trans e2).trans (Same.ext (Same.refl H2) hn)) ⟨l, _, rfl, free_back ((e0.trans e1).trans e2) hn, upd_same, AllP.kp (Same.ext (Same.refl H2) hn) ((AllP.kp e2 hP).app hP')⟩⟩
theorem diffs_at : ∀ {I : Bag} {s : List Int} {p : Int} {k : Nat} (h1 : k < I.length) (h2 : k < s.length), (diffs I s p)[k]? = some ((I[k]).1, s[k] - (p :: s).getD k 0)
  | e :: I, u :: s, p, 0, _, _ => rfl
  | e :: I, u :: s, p, k + 1, h1, h2 => by
    show (diffs I s u)[k]? = _
    rw [diffs_at (by simpa using h1) (by simpa using h2)]
    simp
theorem diffs_lenE : ∀ {I : Bag} {s : List Int} {p : Int}, s.length = I.length → (diffs I s p).length = I.length
  | [], _, _, _ => by simp [diffs]
  | e :: I, [], _, h => by simp at h
  | e :: I, u :: s, p, h => by simp only [diffs, List.length_cons]; rw [diffs_lenE (by simpa using h)]
/-- a dict comprehension over a walk -/
theorem dc_it {J : It} {n : Nat} {G : Hp → Prop} {Y : Nat → Hp → V → Hp → Prop} (wk : Walk J n G Y) {H1 : Hp} {Dd : Addr} {Qd : Hp → Prop} (Pv : Nat → Hp → Prop) (h0 : Pv 0 (upd H1 Dd (.dK []))) (hG : ∀ i H, i ≤ n → Pv i H → G H)
    (hs : ∀ i x H H', i < n → Pv i H → Y i H x H' → tg x (wipe σ vs) H' fun σ2 H2 => wipe σ2 vs = wipe σ vs ∧ tYes σ2 H2 fun b H3 =>
      if b = true then tk σ2 H3 fun y H4 => tv σ2 H4 fun z H5 => ∃ kvs k, y = kV k ∧ H5 Dd = some (.dK kvs) ∧ kvs.length < sizeLine ∧ Pv (i + 1) (upd H5 Dd (.dK (putK kvs k z))) else Pv (i + 1) H3) (hd : ∀ H, Pv n H → Qd H) :
    ∃ W : Nat → Nat → Hp → Prop, (∃ m, W 0 m (upd H1 Dd (.dK []))) ∧ ∀ i m H, W i m H →
      (J.stop i H ∧ Qd H) ∨ (J.go i H ∧ ∃ Nx : Hp → Prop, (∀ H', Nx H' → ∃ m', m' < m ∧ W (i + 1) m' H') ∧ ∀ x H', J.yld i H x H' → tg x (wipe σ vs) H' fun σ2 H2 => wipe σ2 vs = wipe σ vs ∧ tYes σ2 H2 fun b H3 =>
        if b = true then tk σ2 H3 fun y H4 => tv σ2 H4 fun z H5 => ∃ kvs k, y = kV k ∧ H5 Dd = some (.dK kvs) ∧ kvs.length < sizeLine ∧ Nx (upd H5 Dd (.dK (putK kvs k z))) else Nx H3) := by
  refine ⟨fun i m H => m = n - i ∧ i ≤ n ∧ Pv i H, ⟨n, rfl, Nat.zero_le _, h0⟩, ?_⟩
  rintro i m H ⟨rfl, hi, p⟩
  have q := hG i H hi p
  rcases Nat.lt_or_ge i n with hlt | hge
  · exact .inr ⟨wk.goes i H hlt q, Pv (i + 1), fun H' p' => ⟨n - (i + 1), by omega, rfl, hlt, p'⟩, fun x H' y => hs i x H H' hlt p (wk.yields i H x H' hlt q y)⟩
  · obtain rfl : i = n := by omega
    exact .inl ⟨wk.stops H q, hd H p⟩
/-- {entry[0]: one - two for entry, one, two in zip(bag, levels, before)} -/
theorem ev_diffs {I : Bag} {s : List Int} (hlen : s.length = I.length) (hI : IsBag I) (hz : I.length ≤ 1000) (h : EvA tr σ H [TupP (I.map entP), LstP (s.map IsI), LstP ((0 :: s).map IsI)])
    (hw : ∀ x y z, wipe ((((wipe σ vs).set 3 (some x)).set 4 (some y)).set 5 (some z)) vs = wipe σ vs)
    (hk : ∀ x y z : V, ∀ e : Int × Int, ∀ H1, (entP e).h x H1 → EvP tk ((((wipe σ vs).set 3 (some x)).set 4 (some y)).set 5 (some z)) H1 (IsI e.1))
    (hv : ∀ x : V, ∀ a b : Int, ∀ H1, EvP tv ((((wipe σ vs).set 3 (some x)).set 4 (some (.int a))).set 5 (some (.int b))) H1 (IsI (a - b))) :
    EvP (tDc (iZip3 K tr) (gTup K 3 (gCons (gName 3) (gCons (gName 4) (gCons (gName 5) gNil)))) tYes tk tv vs) σ H (DctP (diffs I s 0)) := fun H0 e Q q =>
  h H0 e _ fun us H1 e1 hu => by
    obtain ⟨v1, _, rfl, ⟨p1, ys, rfl, hp1, hy⟩, v2, _, rfl, ⟨p2, zs, rfl, hp2, hzs⟩, v3, _, rfl, ⟨p3, ws, rfl, hp3, hws⟩, rfl⟩ := hu
    have ez : zs = s.map V.int := AllP.is (f := V.int) hzs
    have ew : ws = (0 :: s).map V.int := AllP.is (f := V.int) hws
    subst ez ew
    have hyl : ys.length = I.length := by rw [hy.len, List.length_map]
    have en : min (min ys.length (s.map V.int).length) ((0 :: s).map V.int).length = I.length := by rw [hyl, List.length_map, List.length_map, List.length_cons, hlen]; omega
    have dd : Dist (diffs I s 0) := diffs_dist s 0 hI
    refine ⟨p1, p2, p3, ys, s.map V.int, (0 :: s).map V.int, rfl, .inl hp1, SqL.of hp2, SqL.of hp3, fun Dd hD => ?_⟩
    rw [en]
    refine dc_it walk_U (fun k H' => H1 Dd = none ∧ Same H1 H' ∧ H' Dd = some (.dK (dictOf ((diffs I s 0).take k)))) ⟨hD, Same.ext (Same.refl H1) hD, upd_same⟩ (fun k H' _ c => ⟨.inl (Same.rd c.2.1 hp1), SqL.of (c.2.1 _ _ hp2), SqL.of (c.2.1 _ _ hp3)⟩) (fun k x H' H'' hk' c y => ?_) fun H' c => ?_
    · obtain ⟨T, rfl, hT, rfl⟩ := y
      obtain ⟨n0, sm, hd⟩ := c
      have hks : k < s.length := by omega
      have ge : (I.map entP)[k]? = some (entP I[k]) := by rw [List.getElem?_map, List.getElem?_eq_getElem hk'] <;> rfl
      obtain ⟨v, hv1, hv2⟩ := hy.at ge
      have g1 : ys.getD k .non = v := by rw [List.getD_eq_getElem?_getD, hv1] <;> rfl
      have g2 : (s.map V.int).getD k .non = .int s[k] := by rw [List.getD_eq_getElem?_getD, List.getElem?_map, List.getElem?_eq_getElem hks] <;> rfl
      have g3 : ((0 :: s).map V.int).getD k .non = .int ((0 :: s).getD k 0) := by rw [List.getD_eq_getElem?_getD, List.getD_eq_getElem?_getD, List.getElem?_map, List.getElem?_eq_getElem (by rw [List.length_cons]; omega)] <;> rfl
      simp only [g1, g2, g3]
      generalize hob : (HO.tup [v, .int s[k], .int ((0 :: s).getD k 0)]) = ob
      have sT : Same H' (upd H' T ob) := Same.ext (Same.refl H') hT
      have hv3 : (entP I[k]).h v (upd H' T ob) := (entP I[k]).kp (sm.trans sT) hv2
      refine ⟨T, _, rfl, SqT.of (by rw [upd_same, ← hob]), rfl, _, _, rfl, _, _, rfl, _, _, rfl, rfl, hw _ _ _, ?_⟩
      unfold tYes
      simp only [if_true]
      refine hk _ _ _ I[k] _ hv3 _ (Same.refl _) _ fun y3 H3 e3 (p3 : y3 = _) => hv _ _ _ H3 _ (Same.refl _) _ fun y4 H4 e4 (p4 : y4 = _) => ?_
      subst p3 p4
      have s4 : Same H1 H4 := ((sm.trans sT).trans e3).trans e4
      have hd4 : H4 Dd = some (.dK (dictOf ((diffs I s 0).take k))) := e4 _ _ (e3 _ _ (sT _ _ hd))
      refine ⟨_, .inl I[k].1, rfl, hd4, Nat.lt_of_le_of_lt (m := 1000) (by rw [dictOf_len, List.length_take]; omega) (by decide), n0, Same.chg s4 n0, ?_⟩
      rw [upd_same]
      have et : (diffs I s 0).take (k + 1) = (diffs I s 0).take k ++ [((I[k]).1, s[k] - (0 :: s).getD k 0)] := by rw [List.take_succ, diffs_at hk' hks] <;> rfl
      have nk : (Sum.inl I[k].1 : Key) ∉ (dictOf ((diffs I s 0).take k)).map (·.1) := fun z => by
        have d2 : Dist ((diffs I s 0).take (k + 1)) := by
          unfold Dist at dd ⊢
          exact dd.sublist ((List.take_sublist _ _).map _)
        rw [et] at d2
        unfold Dist at d2
        rw [List.map_append, List.nodup_append] at d2
        unfold dictOf at z
        rw [List.map_map] at z
        obtain ⟨p, hp, ep⟩ := List.mem_map.mp z
        exact d2.2.2 p.1 (List.mem_map.mpr ⟨p, hp, rfl⟩) I[k].1 (by simp) (Sum.inl.inj ep)
      rw [putK_fresh nk, et]
      unfold dictOf
      rw [List.map_append] <;> rfl
    · obtain ⟨n0, sm, hd⟩ := c
      rw [List.take_of_length_le (by rw [diffs_lenE hlen]; exact Nat.le_refl _)] at hd
      exact q _ H' (e1.trans sm) ⟨Dd, rfl, hd⟩
end
section
variable {P : Program} {w : World} {K : PySem.W.Frag} {mg : Str → Option Value} {base : Heap}
/-! ### settle -/
abbrev N_Lsettle : List Str := ["self", "place", "count", "least", "most"]
theorem sc_Lsettle : FnScope N_Lsettle ["self"] (defScope st_Lsettle) := ⟨rfl, rfl, rfl, by decide +kernel, rfl, by decide +kernel, by decide +kernel⟩
def Sp_Lsettle (K : PySem.W.Frag) : Sp := fun vs H Q _ => ∃ (H0 : Hp) (x dx l1 l2 : Addr) (v1 : V) (R : Int) (I : Bag) (s : LS), vs = [.ref x] ∧ LBat K H0 H x v1 R I.length dx l1 l2 s ∧ (BagP I).h v1 H0 ∧
  ∀ H', LBat K H0 H' x v1 R I.length dx l1 l2 (setl I s) → Q (.bl ((setl I s).p && (List.range I.length).all fun i => decide ((setl I s).lo i ≤ (setl I s).hi i))) H'
theorem ok_Lsettle (T : Fx K mg) : GM P w K mg base 2 (He.ma K (cB K) "settle") ["self"] (Sp_Lsettle K) := by
  have G_Lrestrict := ok_Lrestrict (P := P) (w := w) (base := base) T
  refine mkS T.f_Lsettle sc_Lsettle (fun vs H Q E h => by obtain ⟨_, _, _, _, _, _, _, _, _, rfl, _⟩ := h; rfl) (fun _ _ _ _ _ _ us hl => match us, hl with | [_], _ => rfl) fun cdv A outer s H E hr => ?_
  have nd := sc_Lsettle.nd
  refine ⟨_, (pss_cons (ps_for PassesOwn.never rfl (pi_range2 (by rfl) T.n_range (pa_cons pe_int (pa_cons (pe_callB call_len_seq (by rfl) T.n_len (by decide +kernel) (pa_cons (pe_fld (pv 0) rfl) pa_nil)) pa_nil))) (pg_name (i := 1) nd rfl (Or.inl rfl)) (pss_cons (ps_set (i := 2) nd rfl (Or.inl rfl) (pe_ix ix_tup (pe_ix ix_tup (pe_fld (pv 0) rfl) (pv 1) (fun _ _ => rfl)) pe_int (fun _ _ => rfl)))
    (pss_one (ps_expr (pe_methG T.cls_L T.m_Lrestrict G_Lrestrict (hr.mono (by decide)) (pv 0) (pa_cons (pv 1) (pa_cons (pe_ix ix_list (pe_fld (pv 0) rfl) (pe_op op_sub (pv 1) pe_int) (fun _ _ => rfl)) (pa_cons (pe_op op_add (pe_ix ix_list (pe_fld (pv 0) rfl) (pe_op op_sub (pv 1) pe_int) (fun _ _ => rfl)) (pv 2)) pa_nil))))))))
    (pss_cons (ps_for PassesOwn.never rfl (pi_range3 (by rfl) T.n_range (pa_cons (pe_op op_sub (pe_callB call_len_seq (by rfl) T.n_len (by decide +kernel) (pa_cons (pe_fld (pv 0) rfl) pa_nil)) pe_int) (pa_cons pe_int (pa_cons (pe_un un_neg pe_int) pa_nil)))) (pg_name (i := 1) nd rfl (Or.inl rfl)) (pss_cons (ps_set (i := 2) nd rfl (Or.inl rfl) (pe_ix ix_tup (pe_ix ix_tup (pe_fld (pv 0) rfl) (pv 1) (fun _ _ => rfl)) pe_int (fun _ _ => rfl)))
    (pss_one (ps_expr (pe_methG T.cls_L T.m_Lrestrict G_Lrestrict (hr.mono (by decide)) (pv 0) (pa_cons (pe_op op_sub (pv 1) pe_int) (pa_cons (pe_op op_sub (pe_ix ix_list (pe_fld (pv 0) rfl) (pv 1) (fun _ _ => rfl)) (pv 2)) (pa_cons (pe_ix ix_list (pe_fld (pv 0) rfl) (pv 1) (fun _ _ => rfl)) pa_nil))))))))
    (pss_one (ps_ret (pe_and (pe_fld (pv 0) rfl) (pe_one (pe_callB (cr_all rfl) (by rfl) T.n_all (by decide +kernel) (pa_cons (pe_lc (own := [("least", 3), ("most", 4)]) (g := gTup K 2 (gCons (gName 3) (gCons (gName 4) gNil))) (tt := tYes) rfl nd (pi_zip (by rfl) T.n_zip (pa_cons (pe_fld (pv 0) rfl) (pa_cons (pe_fld (pv 0) rfl) pa_nil))) (blkOk_by (N := N_Lsettle) (sc := defScope st_Lsettle) (by decide +kernel)) (fun _ _ _ _ _ => (pg_tup rfl (pgs_cons (pg_name (i := 3) nd rfl (Or.inl rfl)) (pgs_cons (pg_name (i := 4) nd rfl (Or.inl rfl)) pgs_nil)))) (fun _ _ _ _ _ => pts_nil) (fun _ _ _ _ _ => (pe_cmpR op_le (pv 3) (pv 4) (nomark _)))) pa_nil)))))))), ?_⟩
  rintro vs Q ⟨H0, x, dx, l1, l2, v1, R, I, s, rfl, L, hI, k⟩
  have hz := hI.1
  have fI : ∀ {σ : St} {H1 : Hp} {s1 : LS}, LBat K H0 H1 x v1 R I.length dx l1 l2 s1 → σ[0]? = some (some (.ref x)) → EvP (tFld K (tVar 0) "own_inserted") σ H1 (TupP (I.map entP)) := fun {σ H1 s1} L h => (ev_fldV T.cls_L T.na_own_inserted (ev_v h) L.ob lb_ins).imp fun v H2 e2 (pv : v = _) => by subst pv; exact BagP.tup ((BagP I).kp (L.sm.trans e2) hI)
  have fl : ∀ {σ : St} {H1 : Hp} {s1 : LS}, LBat K H0 H1 x v1 R I.length dx l1 l2 s1 → σ[0]? = some (some (.ref x)) → EvP (tFld K (tVar 0) "least") σ H1 (IsV (.ref l1)) := fun {σ H1 s1} L h => ev_fldV T.cls_L T.na_least (ev_v h) L.ob lb_least
  have fm : ∀ {σ : St} {H1 : Hp} {s1 : LS}, LBat K H0 H1 x v1 R I.length dx l1 l2 s1 → σ[0]? = some (some (.ref x)) → EvP (tFld K (tVar 0) "most") σ H1 (IsV (.ref l2)) := fun {σ H1 s1} L h => ev_fldV T.cls_L T.na_most (ev_v h) L.ob lb_most
  have fL : ∀ {σ : St} {H1 : Hp} {s1 : LS}, LBat K H0 H1 x v1 R I.length dx l1 l2 s1 → σ[0]? = some (some (.ref x)) → EvP (tFld K (tVar 0) "least") σ H1 (LstP ((List.range I.length).map fun i => IsI (s1.lo i))) := fun {σ H1 s1} L h => (fl L h).imp fun v H2 e2 (pv : v = _) => ⟨l1, _, pv, e2 _ _ L.lo, AllP.of_is (f := fun i => V.int (s1.lo i))⟩
  have ln : ∀ {s1 : LS}, ((I.length : Nat) : Int) = (((List.range I.length).map fun i => IsI (s1.lo i)).length : Nat) := fun {s1} => by rw [List.length_map, List.length_range]
  have hI2 : ∀ j, j < I.length → I[j]? = some (I.getD j (0, 0)) := fun j hj => by rw [List.getD_eq_getElem?_getD, List.getElem?_eq_getElem hj] <;> rfl
  refine q_forR (lo := 1) (hi := I.length) (ea2 ev_c (by rw [ln (s1 := s)]; exact ev_lenL (fL L rfl) rfl)) (by omega) (fun i σ' H' => ∃ a b, σ' = [some (.ref x), a, b, none, none] ∧ LBat K H0 H' x v1 R I.length dx l1 l2 (fwdK I s i)) (fun H1 e1 => ⟨none, none, rfl, L.more e1⟩) ?_ ?_
  · rintro i σ' H' hi ⟨a, b, rfl, L1⟩
    have hi2 : i + 1 < I.length := by omega
    show tSeq _ _ _ [some (.ref x), some (.int (1 + i)), b, none, none] H'
    have e1i : (1 + (i : Int)) = ((i + 1 : Nat) : Int) := by omega
    rw [e1i]
    refine q_asg (P := IsI (I.getD (i + 1) (0, 0)).2) (ev_ixT (Ps := [IsI (I.getD (i + 1) (0, 0)).1, IsI (I.getD (i + 1) (0, 0)).2]) (i := 1) (ev_ixT (P := entP (I.getD (i + 1) (0, 0))) (fI L1 rfl) (ev_v rfl) (by rw [List.getElem?_map, hI2 _ hi2] <;> rfl)) ev_c rfl) fun v H2 e2 (pv : v = _) => ?_
    subst pv
    have L2 := L1.more e2
    refine s_meth (Rs := [IsI ((i + 1 : Nat) : Int), IsI ((fwdK I s i).lo i), IsI ((fwdK I s i).hi i + (I.getD (i + 1) (0, 0)).2)]) (ev_v rfl) L2.ob (lb_none (by decide +kernel)) (ea3 (ev_v rfl) (ev_ixI (j := i) (fl L2 rfl) (ev_i (ev_v rfl) ev_c (by congr 1; omega)) L2.lo (by omega) (by rw [Int.toNat_natCast]; exact tab_at (by omega))) (ev_i (ev_ixI (v := (fwdK I s i).hi i) (j := i) (fm L2 rfl) (ev_i (ev_v rfl) ev_c (by congr 1; omega)) L2.hi (by omega) (by rw [Int.toNat_natCast]; exact tab_at (by omega))) (ev_v rfl) rfl)) fun us H3 e3 hu => ?_
    obtain ⟨u1, _, rfl, (h1 : u1 = _), u2, _, rfl, (h2 : u2 = _), u3, _, rfl, (h3 : u3 = _), rfl⟩ := hu
    subst h1 h2 h3
    exact ⟨H0, x, dx, l1, l2, v1, R, I.length, _, _, _, _, rfl, L2.more e3, by omega, fun H4 L4 => ⟨_, _, rfl, L4⟩⟩
  · rintro σ' H' ⟨a, b, rfl, L1⟩
    rw [show ((I.length : Int) - 1).toNat = I.length - 1 by omega] at L1
    refine q_forD (n := (I.length : Int) - 1) (ea3 (ev_i (i := (I.length : Nat)) (j := 1) (by rw [ln (s1 := fwdK I s (I.length - 1))]; exact ev_lenL (fL L1 rfl) rfl) ev_c rfl) ev_c (ev_neg (i := 1) ev_c rfl)) (by omega) (fun i σ' H' => ∃ a b, σ' = [some (.ref x), a, b, none, none] ∧ LBat K H0 H' x v1 R I.length dx l1 l2 (bwdK I (fwdK I s (I.length - 1)) i)) (fun H1 e1 => ⟨_, _, rfl, L1.more e1⟩) ?_ ?_
    · rintro i σ' H' hi ⟨a, b, rfl, L1⟩
      generalize hs1 : bwdK I (fwdK I s (I.length - 1)) i = s1 at L1
      have hk : I.length - 1 - i < I.length := by omega
      show tSeq _ _ _ [some (.ref x), some (.int ((I.length : Int) - 1 - i)), b, none, none] H'
      have e1i : ((I.length : Int) - 1 - i) = ((I.length - 1 - i : Nat) : Int) := by omega
      rw [e1i]
      generalize hkk : I.length - 1 - i = j at hk
      refine q_asg (P := IsI (I.getD j (0, 0)).2) (ev_ixT (Ps := [IsI (I.getD j (0, 0)).1, IsI (I.getD j (0, 0)).2]) (i := 1) (ev_ixT (P := entP (I.getD j (0, 0))) (fI L1 rfl) (ev_v rfl) (by rw [List.getElem?_map, hI2 _ hk] <;> rfl)) ev_c rfl) fun v H2 e2 (pv : v = _) => ?_
      subst pv
      have L2 := L1.more e2
      refine s_meth (Rs := [IsI ((j : Int) - 1), IsI (s1.lo j - (I.getD j (0, 0)).2), IsI (s1.hi j)]) (ev_v rfl) L2.ob (lb_none (by decide +kernel)) (ea3 (ev_i (ev_v rfl) ev_c rfl) (ev_i (ev_ixI (v := s1.lo j) (j := j) (fl L2 rfl) (ev_v rfl) L2.lo (by omega) (by rw [Int.toNat_natCast]; exact tab_at hk)) (ev_v rfl) rfl) (ev_ixI (v := s1.hi j) (j := j) (fm L2 rfl) (ev_v rfl) L2.hi (by omega) (by rw [Int.toNat_natCast]; exact tab_at hk))) fun us H3 e3 hu => ?_
      obtain ⟨u1, _, rfl, (h1 : u1 = _), u2, _, rfl, (h2 : u2 = _), u3, _, rfl, (h3 : u3 = _), rfl⟩ := hu
      subst h1 h2 h3
      refine ⟨H0, x, dx, l1, l2, v1, R, I.length, _, _, _, _, rfl, L2.more e3, by omega, fun H4 L4 => ⟨_, _, rfl, ?_⟩⟩
      show LBat K H0 H4 x v1 R I.length dx l1 l2 (bwd I (bwdK I (fwdK I s (I.length - 1)) i) (I.length - 1 - i))
      rw [hs1, hkk]
      exact L4
    · rintro σ' H' ⟨a, b, rfl, L1⟩
      rw [show ((I.length : Int) - 1).toNat = I.length - 1 by omega] at L1
      have L1 : LBat K H0 H' x v1 R I.length dx l1 l2 (setl I s) := L1
      refine s_ret (P := IsB ((setl I s).p && (List.range I.length).all fun i => decide ((setl I s).lo i ≤ (setl I s).hi i))) (ev_and (ev_fldV T.cls_L T.na_possible (ev_v rfl) L1.ob lb_poss) fun _ => ?_) fun v H2 e2 (pv : v = _) => ?_
      · refine ev_all (xs := List.range I.length) (f := fun i => decide ((setl I s).lo i ≤ (setl I s).hi i)) ?_
        refine EvP.imp (ev_lcZ (l1 := l1) (l2 := l2) (m := I.length) (f := (setl I s).lo) (g := (setl I s).hi) (fun i => IsB (decide ((setl I s).lo i ≤ (setl I s).hi i))) (ea2 (fl L1 rfl) (fm L1 rfl)) L1.lo L1.hi (Nat.lt_of_le_of_lt hz (by decide)) (fun _ _ => rfl) fun k _ H2 _ => ev_I0 (ev_v rfl) (ev_v rfl)) fun v H2 _ p => NewL.lst p
      · subst pv
        exact k H2 (L1.more e2)
/-! ### bag -/
def LBP (K : PySem.W.Frag) (I : Bag) (R : Int) (s : LS) : Pr := ⟨fun v H => ∃ (x dx l1 l2 : Addr) (v1 : V), v = .ref x ∧ H x = some (.ins (cB K) dx (lbF v1 R l1 l2 s.p)) ∧ H l1 = some (.lst (tab I.length s.lo)) ∧ H l2 = some (.lst (tab I.length s.hi)) ∧ (BagP I).h v1 H,
  fun h ⟨x, dx, l1, l2, v1, a, b, c, d, e⟩ => ⟨x, dx, l1, l2, v1, a, h _ _ b, h _ _ c, h _ _ d, (BagP I).kp h e⟩⟩
abbrev N_Lbag : List Str := ["self", "levels", "before", "entry", "one", "two"]
theorem sc_Lbag : FnScope N_Lbag ["self", "levels"] (defScope st_Lbag) := ⟨rfl, rfl, rfl, by decide +kernel, rfl, by decide +kernel, by decide +kernel⟩
abbrev Sp_Lbag (K : PySem.W.Frag) : Sp := SpG (γ := Bag × Int × LS × List Int) (fun g => [LBP K g.1 g.2.1 g.2.2.1, LstP (g.2.2.2.map IsI)]) (fun g => IsBag g.1 ∧ g.2.2.2.length = g.1.length) (fun g => BagP (bagOf g.1 g.2.2.2))
theorem ok_Lbag (T : Fx K mg) : GM P w K mg base 2 (He.ma K (cB K) "bag") ["self", "levels"] (Sp_Lbag K) := by
  have G_from_counts := ok_from_counts (P := P) (w := w) (base := base) T
  refine mkM T.f_Lbag sc_Lbag (fun _ => rfl) (fun _ _ _ _ _ _ us hl => match us, hl with | [_, _], _ => rfl) fun cdv A outer s H E hr => ?_
  have nd := sc_Lbag.nd
  refine ⟨_, (pss_cons (ps_set (i := 2) nd rfl (Or.inl rfl) (pe_op op_cat (pe_lst (pa_cons pe_int pa_nil)) (pv 1)))
    (pss_one (ps_ret (pe_callG G_from_counts (hr.mono (by decide)) (pa_cons (pe_dc (own := [("entry", 3), ("one", 4), ("two", 5)]) (g := gTup K 3 (gCons (gName 3) (gCons (gName 4) (gCons (gName 5) gNil)))) (tt := tYes) rfl nd (pi_zip3 (by rfl) T.n_zip (pa_cons (pe_fld (pv 0) rfl) (pa_cons (pv 1) (pa_cons (pv 2) pa_nil)))) (blkOk_by (N := N_Lbag) (sc := defScope st_Lbag) (by decide +kernel)) (fun _ _ _ _ _ => (pg_tup rfl (pgs_cons (pg_name (i := 3) nd rfl (Or.inl rfl)) (pgs_cons (pg_name (i := 4) nd rfl (Or.inl rfl)) (pgs_cons (pg_name (i := 5) nd rfl (Or.inl rfl)) pgs_nil))))) (fun _ _ _ _ _ => pts_nil) (fun _ _ _ _ _ => (pe_ix (ix_tupK (K := K) rfl) (pv 3) pe_int (fun _ _ => rfl))) (fun _ _ _ _ _ => (pe_op op_sub (pv 4) (pv 5)))) pa_nil))))), ?_⟩
  rintro ⟨I, R, s, c⟩ vs Q ⟨hI, hc⟩ ⟨v1, _, rfl, ⟨x, dx, l1, l2, w1, rfl, h1, h2, h3, h4⟩, v2, _, rfl, hl, rfl⟩ q
  have hI : IsBag I := hI
  have hc : c.length = I.length := hc
  have hl : (LstP (c.map IsI)).h v2 H := hl
  have hz : I.length ≤ 1000 := h4.1
  refine q_asg (P := LstP ((0 :: c).map IsI)) (EvP.imp (ev_catL (Ps := [IsI 0]) (Qs := c.map IsI) (ev_lst' (ea1 ev_c) (by decide)) (ev_var rfl hl) (by rw [List.length_map]; simp; omega)) fun v H2 _ p => NewL.lst p) fun v3 H1 e1 p3 => ?_
  refine s_ret (ev_call (diffs I c 0) ⟨diffs_dist c 0 hI, Nat.le_trans (diffs_len I c 0) hz⟩ (ea1 (ev_diffs hc hI hz (ea3 ((ev_fldV T.cls_L T.na_own_inserted (ev_v rfl) (e1 _ _ h1) lb_ins).imp fun v H2 e2 (pv : v = _) => by subst pv; exact BagP.tup ((BagP I).kp (e1.trans e2) h4)) (ev_var rfl ((LstP _).kp e1 hl)) (ev_var rfl p3)) (fun _ _ _ => rfl) (fun x y z e H2 hx => ev_ixT (i := 0) (ev_var rfl hx) ev_c rfl) fun x a b H2 => ev_i (ev_v rfl) (ev_v rfl) rfl))) fun v H2 e2 p => q v H2 (e1.trans e2) p
end
end K79
end
section
set_option Elab.async false
set_option linter.all false
set_option maxRecDepth 100000
set_option maxHeartbeats 4000000
namespace K79
open PySem PySem.Spec L2
section
variable {K : PySem.W.Frag} {σ : St} {H : Hp} {te ta tb tk tv td : TE} {tr : TA} {tg : TG} {ts tz : TS} {D : Ends}
theorem ev_dnew : EvP tDNewK σ H (NewD H []) := fun H1 e Q q => fun p hp => q _ _ (Same.ext (Same.refl H1) hp) ⟨p, rfl, free_back e hp, upd_same⟩
theorem ev_disp1 {a b : Int} : EvP (tDisp [(tC (.int a), tC (.int b))]) σ H (NewD H [(a, b)]) := fun H1 e Q q => fun p hp => by
  refine ⟨upd_same, [(.inl a, .int b)], rfl, by simp, ?_⟩
  have sm : Same H1 (upd (upd H1 p (.dK [])) p (.dK (mergeK [] [(.inl a, .int b)]))) := Same.chg (Same.ext (Same.refl H1) hp) hp
  exact q _ _ sm ⟨p, rfl, free_back e hp, by rw [upd_same] <;> rfl⟩
/-- for i, y in enumerate(a tuple) -/
theorem s_forE {x : V} {Ps : List Pr} {H0 : Hp} {a b : Nat} (h : EvP ta σ H (IsV x)) (hT : (TupP Ps).h x H0) (Pv : Nat → St → Hp → Prop) (h0 : ∀ H1, Same H H1 → Pv 0 σ H1) (hk : ∀ i σ' H', Pv i σ' H' → Same H0 H')
    (hs : ∀ i P y σ' H' H2, Ps[i]? = some P → P.h y H2 → Pv i σ' H' → Same H' H2 → ts { D with nx := Pv (i + 1), ct := Pv (i + 1), bk := D.nx } ((σ'.set a (some (.int (i : Nat)))).set b (some y)) H2) (hd : ∀ σ' H', Pv Ps.length σ' H' → D.nx σ' H') :
    tFor (iEnumT K (tCons ta tNil)) (gTup K 2 (gCons (gName a) (gCons (gName b) gNil))) ts D σ H :=
  by
    unfold tFor iEnumT
    refine ea1 h H (Same.refl H) _ fun us H1 e1 hv => ?_
    obtain ⟨v1, _, rfl, (p1 : v1 = _), rfl⟩ := hv
    subst p1
    obtain ⟨p, ys, rfl, hp, hy⟩ := hT
    have e0 := hk _ _ _ (h0 H1 e1)
    refine ⟨p, ys, rfl, .inl (Same.rd e0 hp), for_it walk_U Pv (h0 H1 e1) (fun i σ' H' _ q => .inl (Same.rd (hk _ _ _ q) hp)) (fun i y σ' H' H'' hi q yl => ?_) (by rw [hy.len]; exact hd)⟩
    obtain ⟨T, rfl, hn, rfl⟩ := yl
    have ge : ys[i]? = some ys[i] := List.getElem?_eq_getElem hi
    obtain ⟨P, hP, hh⟩ := hy.get ge
    have gd : ys.getD i .non = ys[i] := by rw [List.getD_eq_getElem?_getD, ge] <;> rfl
    simp only [gd]
    have sT : Same H' (upd H' T (.tup [.int (i : Nat), ys[i]])) := Same.ext (Same.refl H') hn
    exact ⟨T, _, rfl, SqT.of upd_same, rfl, _, _, rfl, _, _, rfl, rfl, hs i P ys[i] σ' H' _ hP (P.kp ((hk _ _ _ q).trans sT) hh) q sT⟩
theorem q_forE {x : V} {Ps : List Pr} {H0 : Hp} {a b : Nat} (h : EvP ta σ H (IsV x)) (hT : (TupP Ps).h x H0) (Pv : Nat → St → Hp → Prop) (h0 : ∀ H1, Same H H1 → Pv 0 σ H1) (hk : ∀ i σ' H', Pv i σ' H' → Same H0 H')
    (hs : ∀ i P y σ' H' H2, Ps[i]? = some P → P.h y H2 → Pv i σ' H' → Same H' H2 → ts { D with nx := Pv (i + 1), ct := Pv (i + 1), bk := tz D } ((σ'.set a (some (.int (i : Nat)))).set b (some y)) H2) (hd : ∀ σ' H', Pv Ps.length σ' H' → tz D σ' H') :
    tSeq (tFor (iEnumT K (tCons ta tNil)) (gTup K 2 (gCons (gName a) (gCons (gName b) gNil))) ts) tz D σ H := s_forE (D := { D with nx := tz D }) h hT Pv h0 hk hs hd
/-- for n, c in d.items(), d locked meanwhile -/
theorem q_forI {d : Addr} {L : Bag} {a b : Nat} (hd : H d = some (.dK (dictOf L))) (hv : ∀ H1, EvP td σ H1 (IsV (.ref d))) (Pv : Obj → Nat → St → Hp → Prop) (h0 : ∀ od, Pv od 0 σ (upd H d (.frz od (.dK (dictOf L))))) (hk0 : ∀ od H1 H2 σ', Same H1 H2 → Pv od 0 σ' H1 → Pv od 0 σ' H2) (hG : ∀ od k σ' H', Pv od k σ' H' → H' d = some (.frz od (.dK (dictOf L))))
    (hs : ∀ od k e σ' H' H2 (D2 : Ends), L[k]? = some e → Pv od k σ' H' → Same H' H2 → (∀ σ3 H3, Pv od (k + 1) σ3 H3 → D2.nx σ3 H3) → ts D2 ((σ'.set a (some (.int e.1))).set b (some (.int e.2))) H2)
    (he : ∀ od σ' H', Pv od L.length σ' H' → tz D σ' (upd H' d (.dK (dictOf L)))) : tSeq (tLock (tFor (iItems td) (gTup K 2 (gCons (gName a) (gCons (gName b) gNil))) ts)) tz D σ H := by
  refine ⟨d, .dK (dictOf L), hd, trivial, fun od => ?_⟩
  refine hv _ _ (Same.refl _) _ fun v H1 e1 (pv : v = _) => ?_
  subst pv
  have p1 := hk0 od _ _ _ e1 (h0 od)
  refine ⟨d, od, dictOf L, rfl, hG _ _ _ _ p1, for_it walk_items (Pv od) p1 (fun k σ' H' _ q => hG _ _ _ _ q) (fun k y σ' H' H'' hi q yl => ?_) fun σ' H' q => ?_⟩
  · obtain ⟨T, x1, x2, rfl, hn, rfl, g1, g2⟩ := yl
    have hk' : k < L.length := by rw [dictOf_len] at hi; exact hi
    have ge : L[k]? = some L[k] := List.getElem?_eq_getElem hk'
    have gd : (dictOf L)[k]? = some (.inl L[k].1, .int L[k].2) := by unfold dictOf; rw [List.getElem?_map, ge] <;> rfl
    have g1 : (dictOf L)[k]?.map (fun kv => kV kv.1) = some x1 := g1
    have g2 : (dictOf L)[k]?.map Prod.snd = some x2 := g2
    rw [gd] at g1 g2
    have g1' : V.int L[k].1 = x1 := Option.some.inj g1
    have g2' : V.int L[k].2 = x2 := Option.some.inj g2
    subst g1' g2'
    exact ⟨T, _, rfl, SqT.of upd_same, rfl, _, _, rfl, _, _, rfl, rfl, hs od k L[k] σ' H' _ _ ge q (Same.ext (Same.refl H') hn) fun σ3 H3 p => p⟩
  · rw [dictOf_len] at q
    exact ⟨hG _ _ _ _ q, he od σ' H' q⟩
end
section
variable {P : Program} {w : World} {K : PySem.W.Frag} {mg : Str → Option Value} {base : Heap}
/-! ### ways -/
abbrev N_Lways : List Str := ["self", "found", "place", "entry", "more", "size", "many", "after"]
theorem sc_Lways : FnScope N_Lways ["self"] (defScope st_Lways) := ⟨rfl, rfl, rfl, by decide +kernel, rfl, by decide +kernel, by decide +kernel⟩
/-- the dict of ways: what it sums to -/
def WaysOf (I : Bag) (s : LS) (L : Bag) : Prop := Good 1000 L ∧ ∀ f, wsum f L = numW (psOf I 0 s) f 0
abbrev Sp_Lways (K : PySem.W.Frag) : Sp := SpG (γ := Bag × Int × LS) (fun g => [LBP K g.1 g.2.1 g.2.2]) (fun g => IsBag g.1 ∧ ∀ i, i < g.1.length → 0 ≤ g.2.2.lo i ∧ g.2.2.lo i ≤ 1000 ∧ 0 ≤ g.2.2.hi i ∧ g.2.2.hi i ≤ 1000) (fun g => ExP (WaysOf g.1 g.2.2) DctP)
theorem ok_Lways (T : Fx K mg) : GM P w K mg base 1 (He.ma K (cB K) "ways") ["self"] (Sp_Lways K) := by
  refine mkM T.f_Lways sc_Lways (fun _ => rfl) (fun _ _ _ _ _ _ us hl => match us, hl with | [_], _ => rfl) fun cdv A outer s H E hr => ?_
  have nd := sc_Lways.nd
  refine ⟨_, (pss_cons (ps_set (i := 1) nd rfl (Or.inl rfl) (pe_disp (pps_cons pe_int pe_int pps_nil) (by rfl) (by rfl) (fun z => by cases z) (by decide)))
    (pss_cons (ps_for PassesOwn.never rfl (pi_enumT (by rfl) T.n_enumerate (pa_cons (pe_fld (pv 0) rfl) pa_nil)) (pg_tup rfl (pgs_cons (pg_name (i := 2) nd rfl (Or.inl rfl)) (pgs_cons (pg_name (i := 3) nd rfl (Or.inl rfl)) pgs_nil))) (pss_cons (ps_set (i := 4) nd rfl (Or.inl rfl) pe_dnewK)
    (pss_cons (ps_lock (ps_for PassesOwn.never rfl (pi_items (pv 1)) (pg_tup rfl (pgs_cons (pg_name (i := 5) nd rfl (Or.inl rfl)) (pgs_cons (pg_name (i := 6) nd rfl (Or.inl rfl)) pgs_nil))) (pss_one (ps_for PassesOwn.never rfl (pi_range2 (by rfl) T.n_range (pa_cons (pe_callB (call_max2 rfl) (by rfl) T.n_max (by decide +kernel) (pa_cons (pv 5) (pa_cons (pe_ix ix_list (pe_fld (pv 0) rfl) (pv 2) (fun _ _ => rfl)) pa_nil))) (pa_cons (pe_op op_add (pe_callB (call_min2 rfl) (by rfl) T.n_min (by decide +kernel) (pa_cons (pe_op op_add (pv 5) (pe_ix ix_tup (pv 3) pe_int (fun _ _ => rfl))) (pa_cons (pe_ix ix_list (pe_fld (pv 0) rfl) (pv 2) (fun _ _ => rfl)) pa_nil))) pe_int) pa_nil))) (pg_name (i := 7) nd rfl (Or.inl rfl)) (pss_one (ps_dput (hu_of hr) (pv 4) (pv 7) (pe_op op_add (pe_dget2 (hu_of hr) (pv 4) (pv 7) pe_int ⟨rfl, rfl, rfl, rfl⟩) (pv 6)) rfl))))))
    (pss_one (ps_set (i := 1) nd rfl (Or.inl rfl) (pv 4))))))
    (pss_one (ps_ret (pv 1))))), ?_⟩
  rintro ⟨I, R, s⟩ vs Q ⟨hI, hb⟩ ⟨v1, _, rfl, ⟨x, dx, l1, l2, w1, rfl, h1, h2, h3, h4⟩, rfl⟩ q
  have hI : IsBag I := hI
  have hb : ∀ i, i < I.length → 0 ≤ s.lo i ∧ s.lo i ≤ 1000 ∧ 0 ≤ s.hi i ∧ s.hi i ≤ 1000 := hb
  have hI2 : ∀ j, j < I.length → I[j]? = some (I.getD j (0, 0)) := fun j hj => by rw [List.getD_eq_getElem?_getD, List.getElem?_eq_getElem hj] <;> rfl
  refine q_asg ev_disp1 fun vd H1 e1 pd => ?_
  obtain ⟨d, rfl, nd0, hd⟩ := pd
  refine q_forE (H0 := H) (Ps := I.map entP) (ev_fldV T.cls_L T.na_own_inserted (ev_v rfl) (e1 _ _ h1) lb_ins) (BagP.tup h4)
    (fun i σ' H' => ∃ (d : Addr) (L : Bag) (a2 a3 a4 a5 a6 a7 : Option V), σ' = [some (.ref x), some (.ref d), a2, a3, a4, a5, a6, a7] ∧ Same H H' ∧ H d = none ∧ H' d = some (.dK (dictOf L)) ∧ Good 1000 L ∧ ∀ f, wsum f L = numW ((psOf I 0 s).take i) f 0)
    (fun H2 e2 => ⟨d, [(0, 1)], none, none, none, none, none, none, rfl, e1.trans e2, nd0, e2 _ _ hd, ⟨by simp [Dist], fun q hq => by rw [List.mem_singleton.mp hq]; decide⟩, fun f => by simp [wsum, numW]⟩) (fun i σ' H' ⟨_, _, _, _, _, _, _, _, _, e, _⟩ => e) ?_ ?_
  · rintro i P' y σ' H' H2 hi hy ⟨d, L, a2, a3, a4, a5, a6, a7, rfl, eH, nd0, hL, gL, wL⟩ e2
    rw [List.getElem?_map] at hi
    obtain ⟨e, he, rfl⟩ := Option.map_eq_some_iff.mp hi
    have hlt : i < I.length := (List.getElem?_eq_some_iff.mp he).1
    have hem := List.mem_of_getElem? he
    have hc : 1 ≤ e.2 := hI.2 e hem
    have ee : I.getD i (0, 0) = e := by rw [List.getD_eq_getElem?_getD, he] <;> rfl
    have hps : (psOf I 0 s)[i]? = some (e.2, fun u => decide (s.lo i ≤ u ∧ u ≤ s.hi i)) := by rw [psOf_at hlt, ee, Nat.zero_add]
    obtain ⟨b1, b2, b3, b4⟩ := hb i hlt
    have s2 := eH.trans e2
    show tSeq _ _ _ [some (.ref x), some (.ref d), some (.int (i : Nat)), some y, a4, a5, a6, a7] H2
    refine q_asg ev_dnew fun vm H3 e3 pm => ?_
    obtain ⟨m, rfl, nm, hm⟩ := pm
    have s3 := s2.trans e3
    have hL3 : H3 d = some (.dK (dictOf L)) := e3 _ _ (e2 _ _ hL)
    have nm0 : H m = none := free_back s2 nm
    have dm : d ≠ m := fun z => by rw [z] at hL; rw [e2 _ _ hL] at nm; cases nm
    refine q_forI (L := L) hL3 (fun H4 => ev_v rfl)
      (fun od k σ' H' => ∃ (M : Bag) (a5 a6 a7 : Option V), σ' = [some (.ref x), some (.ref d), some (.int (i : Nat)), some y, some (.ref m), a5, a6, a7] ∧ Same H H' ∧ H' d = some (.frz od (.dK (dictOf L))) ∧ (entP e).h y H' ∧ H' m = some (.dK (dictOf M)) ∧ Good 1000 M ∧ ∀ f, wsum f M = wsum (stepF (fun u => decide (s.lo i ≤ u ∧ u ≤ s.hi i)) e.2 f) (L.take k))
      (fun od => ⟨[], a5, a6, a7, rfl, Same.chg s3 nd0, upd_same, ?_, by rw [upd_ne (Ne.symm dm)]; exact hm, Good.nil _, fun f => by simp [wsum]⟩) (fun od H4 H5 σ' e45 ⟨M, a5, a6, a7, es, c1, c2, c3, c4, c5⟩ => ⟨M, a5, a6, a7, es, c1.trans e45, e45 _ _ c2, (entP e).kp e45 c3, e45 _ _ c4, c5⟩) (fun od k σ' H' ⟨_, _, _, _, _, _, c2, _⟩ => c2) ?_ ?_
    · have sm : Sim H3 (upd H3 d (.frz od (.dK (dictOf L)))) := Sim.at hL3 rfl
      exact (inferInstance : Fixd (entP e)).fx sm ((entP e).kp e3 hy)
    · rintro od k en σ' H4 H5 D2 hk ⟨M, a5, a6, a7, rfl, c1, c2, c3, c4, c5, c6⟩ e5 hnx
      have hen := List.mem_of_getElem? hk
      obtain ⟨g1, g2, g3⟩ := gL.g en hen
      show tFor _ _ _ D2 [some (.ref x), some (.ref d), some (.int (i : Nat)), some y, some (.ref m), some (.int en.1), some (.int en.2), a7] H5
      have r1 : ∀ {σ : St} {H6 : Hp}, Same H H6 → σ[0]? = some (some (.ref x)) → σ[2]? = some (some (.int (i : Nat))) → EvP (tOp (rIxL K) (tFld K (tVar 0) "least") (tVar 2)) σ H6 (IsI (s.lo i)) := fun {σ H6} e6 k0 k2 => ev_ixI (j := i) (ev_fldV T.cls_L T.na_least (ev_v k0) (e6 _ _ h1) lb_least) (ev_v k2) (e6 _ _ h2) (by omega) (by rw [Int.toNat_natCast]; exact tab_at hlt)
      have r2 : ∀ {σ : St} {H6 : Hp}, Same H H6 → σ[0]? = some (some (.ref x)) → σ[2]? = some (some (.int (i : Nat))) → EvP (tOp (rIxL K) (tFld K (tVar 0) "most") (tVar 2)) σ H6 (IsI (s.hi i)) := fun {σ H6} e6 k0 k2 => ev_ixI (j := i) (ev_fldV T.cls_L T.na_most (ev_v k0) (e6 _ _ h1) lb_most) (ev_v k2) (e6 _ _ h3) (by omega) (by rw [Int.toNat_natCast]; exact tab_at hlt)
      have s5 := c1.trans e5
      refine s_forR (lo := max en.1 (s.lo i)) (hi := min (en.1 + e.2) (s.hi i) + 1) (ea2 (ev_max2 (ev_v rfl) (r1 s5 rfl rfl) rfl) (ev_i (i := min (en.1 + e.2) (s.hi i)) (j := 1) (ev_min2 (ev_i (i := en.1) (j := e.2) (ev_v rfl) (ev_ixT (Ps := [IsI e.1, IsI e.2]) (i := 1) (ev_var rfl ((entP e).kp e5 c3)) ev_c rfl) rfl) (r2 s5 rfl rfl) rfl) ev_c rfl)) (by omega)
        (fun j σ' H' => ∃ (N : Bag) (a7 : Option V), σ' = [some (.ref x), some (.ref d), some (.int (i : Nat)), some y, some (.ref m), some (.int en.1), some (.int en.2), a7] ∧ Same H H' ∧ H' d = some (.frz od (.dK (dictOf L))) ∧ (entP e).h y H' ∧ H' m = some (.dK (dictOf N)) ∧ Good 1000 N ∧ ∀ f, wsum f N = wsum f M + isum f (max en.1 (s.lo i)) j * en.2)
        (fun H6 e6 => ⟨M, a7, rfl, s5.trans e6, e6 _ _ (e5 _ _ c2), (entP e).kp (e5.trans e6) c3, e6 _ _ (e5 _ _ c4), c5, fun f => by simp [isum]⟩) ?_ ?_
      · rintro j σ' H6 hj ⟨N, a7, rfl, t1, t2, t3, t4, t5, t6⟩
        show sDPut _ _ _ _ [some (.ref x), some (.ref d), some (.int (i : Nat)), some y, some (.ref m), some (.int en.1), some (.int en.2), some (.int (max en.1 (s.lo i) + j))] H6
        have nl := t5.len (B := 1000)
        refine s_put (L := N) (n := max en.1 (s.lo i) + j) (x := (getL N (max en.1 (s.lo i) + j)).getD 0 + en.2) t4 t5.d (by omega) (ev_i (ev_get t4 (ev_v rfl) (ev_v rfl) ev_c) (ev_v rfl) rfl) (ev_v rfl) (ev_v rfl) fun H7 e7 => ?_
        have md : d ≠ m := dm
        have sm : Sim H7 (upd H7 m (.dK (dictOf (putL N (max en.1 (s.lo i) + j) ((getL N (max en.1 (s.lo i) + j)).getD 0 + en.2))))) := Sim.at (e7 _ _ t4) rfl
        refine ⟨_, _, rfl, Same.chg (t1.trans e7) nm0, by rw [upd_ne md]; exact e7 _ _ t2, (inferInstance : Fixd (entP e)).fx sm ((entP e).kp e7 t3), upd_same, t5.put (by omega) (by omega) g1, fun f => ?_⟩
        rw [wsum_put t5.d, t6]
        show _ = _ + (isum f (max en.1 (s.lo i)) j + f (max en.1 (s.lo i) + j)) * en.2
        rw [Int.add_mul]
        omega
      · rintro σ' H6 ⟨N, a7, rfl, t1, t2, t3, t4, t5, t6⟩
        refine hnx _ _ ⟨N, _, _, _, rfl, t1, t2, t3, t4, t5, fun f => ?_⟩
        rw [t6, c6, wsum_take hk, stepF_range (by omega)]
    · rintro od σ' H4 ⟨M, a5, a6, a7, rfl, c1, c2, c3, c4, c5, c6⟩
      rw [List.take_of_length_le (Nat.le_refl _)] at c6
      have s4 : Same H (upd H4 d (.dK (dictOf L))) := Same.chg c1 nd0
      refine s_asg (P := IsV (.ref m)) (ev_v rfl) fun v H5 e5 (pv : v = _) => ?_
      subst pv
      refine ⟨m, M, _, _, _, _, _, _, rfl, s4.trans e5, nm0, e5 _ _ (by rw [upd_ne (Ne.symm dm)]; exact c4), c5, fun f => ?_⟩
      rw [c6, wL, numW_next hps]
  · rintro σ' H' ⟨d, L, a2, a3, a4, a5, a6, a7, rfl, eH, nd0, hL, gL, wL⟩
    rw [List.length_map, List.take_of_length_le (by rw [psOf_len]; exact Nat.le_refl _)] at wL
    exact s_ret (P := DctP L) (ev_var rfl ⟨d, rfl, hL⟩) fun v H1 e p => q v H1 (eH.trans e) ⟨L, ⟨gL, wL⟩, p⟩
end
end K79
end
section
set_option Elab.async false
set_option linter.all false
set_option maxRecDepth 100000
set_option maxHeartbeats 4000000
namespace K79
open PySem PySem.Spec L2
abbrev obP (o : Bag × Bag) : Pr := TupP [BagP o.1, BagP o.2]
def ObsP (obs : List (Bag × Bag)) : Pr := LstP (obs.map obP)
section
variable {K : PySem.W.Frag} {σ : St} {H : Hp} {te ta tb tk tv td tl : TE} {tr : TA} {tg : TG} {ts tz : TS} {D : Ends}
/-- for i, y in enumerate(a list) -/
theorem s_forEL {x : V} {Ps : List Pr} {H0 : Hp} {a b : Nat} (h : EvP ta σ H (IsV x)) (hT : (LstP Ps).h x H0) (Pv : Nat → St → Hp → Prop) (h0 : ∀ H1, Same H H1 → Pv 0 σ H1) (hk : ∀ i σ' H', Pv i σ' H' → Same H0 H')
    (hs : ∀ i P y σ' H' H2, Ps[i]? = some P → P.h y H2 → Pv i σ' H' → Same H' H2 → ts { D with nx := Pv (i + 1), ct := Pv (i + 1), bk := D.nx } ((σ'.set a (some (.int (i : Nat)))).set b (some y)) H2) (hd : ∀ σ' H', Pv Ps.length σ' H' → D.nx σ' H') :
    tFor (iEnum K (tCons ta tNil)) (gTup K 2 (gCons (gName a) (gCons (gName b) gNil))) ts D σ H := by
  unfold tFor iEnum
  refine ea1 h H (Same.refl H) _ fun us H1 e1 hv => ?_
  obtain ⟨v1, _, rfl, (p1 : v1 = _), rfl⟩ := hv
  subst p1
  obtain ⟨p, ys, rfl, hp, hy⟩ := hT
  have e0 := hk _ _ _ (h0 H1 e1)
  refine ⟨p, ys, rfl, SqL.of (e0 _ _ hp), for_it walk_enum Pv (h0 H1 e1) (fun i σ' H' _ q => SqL.of (hk _ _ _ q _ _ hp)) (fun i y σ' H' H'' hi q yl => ?_) (by rw [hy.len]; exact hd)⟩
  obtain ⟨T, x1, x2, rfl, hn, rfl, g1, g2⟩ := yl
  have g1 : some (V.int (i : Nat)) = some x1 := g1
  have g2 : ys[i]? = some x2 := g2
  cases g1
  obtain ⟨P, hP, hh⟩ := hy.get g2
  have sT : Same H' (upd H' T (.tup [.int (i : Nat), x2])) := Same.ext (Same.refl H') hn
  exact ⟨T, _, rfl, SqT.of upd_same, rfl, _, _, rfl, _, _, rfl, rfl, hs i P x2 σ' H' _ hP (P.kp ((hk _ _ _ q).trans sT) hh) q sT⟩
/-- for over a new list of ints that is told by φ -/
theorem s_forX {φ : List Int → Prop} (h : EvP tl σ H (ExP φ fun zs => NewL H (zs.map IsI)))
    (k : ∀ ns p H1, φ ns → Same H H1 → H p = none → H1 p = some (.lst (ns.map V.int)) → ∃ Pv : Nat → St → Hp → Prop, Pv 0 σ H1 ∧ (∀ i σ' H', Pv i σ' H' → H' p = some (.lst (ns.map V.int))) ∧
      (∀ i n σ' H', ns[i]? = some n → Pv i σ' H' → tg (.int n) σ' H' fun σ2 H2 => ts { D with nx := Pv (i + 1), ct := Pv (i + 1), bk := D.nx } σ2 H2) ∧ ∀ σ' H', Pv ns.length σ' H' → D.nx σ' H') : tFor (iList K tl) tg ts D σ H :=
  h H (Same.refl H) _ fun v H1 e1 hv => by
    obtain ⟨ns, hφ, p, ys, rfl, hn, hp, hy⟩ := hv
    have ey : ys = ns.map V.int := AllP.is (f := V.int) hy
    subst ey
    obtain ⟨Pv, p0, pk, ps, pd⟩ := k ns p H1 hφ e1 hn hp
    refine ⟨p, rfl, ⟨_, SqL.of hp⟩, for_list (xs := ns.map V.int) Pv p0 (fun i σ' H' _ q => SqL.of (pk _ _ _ q)) (fun i y σ' H' hi q => ?_) ?_⟩
    · rw [List.getElem?_map] at hi
      obtain ⟨n, e, rfl⟩ := Option.map_eq_some_iff.mp hi
      exact ps i n σ' H' e q
    · rw [List.length_map]
      exact pd
/-- the turns of a walk, whatever a turn is -/
theorem turns_of {J : It} {n : Nat} {G : Hp → Prop} {Y : Nat → Hp → V → Hp → Prop} (wk : Walk J n G Y) {F : V → Hp → (Hp → Prop) → Prop} {Qd : Hp → Prop} {Hs : Hp} (Pv : Nat → Hp → Prop) (h0 : Pv 0 Hs) (hG : ∀ i H, i ≤ n → Pv i H → G H)
    (hs : ∀ i x H H', i < n → Pv i H → Y i H x H' → F x H' (Pv (i + 1))) (hd : ∀ H, Pv n H → Qd H) :
    ∃ W : Nat → Nat → Hp → Prop, (∃ m, W 0 m Hs) ∧ ∀ i m H, W i m H → (J.stop i H ∧ Qd H) ∨ (J.go i H ∧ ∃ Nx : Hp → Prop, (∀ H', Nx H' → ∃ m', m' < m ∧ W (i + 1) m' H') ∧ ∀ x H', J.yld i H x H' → F x H' Nx) := by
  refine ⟨fun i m H => m = n - i ∧ i ≤ n ∧ Pv i H, ⟨n, rfl, Nat.zero_le _, h0⟩, ?_⟩
  rintro i m H ⟨rfl, hi, p⟩
  have q := hG i H hi p
  rcases Nat.lt_or_ge i n with hlt | hge
  · exact .inr ⟨wk.goes i H hlt q, Pv (i + 1), fun H' p' => ⟨n - (i + 1), by omega, rfl, hlt, p'⟩, fun x H' y => hs i x H H' hlt p (wk.yields i H x H' hlt q y)⟩
  · obtain rfl : i = n := by omega
    exact .inl ⟨wk.stops H q, hd H p⟩
def sumLen (bs : List Bag) : Nat := (bs.map (·.length)).sum
theorem sumLen_take {bs : List Bag} {i : Nat} {b : Bag} (h : bs[i]? = some b) : sumLen (bs.take (i + 1)) = sumLen (bs.take i) + b.length := by
  unfold sumLen
  rw [List.take_succ, h]
  simp
def inBags (bs : List Bag) (k : Int) : Prop := ∃ b ∈ bs, ∃ q ∈ b, q.1 = k
def ptsOk (bs : List Bag) (zs : List Int) : Prop := zs.Pairwise (· < ·) ∧ ∀ k, k ∈ zs ↔ inBags bs k
theorem sumLen_le : ∀ (l : List Bag) (k : Nat), sumLen (l.take k) ≤ sumLen l
  | [], k => by simp
  | a :: l, 0 => by simp [sumLen]
  | a :: l, k + 1 => by
    have := sumLen_le l k
    simp only [sumLen, List.take_succ_cons, List.map_cons, List.sum_cons] at *
    omega
/-- sorted({number for bag in (..) for number, count in bag}) -/
theorem ev_pts {w : World} {bs : List Bag} (h : EvA tr σ H (bs.map BagP)) (hz : sumLen bs < 64) (hn : bs.length ≤ 100)
    (hw1 : ∀ x, wipe ((wipe σ [9, 5, 6]).set 9 (some x)) [9, 5, 6] = wipe σ [9, 5, 6]) (hv1 : ∀ x, ((wipe σ [9, 5, 6]).set 9 (some x))[9]? = some (some x))
    (hw2 : ∀ x y z, wipe (((wipe ((wipe σ [9, 5, 6]).set 9 (some x)) [5, 6]).set 5 (some y)).set 6 (some z)) [5, 6] = wipe ((wipe σ [9, 5, 6]).set 9 (some x)) [5, 6]) (hv2 : ∀ x y z, (((wipe ((wipe σ [9, 5, 6]).set 9 (some x)) [5, 6]).set 5 (some y)).set 6 (some z))[5]? = some (some y)) :
    EvP (tCB (rSortedSet w) (tCons (tSc2 w (iTup K (tTup tr)) (gName 9) (iTup K (tVar 9)) (gTup K 2 (gCons (gName 5) (gCons (gName 6) gNil))) (tVar 5) [9, 5, 6] [5, 6]) tNil)) σ H (ExP (ptsOk bs) fun zs => NewL H (zs.map IsI)) := fun H0 e0 Q q => by
  unfold tCB tCons tSc2 iTup
  refine ev_tup (Ps := bs.map BagP) h (by rw [List.length_map]; omega) H0 e0 _ fun v H1 e1 hv => ?_
  obtain ⟨t, ys, rfl, ht, hy⟩ := hv
  refine ⟨t, rfl, ⟨ys, .inl ht⟩, fun Ds hD => ?_⟩
  have hyl : ys.length = bs.length := by rw [hy.len, List.length_map]
  refine turns_of walk_tup (fun i H' => Same H1 H' ∧ ∃ S n, H' Ds = some (SetO w Ds S n) ∧ (∀ k, S k = true ↔ inBags (bs.take i) k) ∧ n ≤ sumLen (bs.take i)) ⟨Same.ext (Same.refl H1) hD, fun _ => false, 0, upd_same, fun k => Iff.intro (fun z => by cases z) (fun ⟨b, hb, _⟩ => by cases hb), Nat.zero_le _⟩ (fun i H' _ c => .inl (Same.rd c.1 ht)) (fun i y H' H'' hi c yl => ?_) fun H' c => ?_
  · obtain ⟨rfl, hyi⟩ := yl
    obtain ⟨s1, S, n, hS, mS, nS⟩ := c
    obtain ⟨P, hP, hh⟩ := hy.get hyi
    rw [List.getElem?_map] at hP
    obtain ⟨b, hb, rfl⟩ := Option.map_eq_some_iff.mp hP
    obtain ⟨p, zs, rfl, hp, hz2⟩ := BagP.tup hh
    have hzl : zs.length = b.length := by rw [hz2.len, List.length_map]
    have hlen := sumLen_take hb
    have hle := sumLen_le bs (i + 1)
    refine ⟨hw1 _, _, hv1 _, p, rfl, ⟨zs, .inl (Same.rd s1 hp)⟩, turns_of walk_tup (fun j H5 => Same H1 H5 ∧ ∃ S n, H5 Ds = some (SetO w Ds S n) ∧ (∀ k, S k = true ↔ (inBags (bs.take i) k ∨ ∃ q ∈ b.take j, q.1 = k)) ∧ n ≤ sumLen (bs.take i) + j)
      ⟨s1, S, n, hS, fun k => (mS k).trans ⟨.inl, fun z => z.elim id fun ⟨_, z, _⟩ => by cases z⟩, by omega⟩ (fun j H5 _ c => .inl (Same.rd c.1 hp)) (fun j y1 H5 H6 hj c yl => ?_) fun H5 c => ?_⟩
    · obtain ⟨rfl, hyj⟩ := yl
      obtain ⟨s5, S, n, hS, mS, nS⟩ := c
      obtain ⟨P, hP, hh2⟩ := hz2.get hyj
      rw [List.getElem?_map] at hP
      obtain ⟨e, he, rfl⟩ := Option.map_eq_some_iff.mp hP
      have hj' : j < b.length := (List.getElem?_eq_some_iff.mp he).1
      refine g_pair ((entP e).kp s5 hh2) fun v1 v2 (k1 : v1 = _) (k2 : v2 = _) => ⟨hw2 _ _ _, _, hv2 _ _ _, e.1, S, n, k1, hS, Nat.lt_of_le_of_lt (m := 100) (by omega) (by decide), Same.chg s5 hD, _, _, upd_same, fun k => ?_, by split <;> omega⟩
      rw [Bool.or_eq_true, decide_eq_true_eq, mS, List.take_succ, he]
      constructor
      · rintro ((z | ⟨q, hq, z⟩) | z)
        · exact .inl z
        · exact .inr ⟨q, List.mem_append_left _ hq, z⟩
        · exact .inr ⟨e, by simp, z.symm⟩
      · rintro (z | ⟨q, hq, z⟩)
        · exact .inl (.inl z)
        · rcases List.mem_append.mp hq with hq | hq
          · exact .inl (.inr ⟨q, hq, z⟩)
          · have hq : q = e := by simpa using hq
            exact .inr (by rw [← z, hq])
    · obtain ⟨s5, S, n, hS, mS, nS⟩ := c
      rw [hzl] at mS nS
      rw [List.take_of_length_le (Nat.le_refl _)] at mS
      refine ⟨s5, S, n, hS, fun k => (mS k).trans ?_, by omega⟩
      unfold inBags
      rw [List.take_succ, hb]
      constructor
      · rintro (⟨b2, h2, z⟩ | z)
        · exact ⟨b2, List.mem_append_left _ h2, z⟩
        · exact ⟨b, by simp, z⟩
      · rintro ⟨b2, h2, z⟩
        rcases List.mem_append.mp h2 with h2 | h2
        · exact .inl ⟨b2, h2, z⟩
        · have h2 : b2 = b := by simpa using h2
          exact .inr (by rw [← h2]; exact z)
  · obtain ⟨s1, S, n, hS, mS, nS⟩ := c
    rw [hyl, List.take_of_length_le (Nat.le_refl _)] at mS nS
    exact ⟨Ds, S, n, rfl, hS, by omega, fun ns p hs hm hl hp => q _ _ ((e1.trans s1).trans (Same.ext (Same.refl H') hp)) ⟨ns, ⟨hs, fun k => (hm k).trans (mS k)⟩, p, ns.map V.int, rfl, free_back ((e0.trans e1).trans s1) hp, upd_same, AllP.of_is⟩⟩
end
end K79
end
section
set_option Elab.async false
set_option linter.all false
set_option maxRecDepth 100000
set_option maxHeartbeats 4000000
namespace K79
open PySem PySem.Spec L2
section
variable {P : Program} {w : World} {K : PySem.W.Frag} {mg : Str → Option Value} {base : Heap}
/-! ### observations -/
abbrev N_is_observation : List Str := ["value"]
theorem sc_is_observation : FnScope N_is_observation ["value"] (defScope st_is_observation) := ⟨rfl, rfl, rfl, by decide +kernel, rfl, by decide +kernel, by decide +kernel⟩
abbrev Sp_is_observation : Sp := SpG (γ := Bag × Bag) (fun o => [obP o]) (fun o => IsBag o.1 ∧ IsBag o.2) (fun _ => IsB true)
theorem ok_is_observation (T : Fx K mg) : Glob P w K mg base 3 "is_observation" (He.ga K "is_observation") ["value"] Sp_is_observation := by
  have G_is_bag := ok_is_bag (P := P) (w := w) (base := base) T
  refine mkG T.f_is_observation T.g_is_observation sc_is_observation (fun _ => rfl) (fun _ _ _ _ _ _ us hl => match us, hl with | [_], _ => rfl) fun cdv A outer s H E hr => ?_
  have nd := sc_is_observation.nd
  refine ⟨_, (pss_one (ps_ret (pe_and (pe_callB call_isi (by rfl) T.n_isinstance (by decide +kernel) (pa_cons (pv 0) (pa_cons (pe_bltn (v := .ty "tuple") (by rfl) T.n_tuple (by decide +kernel) rfl) pa_nil))) (pe_and (pe_cmpR op_eq (pe_callB call_len_seq (by rfl) T.n_len (by decide +kernel) (pa_cons (pv 0) pa_nil)) pe_int (nomark _)) (pe_and (pe_callG G_is_bag (hr.mono (by decide)) (pa_cons (pe_ix ix_tup (pv 0) pe_int (fun _ _ => rfl)) pa_nil)) (pe_one (pe_callG G_is_bag (hr.mono (by decide)) (pa_cons (pe_ix ix_tup (pv 0) pe_int (fun _ _ => rfl)) pa_nil)))))))), ?_⟩
  rintro o vs Q ⟨h1, h2⟩ ⟨v, _, rfl, hv, rfl⟩ q
  refine s_ret (P := IsB true) (ev_and (a := true) (b := true) (ev_isi (ev_var rfl hv) tyTup (.ty "tuple") (kit_ty (by decide +kernel))) fun _ => ev_and (a := true) (b := true) (EvP.is (ev_eq (ev_lenT (ev_var rfl hv) rfl) ev_c rfl) (by rfl)) fun _ => ev_and (a := true) (b := true) (ev_call o.1 h1 (ea1 (ev_ixT (i := 0) (ev_var rfl hv) ev_c rfl))) fun _ => ev_call o.2 h2 (ea1 (ev_ixT (i := 1) (ev_var rfl hv) ev_c rfl))) fun v H1 e p => q v H1 e p
abbrev N_check_observations : List Str := ["observations", "index", "value"]
theorem sc_check_observations : FnScope N_check_observations ["observations"] (defScope st_check_observations) := ⟨rfl, rfl, rfl, by decide +kernel, rfl, by decide +kernel, by decide +kernel⟩
abbrev Sp_check_observations : Sp := SpG (γ := List (Bag × Bag)) (fun obs => [ObsP obs]) (fun obs => obs.length ≤ 20 ∧ ∀ o ∈ obs, IsBag o.1 ∧ IsBag o.2) (fun _ => IsV .non)
theorem ok_check_observations (T : Fx K mg) : Glob P w K mg base 4 "check_observations" (He.ga K "check_observations") ["observations"] Sp_check_observations := by
  have G_is_observation := ok_is_observation (P := P) (w := w) (base := base) T
  refine mkG T.f_check_observations T.g_check_observations sc_check_observations (fun _ => rfl) (fun _ _ _ _ _ _ us hl => match us, hl with | [_], _ => rfl) fun cdv A outer s H E hr => ?_
  have nd := sc_check_observations.nd
  refine ⟨_, (pss_cons (ps_if (PW.pt (pw_or (pt_not (pt_val (pe_callB call_isi (by rfl) T.n_isinstance (by decide +kernel) (pa_cons (pv 0) (pa_cons (pe_bltn (v := .ty "list") (by rfl) T.n_list (by decide +kernel) rfl) pa_nil))))) (pw_or1 (pt_cmpR op_gt (pe_callB call_len_seq (by rfl) T.n_len (by decide +kernel) (pa_cons (pv 0) pa_nil)) (C8.pe_gc (v := .int 20) rfl (T.i_MAX_OBSERVATIONS.elim fun t h => ⟨.int 20 t, h, t, rfl⟩)) (nomark _))))) pss_never pss_nil)
    (pss_one (ps_for PassesOwn.never rfl (pi_enum (by rfl) T.n_enumerate (pa_cons (pv 0) pa_nil)) (pg_tup rfl (pgs_cons (pg_name (i := 1) nd rfl (Or.inl rfl)) (pgs_cons (pg_name (i := 2) nd rfl (Or.inl rfl)) pgs_nil))) (pss_one (ps_if (pt_not (pt_val (pe_callG G_is_observation (hr.mono (by decide)) (pa_cons (pv 2) pa_nil)))) pss_never pss_nil))))), ?_⟩
  rintro obs vs Q ⟨hl, ho⟩ ⟨v, _, rfl, hv, rfl⟩ q
  have hv : (LstP (obs.map obP)).h v H := hv
  refine q_no (et_or (a := false) (b := false) (et_not (a := true) (et_B (ev_isi (ev_var rfl hv) tyLst (.ty "list") (kit_ty (by decide +kernel))))) fun _ => et_test (ev_i (i := (obs.map obP).length) (j := 20) (ev_lenL (ev_var rfl hv) rfl) ev_c (by rw [List.length_map, decide_eq_false (by omega)]))) fun H1 e1 => ?_
  refine s_forEL (H0 := H) (Ps := obs.map obP) (ev_v rfl) hv (fun i σ' H' => ∃ a b, σ' = [some v, a, b] ∧ Same H H') (fun H2 e2 => ⟨none, none, rfl, e1.trans e2⟩) (fun i σ' H' ⟨_, _, _, e⟩ => e) ?_ ?_
  · rintro i P' y σ' H' H2 hi hy ⟨a, b, rfl, eH⟩ e2
    rw [List.getElem?_map] at hi
    obtain ⟨o, he, rfl⟩ := Option.map_eq_some_iff.mp hi
    have hom := List.mem_of_getElem? he
    exact s_no (et_not (a := true) (et_B (ev_call o (ho o hom) (ea1 (ev_var rfl hy))))) fun H3 e3 => ⟨_, _, rfl, (eH.trans e2).trans e3⟩
  · rintro σ' H' ⟨a, b, rfl, eH⟩
    exact q _ _ eH rfl
/-! ### effects that agree -/
abbrev N_check_effects : List Str := ["values", "value"]
theorem sc_check_effects : FnScope N_check_effects ["values"] (defScope st_check_effects) := ⟨rfl, rfl, rfl, by decide +kernel, rfl, by decide +kernel, by decide +kernel⟩
abbrev Sp_check_effects (K : PySem.W.Frag) : Sp := SpG (γ := Eff) (fun e => [LstP [EffP K e]]) (fun _ => True) (fun _ => IsV .non)
theorem ok_check_effects (T : Fx K mg) : Glob P w K mg base 1 "check_effects" (He.ga K "check_effects") ["values"] (Sp_check_effects K) := by
  refine mkG T.f_check_effects T.g_check_effects sc_check_effects (fun _ => rfl) (fun _ _ _ _ _ _ us hl => match us, hl with | [_], _ => rfl) fun cdv A outer s H E hr => ?_
  have nd := sc_check_effects.nd
  refine ⟨_, (pss_one (ps_for PassesOwn.never rfl (pi_list (pv 0)) (pg_name (i := 1) nd rfl (Or.inl rfl)) (pss_one (ps_if (pt_not (pt_val (pe_callB call_isi (by rfl) T.n_isinstance (by decide +kernel) (pa_cons (pv 1) (pa_cons (pe_glob (v := .ref (cE K)) rfl T.g_Effect rfl) pa_nil))))) pss_never pss_nil)))), ?_⟩
  rintro e vs Q - ⟨v, _, rfl, hv, rfl⟩ q
  refine s_forL (H0 := H) (Ps := [EffP K e]) (ev_v rfl) hv (fun i σ' H' => ∃ a, σ' = [some v, a] ∧ Same H H') (fun H2 e2 => ⟨none, rfl, e2⟩) (fun i σ' H' ⟨_, _, e⟩ => e) ?_ ?_
  · rintro i P' y σ' H' hi hy ⟨a, rfl, eH⟩
    have hP : P' = EffP K e := by
      cases i with
      | zero => exact (Option.some.inj hi).symm
      | succ i => simp at hi
    subst hP
    refine s_no (et_not (a := true) (et_B ?_)) fun H3 e3 => ⟨_, rfl, eH.trans e3⟩
    exact ev_isi (ev_var rfl hy) (fun v H1 ⟨a, dx, t, e1, e2, _⟩ => by subst e1; exact .base (.ins e2 T.ins.cl T.ins.ha T.ins.hn T.ins.htk T.ins.hm)) (.own (cE K)) T.ins.me
  · rintro σ' H' ⟨a, rfl, eH⟩
    exact q _ _ eH rfl
end
end K79
end
section
set_option Elab.async false
set_option linter.all false
set_option maxRecDepth 100000
set_option maxHeartbeats 4000000
namespace K79
open PySem PySem.Spec L2
/-! ### the base without the bounds' own objects -/
def er (H : Hp) (x l1 l2 : Addr) : Hp := fun a => if a = x ∨ a = l1 ∨ a = l2 then none else H a
theorem er_out {H : Hp} {x l1 l2 a : Addr} (h : ¬ (a = x ∨ a = l1 ∨ a = l2)) : er H x l1 l2 a = H a := if_neg h
theorem LBat.er {K : PySem.W.Frag} {H0 H : Hp} {x dx l1 l2 : Addr} {v1 : V} {R : Int} {m : Nat} {s : LS} (L : LBat K H0 H x v1 R m dx l1 l2 s) : LBat K (er H x l1 l2) H x v1 R m dx l1 l2 s :=
  ⟨L.ob, L.lo, L.hi, L.ne, if_pos (.inl rfl), if_pos (.inr (.inl rfl)), if_pos (.inr (.inr rfl)), fun a o h => by
    unfold K79.er at h
    split at h
    · cases h
    · exact h⟩
theorem LBat.toer {K : PySem.W.Frag} {H0 H : Hp} {x dx l1 l2 : Addr} {v1 : V} {R : Int} {m : Nat} {s : LS} (L : LBat K H0 H x v1 R m dx l1 l2 s) : Same H0 (K79.er H x l1 l2) := fun a o h => by
  rw [er_out (fun z => by rcases z with z | z | z <;> (rw [z] at h); · rw [L.n0] at h; cases h
                          · rw [L.n1] at h; cases h
                          · rw [L.n2] at h; cases h)]
  exact L.sm a o h
theorem LBat.back {K : PySem.W.Frag} {H0 H H' : Hp} {x dx l1 l2 : Addr} {v1 : V} {R : Int} {m : Nat} {s s' : LS} (L : LBat K H0 H x v1 R m dx l1 l2 s) (L' : LBat K (K79.er H x l1 l2) H' x v1 R m dx l1 l2 s') : LBat K H0 H' x v1 R m dx l1 l2 s' :=
  ⟨L'.ob, L'.lo, L'.hi, L'.ne, L.n0, L.n1, L.n2, L.toer.trans L'.sm⟩
theorem LBat.other {K : PySem.W.Frag} {H H' : Hp} {x dx l1 l2 a : Addr} {v1 : V} {R : Int} {m : Nat} {s' : LS} {o : HO} (L' : LBat K (K79.er H x l1 l2) H' x v1 R m dx l1 l2 s') (h : H a = some o) (n : ¬ (a = x ∨ a = l1 ∨ a = l2)) : H' a = some o := L'.sm a o (by rw [er_out n]; exact h)
section
variable {v1 : V} {R : Int} {l1 l2 : Addr} {p : Bool}
theorem pf1 {v : V} : putF "own_inserted" v [] = ([("own_inserted", v)] : List (Str × V)) := rfl
theorem pf2 {v : V} : putF "own_removals" v [("own_inserted", v1)] = ([("own_inserted", v1), ("own_removals", v)] : List (Str × V)) := by
  simp only [putF, if_neg (show ("own_inserted" : Str) ≠ "own_removals" by decide +kernel)]
theorem pf3 {v w : V} : putF "least" v [("own_inserted", v1), ("own_removals", w)] = ([("own_inserted", v1), ("own_removals", w), ("least", v)] : List (Str × V)) := by
  simp only [putF, if_neg (show ("own_inserted" : Str) ≠ "least" by decide +kernel), if_neg (show ("own_removals" : Str) ≠ "least" by decide +kernel)]
theorem pf4 {v w u : V} : putF "most" v [("own_inserted", v1), ("own_removals", w), ("least", u)] = ([("own_inserted", v1), ("own_removals", w), ("least", u), ("most", v)] : List (Str × V)) := by
  simp only [putF, if_neg (show ("own_inserted" : Str) ≠ "most" by decide +kernel), if_neg (show ("own_removals" : Str) ≠ "most" by decide +kernel), if_neg (show ("least" : Str) ≠ "most" by decide +kernel)]
theorem pf5 {v w u t : V} : putF "possible" v [("own_inserted", v1), ("own_removals", w), ("least", u), ("most", t)] = ([("own_inserted", v1), ("own_removals", w), ("least", u), ("most", t), ("possible", v)] : List (Str × V)) := by
  simp only [putF, if_neg (show ("own_inserted" : Str) ≠ "possible" by decide +kernel), if_neg (show ("own_removals" : Str) ≠ "possible" by decide +kernel), if_neg (show ("least" : Str) ≠ "possible" by decide +kernel), if_neg (show ("most" : Str) ≠ "possible" by decide +kernel)]
end
theorem zeros_tab (I : Bag) : (I.map fun _ => V.int 0) = tab I.length fun _ => 0 := by
  refine List.ext_getElem? fun j => ?_
  rcases Nat.lt_or_ge j I.length with h | h
  · rw [tab_at h, List.getElem?_map, List.getElem?_eq_getElem h] <;> rfl
  · rw [List.getElem?_eq_none (by rw [List.length_map]; exact h), List.getElem?_eq_none (by rw [tab_len]; exact h)]
theorem levs_tab (I : Bag) : (I.map fun e => V.int (lev I e.1)) = tab I.length fun i => lev I (numI I i) := by
  refine List.ext_getElem? fun j => ?_
  rcases Nat.lt_or_ge j I.length with h | h
  · rw [tab_at h, List.getElem?_map, List.getElem?_eq_getElem h]
    unfold numI
    rw [List.getD_eq_getElem?_getD, List.getElem?_eq_getElem h] <;> rfl
  · rw [List.getElem?_eq_none (by rw [List.length_map]; exact h), List.getElem?_eq_none (by rw [tab_len]; exact h)]
theorem q_forL0 {K : PySem.W.Frag} {σ : St} {H : Hp} {tg : TG} {ts tz : TS} {D : Ends} {x : V} {Ps : List Pr} {H0 : Hp} {tl : TE} (h : EvP tl σ H (IsV x)) (hT : (LstP Ps).h x H0) (Pv : Nat → St → Hp → Prop) (h0 : ∀ H1, Same H H1 → Pv 0 σ H1) (hk : ∀ i σ' H', Pv i σ' H' → Same H0 H')
    (hs : ∀ i P y σ' H', Ps[i]? = some P → P.h y H0 → Pv i σ' H' → tg y σ' H' fun σ2 H2 => ts { D with nx := Pv (i + 1), ct := Pv (i + 1), bk := tz D } σ2 H2) (hd : ∀ σ' H', Pv Ps.length σ' H' → tz D σ' H') : tSeq (tFor (iList K tl) tg ts) tz D σ H :=
  h H (Same.refl H) _ fun v H1 e1 (pv : v = x) => by
    subst pv
    obtain ⟨a, ys, rfl, ha, hy⟩ := hT
    have e0 := hk _ _ _ (h0 H1 e1)
    refine ⟨a, rfl, ⟨ys, SqL.of (e0 _ _ ha)⟩, for_list (D := { D with nx := tz D }) (xs := ys) Pv (h0 H1 e1) (fun i σ' H' _ p => SqL.of (hk _ _ _ p _ _ ha)) (fun i y σ' H' hi p => ?_) ?_⟩
    · obtain ⟨P, hP, q⟩ := hy.get hi
      exact hs i P y σ' H' hP q p
    · rw [hy.len]; exact hd
structure ObsOk (I : Bag) (R : Int) (obs : List (Bag × Bag)) : Prop where
  f : Feas I R obs
  n : obs.length ≤ 20
  z : ∀ o ∈ obs, sumLen [o.1, o.2, I] < 64
  t : tot I ≤ 200
section
variable {P : Program} {w : World} {K : PySem.W.Frag} {mg : Str → Option Value} {base : Heap}
/-! ### LevelBounds.__init__ -/
abbrev N_Linit : List Str := ["self", "inserted", "removals", "observations", "entry", "number", "count", "before", "after", "bag"]
theorem sc_Linit : FnScope N_Linit ["self", "inserted", "removals", "observations"] (defScope st_Linit) := ⟨rfl, rfl, rfl, by decide +kernel, rfl, by decide +kernel, by decide +kernel⟩
def Sp_Linit (K : PySem.W.Frag) : Sp := fun vs H Q _ => ∃ (H0 : Hp) (x dx : Addr) (v1 v3 : V) (I : Bag) (R : Int) (obs : List (Bag × Bag)), vs = [.ref x, v1, .int R, v3] ∧ Same H0 H ∧ H0 x = none ∧ H x = some (.ins (cB K) dx []) ∧ (BagP I).h v1 H0 ∧ (ObsP obs).h v3 H0 ∧ ObsOk I R obs ∧
  ∀ H' l1 l2 s D, LBat K H0 H' x v1 R I.length dx l1 l2 (rst s ((I.length : Int) - 1) (tot I - R) (tot I)) → J I R D s → DAll I obs D → Q .non H'
theorem ok_Linit (T : Fx K mg) : GM P w K mg base 3 (He.ma K (cB K) "__init__") ["self", "inserted", "removals", "observations"] (Sp_Linit K) := by
  have G_level := ok_level (P := P) (w := w) (base := base) T
  have G_total := ok_total (P := P) (w := w) (base := base) T
  have G_Lrestrict := ok_Lrestrict (P := P) (w := w) (base := base) T
  have G_Lobserve := ok_Lobserve (P := P) (w := w) (base := base) T
  refine mkS T.f_Linit sc_Linit (fun vs H Q E h => by obtain ⟨_, _, _, _, _, _, _, _, rfl, _⟩ := h; rfl) (fun _ _ _ _ _ _ us hl => match us, hl with | [_, _, _, _], _ => rfl) fun cdv A outer s H E hr => ?_
  have nd := sc_Linit.nd
  refine ⟨_, (pss_cons (ps_fld (pv 0) (pv 1) rfl)
    (pss_cons (ps_fld (pv 0) (pv 2) rfl)
    (pss_cons (ps_fld (pv 0) (pe_lc (own := [("entry", 4)]) (g := gName 4) (tt := tYes) rfl nd (pi_tup (pv 1)) (blkOk_by (N := N_Linit) (sc := defScope st_Linit) (by decide +kernel)) (fun _ _ _ _ _ => (pg_name (i := 4) nd rfl (Or.inl rfl))) (fun _ _ _ _ _ => pts_nil) (fun _ _ _ _ _ => pe_int)) rfl)
    (pss_cons (ps_fld (pv 0) (pe_lc (own := [("number", 5), ("count", 6)]) (g := gTup K 2 (gCons (gName 5) (gCons (gName 6) gNil))) (tt := tYes) rfl nd (pi_tup (pv 1)) (blkOk_by (N := N_Linit) (sc := defScope st_Linit) (by decide +kernel)) (fun _ _ _ _ _ => (pg_tup rfl (pgs_cons (pg_name (i := 5) nd rfl (Or.inl rfl)) (pgs_cons (pg_name (i := 6) nd rfl (Or.inl rfl)) pgs_nil)))) (fun _ _ _ _ _ => pts_nil) (fun _ _ _ _ _ => (pe_callG G_level (hr.mono (by decide)) (pa_cons (pv 1) (pa_cons (pv 5) pa_nil))))) rfl)
    (pss_cons (ps_fld (pv 0) pe_bl rfl)
    (pss_cons (ps_for PassesOwn.never rfl (pi_list (pv 3)) (pg_tup rfl (pgs_cons (pg_name (i := 7) nd rfl (Or.inl rfl)) (pgs_cons (pg_name (i := 8) nd rfl (Or.inl rfl)) pgs_nil))) (pss_cons (ps_fld (pv 0) (pe_and (pe_fld (pv 0) rfl) (pe_one (pe_cmpR op_eq (pe_op op_sub (pe_callG G_total (hr.mono (by decide)) (pa_cons (pv 8) pa_nil)) (pe_callG G_total (hr.mono (by decide)) (pa_cons (pv 7) pa_nil))) (pe_op op_sub (pe_callG G_total (hr.mono (by decide)) (pa_cons (pv 1) pa_nil)) (pv 2)) (nomark _)))) rfl)
    (pss_one (ps_for PassesOwn.never rfl (pi_list (pe_callB (cr_sortedSet rfl) (by rfl) T.n_sorted (by decide +kernel) (pa_cons (pe_sc2 (own := [("bag", 9), ("number", 5), ("count", 6)]) (vt := [5, 6]) (g := gName 9) (gj := gTup K 2 (gCons (gName 5) (gCons (gName 6) gNil))) rfl nd (pi_tup (pe_tup (pa_cons (pv 7) (pa_cons (pv 8) (pa_cons (pv 1) pa_nil))))) (blkOk_by (N := N_Linit) (sc := defScope st_Linit) (by decide +kernel)) (by decide) (fun _ _ _ _ _ => (pg_name (i := 9) nd rfl (Or.inl rfl))) (fun _ _ _ _ _ => (pi_tupK (K := K) rfl (pv 9))) (fun _ _ _ _ _ => (pg_tup rfl (pgs_cons (pg_name (i := 5) nd rfl (Or.inl rfl)) (pgs_cons (pg_name (i := 6) nd rfl (Or.inl rfl)) pgs_nil)))) (fun _ _ _ _ _ => (pv 5))) pa_nil))) (pg_name (i := 5) nd rfl (Or.inl rfl)) (pss_one (ps_expr (pe_methG T.cls_L T.m_Lobserve G_Lobserve (hr.mono (by decide)) (pv 0) (pa_cons (pv 5) (pa_cons (pe_callG G_level (hr.mono (by decide)) (pa_cons (pv 7) (pa_cons (pv 5) pa_nil))) (pa_cons (pe_callG G_level (hr.mono (by decide)) (pa_cons (pv 8) (pa_cons (pv 5) pa_nil))) pa_nil))))))))))
    (pss_one (ps_expr (pe_methG T.cls_L T.m_Lrestrict G_Lrestrict (hr.mono (by decide)) (pv 0) (pa_cons (pe_op op_sub (pe_callB call_len_seq (by rfl) T.n_len (by decide +kernel) (pa_cons (pv 1) pa_nil)) pe_int) (pa_cons (pe_op op_sub (pe_callG G_total (hr.mono (by decide)) (pa_cons (pv 1) pa_nil)) (pv 2)) (pa_cons (pe_callG G_total (hr.mono (by decide)) (pa_cons (pv 1) pa_nil)) pa_nil)))))))))))), ?_⟩
  rintro vs Q ⟨H0, x, dx, v1, v3, I, R, obs, rfl, s0, nx, hx, hI, hO, ok, k⟩
  have hI' : ∀ {H'}, Same H0 H' → (BagP I).h v1 H' := fun e => (BagP I).kp e hI
  have hz := hI.1
  -- the five fields
  refine q_fldV (P := IsV v1) T.cls_L T.na_own_inserted (ev_v rfl) (ev_v rfl) hx (by decide) fun v H1 e1 (pv : v = _) => ?_
  have pv := pv.symm
  subst pv
  rw [pf1]
  generalize hH1 : upd H1 x _ = G1
  have s1 : Same H0 G1 := by rw [← hH1]; exact Same.chg (s0.trans e1) nx
  have x1 : G1 x = some (.ins (cB K) dx [("own_inserted", v1)]) := by rw [← hH1, upd_same]
  refine q_fldV (P := IsI R) T.cls_L T.na_own_removals (ev_v rfl) (ev_v rfl) x1 (by simp) fun v H2 e2 (pv : v = _) => ?_
  subst pv
  rw [pf2]
  generalize hH2 : upd H2 x _ = G2
  have s2 : Same H0 G2 := by rw [← hH2]; exact Same.chg (s1.trans e2) nx
  have x2 : G2 x = some (.ins (cB K) dx [("own_inserted", v1), ("own_removals", .int R)]) := by rw [← hH2, upd_same]
  refine q_fldV (P := NewL G2 (I.map fun _ => IsI 0)) T.cls_L T.na_least (EvP.imp (ev_lcT1 (xs := I) (P1 := fun e => entP e) (fun _ => true) (fun _ => IsI 0) (ev_var rfl (BagP.tup (hI' s2))) (Nat.lt_of_le_of_lt hz (by decide)) (fun _ => rfl) (fun _ _ _ _ _ _ => et_yes) fun _ _ _ _ _ _ _ => ev_c) fun v H3 _ p => by rw [kept_all] at p; exact p) (ev_v rfl) x2 (by simp) fun v H3 e3 p3 => ?_
  obtain ⟨l1, ys, rfl, n1, hl1, hys⟩ := p3
  have hys : ys = I.map fun _ => V.int 0 := AllP.is (f := fun _ => V.int 0) hys
  rw [zeros_tab] at hys
  subst hys
  rw [pf3]
  have xl1 : x ≠ l1 := fun z => by rw [← z, x2] at n1; cases n1
  generalize hH3 : upd H3 x _ = G3
  have s3 : Same H0 G3 := by rw [← hH3]; exact Same.chg (s2.trans e3) nx
  have x3 : G3 x = some (.ins (cB K) dx [("own_inserted", v1), ("own_removals", .int R), ("least", .ref l1)]) := by rw [← hH3, upd_same]
  have y3 : G3 l1 = some (.lst (tab I.length fun _ => 0)) := by rw [← hH3, upd_ne (Ne.symm xl1)]; exact hl1
  have n10 : H0 l1 = none := free_back s2 n1
  refine q_fldV (P := NewL G3 (I.map fun e => IsI (lev I e.1))) T.cls_L T.na_most (EvP.imp (ev_lcT2 (xs := I) (P1 := fun e => IsI e.1) (P2 := fun e => IsI e.2) (fun _ => true) (fun e => IsI (lev I e.1)) (ev_var rfl (BagP.tup (hI' s3))) (Nat.lt_of_le_of_lt hz (by decide)) (fun _ _ => rfl) (fun _ _ _ _ _ _ _ _ => et_yes) fun e _ v1 v2 H4 e4 k1 _ _ => ev_call (I, e.1) trivial (ea2 (ev_var rfl (hI' (s3.trans e4))) (ev_var rfl k1))) fun v H4 _ p => by rw [kept_all] at p; exact p) (ev_v rfl) x3 (by simp) fun v H4 e4 p4 => ?_
  obtain ⟨l2, ys, rfl, n2, hl2, hys⟩ := p4
  have hys : ys = I.map fun e => V.int (lev I e.1) := AllP.is (f := fun e : Int × Int => V.int (lev I e.1)) hys
  rw [levs_tab] at hys
  subst hys
  rw [pf4]
  have xl2 : x ≠ l2 := fun z => by rw [← z, x3] at n2; cases n2
  have l12 : l1 ≠ l2 := fun z => by rw [← z, y3] at n2; cases n2
  generalize hH4 : upd H4 x _ = G4
  have s4 : Same H0 G4 := by rw [← hH4]; exact Same.chg (s3.trans e4) nx
  have x4 : G4 x = some (.ins (cB K) dx [("own_inserted", v1), ("own_removals", .int R), ("least", .ref l1), ("most", .ref l2)]) := by rw [← hH4, upd_same]
  have y4 : G4 l1 = some (.lst (tab I.length fun _ => 0)) := by rw [← hH4, upd_ne (Ne.symm xl1)]; exact e4 _ _ y3
  have z4 : G4 l2 = some (.lst (tab I.length fun i => lev I (numI I i))) := by rw [← hH4, upd_ne (Ne.symm xl2)]; exact hl2
  have n20 : H0 l2 = none := free_back s3 n2
  refine q_fldV (P := IsB true) T.cls_L T.na_possible ev_c (ev_v rfl) x4 (by simp) fun v H5 e5 (pv : v = _) => ?_
  subst pv
  rw [pf5]
  have L0 : LBat K H0 (upd H5 x (.ins (cB K) dx (lbF v1 R l1 l2 true))) x v1 R I.length dx l1 l2 (ls0 I) :=
    ⟨upd_same, by rw [upd_ne (Ne.symm xl1)]; exact e5 _ _ y4, by rw [upd_ne (Ne.symm xl2)]; exact e5 _ _ z4, l12, nx, n10, n20, Same.chg (s4.trans e5) nx⟩
  show tSeq _ _ _ _ (upd H5 x (.ins (cB K) dx (lbF v1 R l1 l2 true)))
  generalize upd H5 x (.ins (cB K) dx (lbF v1 R l1 l2 true)) = G5 at L0
  have hO : (LstP (obs.map obP)).h v3 H0 := hO
  refine q_forL0 (H0 := H0) (Ps := obs.map obP) (ev_v rfl) hO (fun i σ' H' => ∃ (a5 a7 a8 : Option V) (s : LS) (D : List (Int × Int × Int)), σ' = [some (.ref x), some v1, some (.int R), some v3, none, a5, none, a7, a8, none] ∧ LBat K H0 H' x v1 R I.length dx l1 l2 s ∧ J I R D s ∧ DAll I (obs.take i) D)
    (fun H6 e6 => ⟨none, none, none, ls0 I, [], rfl, L0.more e6, J.start I R, fun t => Iff.intro (fun z => by cases z) (fun ⟨_, z, _⟩ => by cases z)⟩) (fun i σ' H' ⟨_, _, _, _, _, _, L, _⟩ => L.sm) ?_ ?_
  · rintro i P' y σ' H6 hi hy ⟨a5, a7, a8, s, D, rfl, L, hJ, hD⟩
    rw [List.getElem?_map] at hi
    obtain ⟨o, ho, rfl⟩ := Option.map_eq_some_iff.mp hi
    have hom := List.mem_of_getElem? ho
    obtain ⟨ob1, ob2, obt⟩ := ok.f.ok o hom
    obtain ⟨pp, ys, rfl, hpp, vb, _, rfl, hb, va, _, rfl, ha, rfl⟩ := hy
    refine ⟨pp, _, rfl, .inl (Same.rd L.sm hpp), rfl, vb, _, rfl, va, _, rfl, rfl, ?_⟩
    show tSeq _ _ _ [some (.ref x), some v1, some (.int R), some v3, none, a5, none, some vb, some va, none] H6
    have hb' : ∀ {H'}, Same H0 H' → (BagP o.1).h vb H' := fun e => (BagP o.1).kp e hb
    have ha' : ∀ {H'}, Same H0 H' → (BagP o.2).h va H' := fun e => (BagP o.2).kp e ha
    refine q_fldV (P := IsB true) T.cls_L T.na_possible (EvP.is (ev_and (a := s.p) (b := true) (ev_fldV T.cls_L T.na_possible (ev_v rfl) L.ob lb_poss) fun _ => EvP.is (ev_eq (x := .int (tot o.2 - tot o.1)) (y := .int (tot I - R)) (ev_i (i := tot o.2) (j := tot o.1) (ev_call o.2 trivial (ea1 (ev_var rfl (ha' L.sm)))) (ev_call o.1 trivial (ea1 (ev_var rfl (hb' L.sm)))) rfl) (ev_i (i := tot I) (j := R) (ev_call I trivial (ea1 (ev_var rfl (hI' L.sm)))) (ev_v rfl) rfl) rfl) (by rw [obt, decide_eq_true (by congr 1; omega)])) (by rw [hJ.1] <;> rfl)) (ev_v rfl) L.ob (by show 5 < 1000; decide) fun v H7 e7 (pv : v = _) => ?_
    subst pv
    have L7 : LBat K H0 (upd H7 x (.ins (cB K) dx (putF "possible" (.bl true) (lbF v1 R l1 l2 s.p)))) x v1 R I.length dx l1 l2 { s with p := true } := (L.more e7).setP true
    have hJ7 : J I R D { s with p := true } := ⟨rfl, hJ.2⟩
    show tFor _ _ _ _ _ (upd H7 x (.ins (cB K) dx (putF "possible" (.bl true) (lbF v1 R l1 l2 s.p))))
    generalize upd H7 x (.ins (cB K) dx (putF "possible" (.bl true) (lbF v1 R l1 l2 s.p))) = G7 at L7
    generalize hs7 : ({ s with p := true } : LS) = s7 at L7 hJ7
    refine s_forX (ev_pts (bs := [o.1, o.2, I]) (ea3 (ev_var rfl (hb' L7.sm)) (ev_var rfl (ha' L7.sm)) (ev_var rfl (hI' L7.sm))) (ok.z o hom) (by simp) (fun _ => rfl) (fun _ => rfl) (fun _ _ _ => rfl) (fun _ _ _ => rfl)) fun ns p H8 hφ e8 hnp hp => ?_
    have hpx : ¬ (p = x ∨ p = l1 ∨ p = l2) := fun z => by
      rcases z with z | z | z
      · rw [z, L7.ob] at hnp; cases hnp
      · rw [z, L7.lo] at hnp; cases hnp
      · rw [z, L7.hi] at hnp; cases hnp
    refine ⟨fun j σ' H' => ∃ (a5 : Option V) (s : LS) (D' : List (Int × Int × Int)), σ' = [some (.ref x), some v1, some (.int R), some v3, none, a5, none, some vb, some va, none] ∧ LBat K H0 H' x v1 R I.length dx l1 l2 s ∧ H' p = some (.lst (ns.map V.int)) ∧ J I R D' s ∧ ∀ t, t ∈ D' ↔ (t ∈ D ∨ ∃ n ∈ ns.take j, t = (n, lev o.1 n, lev o.2 n)),
      ⟨a5, s7, D, rfl, L7.more e8, hp, hJ7, fun t => ⟨.inl, fun z => z.elim id fun ⟨_, z, _⟩ => by cases z⟩⟩, fun j σ' H' ⟨_, _, _, _, _, h, _⟩ => h, ?_, ?_⟩
    · rintro j n σ' H9 hn ⟨a5, s9, D9, rfl, L9, hp9, hJ9, hD9⟩
      obtain ⟨q1, q2, q3⟩ := ok.f.pt hom n
      show tDrop _ _ [some (.ref x), some v1, some (.int R), some v3, none, some (.int n), none, some vb, some va, none] H9
      refine s_meth (Rs := [IsI n, IsI (lev o.1 n), IsI (lev o.2 n)]) (ev_v rfl) L9.ob (lb_none (by decide +kernel)) (ea3 (ev_v rfl) (ev_call (o.1, n) trivial (ea2 (ev_var rfl (hb' L9.sm)) (ev_v rfl))) (ev_call (o.2, n) trivial (ea2 (ev_var rfl (ha' L9.sm)) (ev_v rfl)))) fun vs HA eA hv => ?_
      obtain ⟨w1, _, rfl, (h1 : w1 = _), w2, _, rfl, (h2 : w2 = _), w3, _, rfl, (h3 : w3 = _), rfl⟩ := hv
      subst h1 h2 h3
      have LA := L9.more eA
      refine ⟨er HA x l1 l2, x, dx, l1, l2, v1, R, I, s9, n, _, _, rfl, LA.er, hI' LA.toer, q2, fun HB LB => ?_⟩
      refine ⟨_, _, (n, lev o.1 n, lev o.2 n) :: D9, rfl, LA.back LB, LB.other (eA _ _ hp9) hpx, hJ9.obs q1 q3, fun t => ?_⟩
      rw [List.mem_cons, hD9, List.take_succ, hn]
      constructor
      · rintro (z | z | ⟨m, hm, z⟩)
        · exact .inr ⟨n, by simp, z⟩
        · exact .inl z
        · exact .inr ⟨m, List.mem_append_left _ hm, z⟩
      · rintro (z | ⟨m, hm, z⟩)
        · exact .inr (.inl z)
        · rcases List.mem_append.mp hm with hm | hm
          · exact .inr (.inr ⟨m, hm, z⟩)
          · have hm : m = n := by simpa using hm
            exact .inl (by rw [z, hm])
    · rintro σ' H9 ⟨a5, s9, D9, rfl, L9, hp9, hJ9, hD9⟩
      refine ⟨_, _, _, s9, D9, rfl, L9, hJ9, fun t => ?_⟩
      rw [List.take_of_length_le (Nat.le_refl _)] at hD9
      rw [hD9, List.take_succ, ho]
      have pts : ∀ k, k ∈ ns ↔ InPts I o k := fun k => (hφ.2 k).trans (by
        unfold inBags InPts
        simp)
      constructor
      · rintro (z | ⟨m, hm, z⟩)
        · obtain ⟨o', h1, h2⟩ := (hD t).mp z
          exact ⟨o', List.mem_append_left _ h1, h2⟩
        · rw [z]
          exact ⟨o, by simp, (pts m).mp hm, rfl⟩
      · rintro ⟨o', h1, h2, h3⟩
        rcases List.mem_append.mp h1 with h1 | h1
        · exact .inl ((hD t).mpr ⟨o', h1, h2, h3⟩)
        · have h1 : o' = o := by simpa using h1
          rw [h1] at h2 h3
          exact .inr ⟨t.1, (pts t.1).mpr h2, Prod.ext rfl h3⟩
  · rintro σ' H6 ⟨a5, a7, a8, s, D, rfl, L, hJ, hD⟩
    rw [List.length_map, List.take_of_length_le (Nat.le_refl _)] at hD
    refine s_meth (Rs := [IsI ((I.length : Int) - 1), IsI (tot I - R), IsI (tot I)]) (ev_v rfl) L.ob (lb_none (by decide +kernel)) (ea3 (ev_i (i := (I.length : Nat)) (j := 1) ?_ ev_c rfl) (ev_i (i := tot I) (j := R) (ev_call I trivial (ea1 (ev_var rfl (hI' L.sm)))) (ev_v rfl) rfl) (ev_call I trivial (ea1 (ev_var rfl (hI' L.sm))))) fun vs HA eA hv => ?_
    · rw [show ((I.length : Nat) : Int) = ((I.map entP).length : Nat) by rw [List.length_map]]
      exact ev_lenT (ev_var rfl (BagP.tup (hI' L.sm))) rfl
    · obtain ⟨w1, _, rfl, (h1 : w1 = _), w2, _, rfl, (h2 : w2 = _), w3, _, rfl, (h3 : w3 = _), rfl⟩ := hv
      subst h1 h2 h3
      exact ⟨H0, x, dx, l1, l2, v1, R, I.length, s, _, _, _, rfl, L.more eA, by omega, fun H' L' => k H' l1 l2 s D L' hJ hD⟩
end
end K79
end
section
set_option Elab.async false
set_option linter.all false
set_option maxRecDepth 100000
set_option maxHeartbeats 4000000
namespace K79
open PySem PySem.Spec L2
section
variable {K : PySem.W.Frag} {σ : St} {H : Hp} {td te : TE} {tr tk : TA}
/-- LevelBounds(..) -/
theorem ev_makeL {I : Bag} {R : Int} {obs : List (Bag × Bag)} {P : Pr} (ok : ObsOk I R obs) (ha : EvA tr σ H [BagP I, IsI R, ObsP obs])
    (hP : ∀ H2 x v1 dx l1 l2 s H', (BagP I).h v1 H2 → LBat K H2 H' x v1 R I.length dx l1 l2 s → Set0 I s (Sol I R obs) → P.h (.ref x) H') : EvP (tMake (cB K) (Sp_Linit K) [] E0 tr) σ H P := fun H1 h Q q => ha H1 h _ fun vs H2 h2 hv x dx nx ndx ne => by
  obtain ⟨v1, _, rfl, k1, v2, _, rfl, (k2 : v2 = _), v3, _, rfl, k3, rfl⟩ := hv
  subst k2
  refine ⟨H2, x, dx, v1, v3, I, R, obs, rfl, Same.chg (Same.chg (Same.refl H2) ndx) nx, nx, upd_same, k1, k3, ok, fun H' l1 l2 s D L hJ hD => ⟨rfl, q _ H' (h2.trans L.sm) (hP H2 x v1 dx l1 l2 _ H' k1 L (hJ.set0 ok.f hD))⟩⟩
/-- sum(d.values()) -/
theorem ev_sumVals {φ : Bag → Prop} {n : Int} (h : EvP td σ H (ExP φ DctP)) (hn : ∀ L, φ L → tot L = n) : EvP (tSumVals td) σ H (IsI n) := fun H1 e Q q => h H1 e _ fun v H2 e2 hv => by
  obtain ⟨L, hL, d, rfl, hd⟩ := hv
  refine ⟨d, L, rfl, hd, q _ H2 e2 ?_⟩
  show V.int _ = V.int n
  rw [← hn L hL] <;> rfl
def sortedOf (L : Bag) (ns : List Int) : Prop := ns.Perm (L.map (·.1)) ∧ ns.Pairwise (· ≥ ·)
/-- sorted(d, reverse=True) -/
theorem ev_sortRev {d : Addr} {L : Bag} (h : EvP td σ H (IsV (.ref d))) (hd : H d = some (.dK (dictOf L))) (hk : EvA tk σ H [IsB true]) : EvP (tCKw rSortRevD (tCons td tNil) tk) σ H (ExP (sortedOf L) fun ns => LstP (ns.map IsI)) := fun H1 e Q q => by
  unfold tCKw
  refine ea1 h H1 e _ fun vs H2 e2 hv => hk H2 (e.trans e2) _ fun zs H3 e3 hz => ?_
  obtain ⟨v, _, rfl, (p : v = _), rfl⟩ := hv
  obtain ⟨z, _, rfl, (pz : z = _), rfl⟩ := hz
  subst p pz
  exact ⟨d, L, rfl, rfl, e3 _ _ (e2 _ _ (e _ _ hd)), fun ns p hp hs hn => q _ _ ((e2.trans e3).trans (Same.ext (Same.refl H3) hn)) ⟨ns, ⟨hp, hs⟩, p, ns.map V.int, rfl, upd_same, AllP.of_is⟩⟩
end
/-- what settled bounds are, where they stand -/
def BndP (K : PySem.W.Frag) (I : Bag) (R : Int) (obs : List (Bag × Bag)) : Pr := ExP (fun s => Settled I R obs s) fun s => LBP K I R s
theorem nn_bnd {K : PySem.W.Frag} {I : Bag} {R : Int} {obs : List (Bag × Bag)} : ∀ v (H1 : Hp), (BndP K I R obs).h v H1 → v ≠ .non := fun v H1 ⟨s, _, x, _, _, _, _, e, _⟩ z => by rw [e] at z; cases z
def QOk (I : Bag) (R : Int) (obs : List (Bag × Bag)) (o : Option Int) : Prop := (cntS I R obs < 2 ∧ o = none) ∨ (2 ≤ cntS I R obs ∧ ∃ z, o = some (R - tot I + z) ∧ 2 ≤ tailS I R obs z ∧ ∀ k, z < k → tailS I R obs k ≤ 1)
def optV : Option Int → V
  | none => .non
  | some z => .int z
section
variable {P : Program} {w : World} {K : PySem.W.Frag} {mg : Str → Option Value} {base : Heap}
abbrev pars (g : Bag × Int × List (Bag × Bag)) : List Pr := [BagP g.1, IsI g.2.1, ObsP g.2.2]
/-! ### settled_bounds -/
abbrev N_settled_bounds : List Str := ["inserted", "removals", "observations", "bounds"]
theorem sc_settled_bounds : FnScope N_settled_bounds ["inserted", "removals", "observations"] (defScope st_settled_bounds) := ⟨rfl, rfl, rfl, by decide +kernel, rfl, by decide +kernel, by decide +kernel⟩
abbrev Sp_settled_bounds (K : PySem.W.Frag) : Sp := SpG (γ := Bag × Int × List (Bag × Bag)) pars (fun g => ObsOk g.1 g.2.1 g.2.2) (fun g => BndP K g.1 g.2.1 g.2.2)
theorem ok_settled_bounds (T : Fx K mg) : Glob P w K mg base 5 "settled_bounds" (He.ga K "settled_bounds") ["inserted", "removals", "observations"] (Sp_settled_bounds K) := by
  have G_check_bag := ok_check_bag (P := P) (w := w) (base := base) T
  have G_check_count := ok_check_count (P := P) (w := w) (base := base) T
  have G_check_observations := ok_check_observations (P := P) (w := w) (base := base) T
  have G_total := ok_total (P := P) (w := w) (base := base) T
  have G_Linit := ok_Linit (P := P) (w := w) (base := base) T
  have G_Lsettle := ok_Lsettle (P := P) (w := w) (base := base) T
  refine mkG T.f_settled_bounds T.g_settled_bounds sc_settled_bounds (fun _ => rfl) (fun _ _ _ _ _ _ us hl => match us, hl with | [_, _, _], _ => rfl) fun cdv A outer s H E hr => ?_
  have nd := sc_settled_bounds.nd
  refine ⟨_, (pss_cons (ps_expr (pe_callG G_check_bag (hr.mono (by decide)) (pa_cons (pv 0) pa_nil)))
    (pss_cons (ps_expr (pe_callG G_check_count (hr.mono (by decide)) (pa_cons (pv 1) pa_nil)))
    (pss_cons (ps_expr (pe_callG G_check_observations (hr.mono (by decide)) (pa_cons (pv 2) pa_nil)))
    (pss_cons (ps_if (pt_cmpR op_gt (pe_callG G_total (hr.mono (by decide)) (pa_cons (pv 0) pa_nil)) (C8.pe_gc (v := .int 200) rfl (T.i_MAX_INSERTED.elim fun t h => ⟨.int 200 t, h, t, rfl⟩)) (nomark _)) pss_never pss_nil)
    (pss_cons (ps_set (i := 3) nd rfl (Or.inl rfl) (pe_makeG T.mk_L T.g_LevelBounds G_Linit (hr.mono (by decide)) (pa_cons (pv 0) (pa_cons (pv 1) (pa_cons (pv 2) pa_nil)))))
    (pss_one (ps_ret (pe_ifExp (pt_val (pe_methG0 T.cls_L T.m_Lsettle G_Lsettle (hr.mono (by decide)) (pv 3))) (pv 3) pe_non)))))))), ?_⟩
  rintro ⟨I, R, obs⟩ vs Q ok ⟨v1, _, rfl, h1, v2, _, rfl, (h2 : v2 = _), v3, _, rfl, h3, rfl⟩ q
  subst h2
  have ok : ObsOk I R obs := ok
  have h1 : (BagP I).h v1 H := h1
  have h3 : (ObsP obs).h v3 H := h3
  refine q_drop (ev_call I ok.f.i (ea1 (ev_var rfl h1))) fun H1 e1 => ?_
  refine q_drop (ev_call R ok.f.r (ea1 (ev_v rfl))) fun H2 e2 => ?_
  refine q_drop (ev_call obs ⟨ok.n, fun o ho => ⟨(ok.f.ok o ho).1, (ok.f.ok o ho).2.1⟩⟩ (ea1 (ev_var rfl ((ObsP obs).kp (e1.trans e2) h3)))) fun H3 e3 => ?_
  have e13 := (e1.trans e2).trans e3
  refine q_no (et_test (ev_i (i := tot I) (j := 200) (ev_call I trivial (ea1 (ev_var rfl ((BagP I).kp e13 h1)))) ev_c (by have := ok.t; rw [decide_eq_false (by omega)]))) fun H4 e4 => ?_
  have e14 := e13.trans e4
  -- the bounds
  unfold tSeq tAsg tMake
  refine ea3 (P := BagP I) (Q := IsI R) (R := ObsP obs) (ev_var rfl ((BagP I).kp e14 h1)) (ev_v rfl) (ev_var rfl ((ObsP obs).kp e14 h3)) H4 (Same.refl H4) _ fun vs H5 e5 hv => ?_
  intro x dx nx ndx ne
  obtain ⟨u1, _, rfl, k1, u2, _, rfl, (k2 : u2 = _), u3, _, rfl, k3, rfl⟩ := hv
  subst k2
  refine ⟨H5, x, dx, u1, u3, I, R, obs, rfl, Same.chg (Same.chg (Same.refl H5) ndx) nx, nx, upd_same, k1, k3, ok, fun H6 l1 l2 s D L hJ hD => ⟨rfl, ?_⟩⟩
  have S0 := hJ.set0 ok.f hD
  obtain ⟨st, sp⟩ := setl_ok ok.f S0
  refine ⟨.ref x, rfl, x, dx, _, rfl, L.ob, lb_none (by decide +kernel), ?_⟩
  refine ⟨H5, x, dx, l1, l2, u1, R, I, _, rfl, L, k1, fun H7 L7 => ?_⟩
  have hall : ((List.range I.length).all fun i => decide ((setl I (rst s ((I.length : Int) - 1) (tot I - R) (tot I))).lo i ≤ (setl I (rst s ((I.length : Int) - 1) (tot I - R) (tot I))).hi i)) = true := by
    rw [List.all_eq_true]
    intro i hi
    have hi := List.mem_range.mp hi
    have := (st.ext.lo _ st.hi i hi)
    rw [tab_get _ hi, tab_get _ hi] at this
    exact decide_eq_true this
  rw [sp, hall]
  refine ⟨true, rfl, ?_⟩
  simp only [if_true]
  refine ⟨_, rfl, ?_⟩
  exact q _ H7 ((e14.trans e5).trans L7.sm) ⟨_, st, x, dx, l1, l2, u1, rfl, L7.ob, L7.lo, L7.hi, (BagP I).kp L7.sm k1⟩
/-! ### possible_survivors -/
abbrev N_possible_survivors : List Str := ["inserted", "removals", "observations", "bounds"]
theorem sc_possible_survivors : FnScope N_possible_survivors ["inserted", "removals", "observations"] (defScope st_possible_survivors) := ⟨rfl, rfl, rfl, by decide +kernel, rfl, by decide +kernel, by decide +kernel⟩
noncomputable def SurvP (I : Bag) (R : Int) (obs : List (Bag × Bag)) : Pr := ExP (fun g : List Int × List Int => Ext I R obs g.1 g.2) fun g => TupP [IsI (cntS I R obs), BagP (bagOf I g.1), BagP (bagOf I g.2)]
abbrev Sp_possible_survivors : Sp := SpG (γ := Bag × Int × List (Bag × Bag)) pars (fun g => ObsOk g.1 g.2.1 g.2.2) (fun g => SurvP g.1 g.2.1 g.2.2)
theorem ok_possible_survivors (T : Fx K mg) : Glob P w K mg base 6 "possible_survivors" (He.ga K "possible_survivors") ["inserted", "removals", "observations"] Sp_possible_survivors := by
  have G_settled_bounds := ok_settled_bounds (P := P) (w := w) (base := base) T
  have G_Lways := ok_Lways (P := P) (w := w) (base := base) T
  have G_Lbag := ok_Lbag (P := P) (w := w) (base := base) T
  refine mkG T.f_possible_survivors T.g_possible_survivors sc_possible_survivors (fun _ => rfl) (fun _ _ _ _ _ _ us hl => match us, hl with | [_, _, _], _ => rfl) fun cdv A outer s H E hr => ?_
  have nd := sc_possible_survivors.nd
  refine ⟨_, (pss_cons (ps_set (i := 3) nd rfl (Or.inl rfl) (pe_callG G_settled_bounds (hr.mono (by decide)) (pa_cons (pv 0) (pa_cons (pv 1) (pa_cons (pv 2) pa_nil)))))
    (pss_cons (ps_if (pt_cmpR op_isN (pv 3) pe_non (nomark _)) (pss_one (ps_ret (pe_tup (pa_cons pe_int (pa_cons pe_non (pa_cons pe_non pa_nil)))))) pss_nil)
    (pss_one (ps_ret (pe_tup (pa_cons (pe_sumVals rfl (by rfl) T.n_sum (pe_methG0 T.cls_L T.m_Lways G_Lways (hr.mono (by decide)) (pv 3))) (pa_cons (pe_methG T.cls_L T.m_Lbag G_Lbag (hr.mono (by decide)) (pv 3) (pa_cons (pe_fld (pv 3) rfl) pa_nil)) (pa_cons (pe_methG T.cls_L T.m_Lbag G_Lbag (hr.mono (by decide)) (pv 3) (pa_cons (pe_fld (pv 3) rfl) pa_nil)) pa_nil)))))))), ?_⟩
  rintro ⟨I, R, obs⟩ vs Q ok ⟨v1, _, rfl, h1, v2, _, rfl, h2, v3, _, rfl, h3, rfl⟩ q
  have ok : ObsOk I R obs := ok
  refine q_asg (ev_call (I, R, obs) ok (ea3 (ev_var rfl h1) (ev_var rfl h2) (ev_var rfl h3))) fun v4 H1 e1 h4 => ?_
  refine q_no (et_test (ev_isNf (ev_var rfl h4) nn_bnd rfl)) fun H2 e2 => ?_
  obtain ⟨s, st, hs⟩ := (BndP K I R obs).kp e2 h4
  have bd := fun i (hi : i < I.length) => st.bd ok.f.i hi
  have ot := ok.t
  have mL : ∀ v (H1 : Hp), (LBP K I R s).h v H1 → ∀ m : Str, ([("own_inserted" : Str), "own_removals", "least", "most", "possible"].all fun x => !(m == x)) = true → ∃ a dx fs, v = .ref a ∧ H1 a = some (.ins (cB K) dx fs) ∧ fs.lookup m = none := fun v H1 ⟨x, dx, l1, l2, w1, e, h, _⟩ m hm => ⟨x, dx, _, e, h, lb_none hm⟩
  have fld : ∀ {σ : St} {H3 : Hp}, Same H2 H3 → σ[3]? = some (some v4) → EvP (tFld K (tVar 3) "least") σ H3 (LstP (((List.range I.length).map s.lo).map IsI)) ∧ EvP (tFld K (tVar 3) "most") σ H3 (LstP (((List.range I.length).map s.hi).map IsI)) := fun {σ H3} e3 hσ => by
    obtain ⟨x, dx, l1, l2, w1, rfl, k1, k2, k3, _⟩ := (LBP K I R s).kp e3 hs
    constructor
    · refine (ev_fldV T.cls_L T.na_least (ev_v hσ) k1 lb_least).imp fun v H4 e4 (pv : v = _) => ?_
      subst pv
      refine ⟨l1, _, rfl, e4 _ _ k2, ?_⟩
      rw [List.map_map]
      exact AllP.of_is (f := fun i => V.int (s.lo i))
    · refine (ev_fldV T.cls_L T.na_most (ev_v hσ) k1 lb_most).imp fun v H4 e4 (pv : v = _) => ?_
      subst pv
      refine ⟨l2, _, rfl, e4 _ _ k3, ?_⟩
      rw [List.map_map]
      exact AllP.of_is (f := fun i => V.int (s.hi i))
  refine s_ret (P := TupP [IsI (cntS I R obs), BagP (bagOf I ((List.range I.length).map s.lo)), BagP (bagOf I ((List.range I.length).map s.hi))]) (ev_tup (ea3 ?_ ?_ ?_) (by simp)) fun v H3 e3 p => q v H3 ((e1.trans e2).trans e3) ⟨(_, _), st.ext, p⟩
  · refine ev_sumVals (φ := WaysOf I s) (ev_meth (I, R, s) rfl ⟨ok.f.i, fun i hi => by have hi : i < I.length := hi; have := bd i hi; show 0 ≤ s.lo i ∧ s.lo i ≤ 1000 ∧ 0 ≤ s.hi i ∧ s.hi i ≤ 1000; omega⟩ (ev_var rfl hs) ea_nil fun v H1 h => mL v H1 h _ (by decide +kernel)) fun L hL => ?_
    rw [wsum_tot, hL.2, numW_sol st]
    rfl
  · exact ev_meth (I, R, s, (List.range I.length).map s.lo) rfl ⟨ok.f.i, by simp⟩ (ev_var rfl hs) (ea1 (fld (Same.refl _) rfl).1) fun v H1 h => mL v H1 h _ (by decide +kernel)
  · exact ev_meth (I, R, s, (List.range I.length).map s.hi) rfl ⟨ok.f.i, by simp⟩ (ev_var rfl hs) (ea1 (fld (Same.refl _) rfl).2) fun v H1 h => mL v H1 h _ (by decide +kernel)
/-! ### question_size -/
abbrev N_question_size : List Str := ["inserted", "removals", "observations", "bounds", "ways", "sizes", "size"]
theorem sc_question_size : FnScope N_question_size ["inserted", "removals", "observations"] (defScope st_question_size) := ⟨rfl, rfl, rfl, by decide +kernel, rfl, by decide +kernel, by decide +kernel⟩
abbrev Sp_question_size : Sp := SpG (γ := Bag × Int × List (Bag × Bag)) pars (fun g => ObsOk g.1 g.2.1 g.2.2) (fun g => ExP (QOk g.1 g.2.1 g.2.2) fun o => IsV (optV o))
theorem ok_question_size (T : Fx K mg) : Glob P w K mg base 6 "question_size" (He.ga K "question_size") ["inserted", "removals", "observations"] Sp_question_size := by
  have G_settled_bounds := ok_settled_bounds (P := P) (w := w) (base := base) T
  have G_Lways := ok_Lways (P := P) (w := w) (base := base) T
  have G_total := ok_total (P := P) (w := w) (base := base) T
  refine mkG T.f_question_size T.g_question_size sc_question_size (fun _ => rfl) (fun _ _ _ _ _ _ us hl => match us, hl with | [_, _, _], _ => rfl) fun cdv A outer s H E hr => ?_
  have nd := sc_question_size.nd
  refine ⟨_, (pss_cons (ps_set (i := 3) nd rfl (Or.inl rfl) (pe_callG G_settled_bounds (hr.mono (by decide)) (pa_cons (pv 0) (pa_cons (pv 1) (pa_cons (pv 2) pa_nil)))))
    (pss_cons (ps_set (i := 4) nd rfl (Or.inl rfl) (pe_ifExp (pt_cmpR op_isN (pv 3) pe_non (nomark _)) pe_dnewK (pe_methG0 T.cls_L T.m_Lways G_Lways (hr.mono (by decide)) (pv 3))))
    (pss_cons (ps_if (pt_cmpR op_lt (pe_sumVals rfl (by rfl) T.n_sum (pv 4)) pe_int (nomark _)) (pss_one (ps_ret pe_non)) pss_nil)
    (pss_cons (ps_set (i := 5) nd rfl (Or.inl rfl) (pe_callBK (ks := [PySem.Str.ofString "reverse"]) (cr_sortRevD rfl) (by rfl) T.n_sorted (by decide +kernel) (pa_cons (pv 4) pa_nil) (pk_cons pe_bl pk_nil)))
    (pss_cons (ps_set (i := 6) nd rfl (Or.inl rfl) (pe_ifExp (pt_cmpR op_gt (pe_dget (hu_of hr) (pv 4) (pe_ix ix_list (pv 5) pe_int (fun _ _ => rfl)) (fun _ _ => rfl)) pe_int (nomark _)) (pe_ix ix_list (pv 5) pe_int (fun _ _ => rfl)) (pe_ix ix_list (pv 5) pe_int (fun _ _ => rfl))))
    (pss_one (ps_ret (pe_op op_add (pe_op op_sub (pv 1) (pe_callG G_total (hr.mono (by decide)) (pa_cons (pv 0) pa_nil))) (pv 6))))))))), ?_⟩
  rintro ⟨I, R, obs⟩ vs Q ok ⟨v1, _, rfl, h1, v2, _, rfl, (h2 : v2 = _), v3, _, rfl, h3, rfl⟩ q
  subst h2
  have ok : ObsOk I R obs := ok
  have h1 : (BagP I).h v1 H := h1
  refine q_asg (ev_call (I, R, obs) ok (ea3 (ev_var rfl h1) (ev_v rfl) (ev_var rfl h3))) fun v4 H1 e1 h4 => ?_
  obtain ⟨s, st, hs⟩ := id h4
  have bd := fun i (hi : i < I.length) => st.bd ok.f.i hi
  have ot := ok.t
  refine q_asg (P := ExP (WaysOf I s) DctP) (ev_if (b := false) (et_test (ev_isNf (ev_var rfl h4) nn_bnd rfl)) (fun z => by cases z) fun _ => ev_meth (I, R, s) rfl ⟨ok.f.i, fun i hi => by have hi : i < I.length := hi; have := bd i hi; show 0 ≤ s.lo i ∧ s.lo i ≤ 1000 ∧ 0 ≤ s.hi i ∧ s.hi i ≤ 1000; omega⟩ (ev_var rfl hs) ea_nil fun v H1 ⟨x, dx, l1, l2, w1, e, h, _⟩ => ⟨x, dx, _, e, h, lb_none (by decide +kernel)⟩) fun v5 H2 e2 h5 => ?_
  obtain ⟨L, hL, d, rfl, hd⟩ := h5
  have e12 := e1.trans e2
  have ct : tot L = cntS I R obs := by rw [wsum_tot, hL.2, numW_sol st] <;> rfl
  have tl : ∀ k, wsum (ind k) L = tailS I R obs k := fun k => by rw [hL.2, numW_sol st] <;> rfl
  refine q_if (b := decide (tot L < 2)) (et_test (ev_i (i := tot L) (j := 2) (ev_sumVals (φ := fun M => M = L) (ev_var rfl ⟨L, rfl, d, rfl, hd⟩) fun M hM => by rw [hM]) ev_c rfl)) (fun z H3 e3 => ?_) fun z H3 e3 => ?_
  · have z := of_decide_eq_true z
    exact s_ret (P := IsV .non) ev_c fun v H4 e4 (p : v = _) => by subst p; exact q _ H4 ((e12.trans e3).trans e4) ⟨none, .inl ⟨by show cntS I R obs < 2; omega, rfl⟩, rfl⟩
  have z := of_decide_eq_false z
  have e13 := e12.trans e3
  have hd3 := e3 _ _ hd
  show tSeq _ _ _ _ H3
  refine q_asg (ev_sortRev (ev_v rfl) hd3 (ea1 ev_c)) fun v6 H4 e4 h6 => ?_
  obtain ⟨ns, ⟨np, nsr⟩, h6⟩ := h6
  have gd := hL.1
  have keys : ∀ n, n ∈ ns ↔ ∃ q ∈ L, q.1 = n := fun n => by rw [np.mem_iff, List.mem_map]
  have hd4 := e4 _ _ hd3
  have cp : ∀ n, (∃ q ∈ L, q.1 = n) → 1 ≤ cnt L n := fun n ⟨q, hq, e⟩ => by
    rw [← e, mem_cntD gd.d hq]
    exact (gd.g q hq).1
  cases ns with
  | nil =>
    exfalso
    have : L = [] := by
      cases L with
      | nil => rfl
      | cons e r => exact absurd ((keys e.1).mpr ⟨e, List.mem_cons_self, rfl⟩) (by simp)
    rw [this] at z
    exact z (by decide)
  | cons n0 rest =>
    obtain ⟨s1, s2⟩ := List.pairwise_cons.mp nsr
    have k0 := (keys n0).mp List.mem_cons_self
    have c0 := cp n0 k0
    have top : ∀ q ∈ L, q.1 ≤ n0 := fun q hq => by
      rcases List.mem_cons.mp ((keys q.1).mpr ⟨q, hq, rfl⟩) with e | e
      · omega
      · have := s1 _ e; omega
    have i0 : ∀ {σ : St} {H5 : Hp}, Same H4 H5 → σ[5]? = some (some v6) → EvP (tOp (rIxL K) (tVar 5) (tC (.int 0))) σ H5 (IsI n0) := fun {σ H5} e5 hσ => ev_ixL (Ps := (n0 :: rest).map IsI) (i := 0) (ev_var hσ ((LstP _).kp e5 h6)) ev_c rfl
    by_cases c1 : cnt L n0 > 1
    · refine q_asg (P := IsI n0) (ev_if (b := true) (et_test (ev_i (i := cnt L n0) (j := 1) (ev_dget (.inl hd4) (ev_v rfl) (i0 (Same.refl _) rfl) (getL_key gd.d k0)) ev_c (by rw [decide_eq_true c1]))) (fun _ => i0 (Same.refl _) rfl) (fun z => by cases z)) fun v7 H5 e5 (p7 : v7 = _) => ?_
      subst p7
      refine s_ret (P := IsI (R - tot I + n0)) (ev_i (i := R - tot I) (j := n0) (ev_i (i := R) (j := tot I) (ev_v rfl) (ev_call I trivial (ea1 (ev_var rfl ((BagP I).kp ((e13.trans e4).trans e5) h1)))) rfl) (ev_v rfl) rfl) fun v H6 e6 (p : v = _) => ?_
      subst p
      refine q _ H6 (((e13.trans e4).trans e5).trans e6) ⟨some (R - tot I + n0), .inr ⟨by show 2 ≤ cntS I R obs; omega, n0, rfl, ?_, fun k hk => ?_⟩, rfl⟩
      · rw [← tl]
        have := tail_one gd (Int.le_refl n0)
        omega
      · rw [← tl]
        have := tail_zero gd (k := k) fun q hq => by have := top q hq; omega
        omega
    · cases rest with
      | nil =>
        exfalso
        have : wsum (ind n0) L ≤ cnt L n0 := tail_le gd fun q hq _ => by
          have := (keys q.1).mpr ⟨q, hq, rfl⟩
          simpa using this
        have t0 : tot L = wsum (ind n0) L := by
          rw [wsum_tot]
          have all : ∀ q ∈ L, n0 ≤ q.1 := fun q hq => by
            have := (keys q.1).mpr ⟨q, hq, rfl⟩
            have : q.1 = n0 := by simpa using this
            omega
          refine Int.le_antisymm (wsum_mono (fun q hq => by have := (gd.g q hq).1; omega) fun q hq => ?_) (wsum_mono (fun q hq => by have := (gd.g q hq).1; omega) fun q hq => ?_)
          · show (1 : Int) ≤ if n0 ≤ q.1 then 1 else 0
            rw [if_pos (all q hq)]
            exact Int.le_refl _
          · show (if n0 ≤ q.1 then (1 : Int) else 0) ≤ 1
            split <;> omega
        omega
      | cons n1 rest =>
        have k1 := (keys n1).mp (List.mem_cons_of_mem _ List.mem_cons_self)
        have c2 := cp n1 k1
        have n01 : n0 ≠ n1 := fun e => by
          have nd : (n0 :: n1 :: rest).Nodup := np.nodup_iff.mpr gd.d
          rw [List.nodup_cons] at nd
          exact nd.1 (by rw [e]; exact List.mem_cons_self)
        have le1 := s1 n1 List.mem_cons_self
        obtain ⟨s3, _⟩ := List.pairwise_cons.mp s2
        have i1 : ∀ {σ : St} {H5 : Hp}, Same H4 H5 → σ[5]? = some (some v6) → EvP (tOp (rIxL K) (tVar 5) (tC (.int 1))) σ H5 (IsI n1) := fun {σ H5} e5 hσ => ev_ixL (Ps := (n0 :: n1 :: rest).map IsI) (i := 1) (ev_var hσ ((LstP _).kp e5 h6)) ev_c rfl
        refine q_asg (P := IsI n1) (ev_if (b := false) (et_test (ev_i (i := cnt L n0) (j := 1) (ev_dget (.inl hd4) (ev_v rfl) (i0 (Same.refl _) rfl) (getL_key gd.d k0)) ev_c (by rw [decide_eq_false c1]))) (fun z => by cases z) (fun _ => i1 (Same.refl _) rfl)) fun v7 H5 e5 (p7 : v7 = _) => ?_
        subst p7
        refine s_ret (P := IsI (R - tot I + n1)) (ev_i (i := R - tot I) (j := n1) (ev_i (i := R) (j := tot I) (ev_v rfl) (ev_call I trivial (ea1 (ev_var rfl ((BagP I).kp ((e13.trans e4).trans e5) h1)))) rfl) (ev_v rfl) rfl) fun v H6 e6 (p : v = _) => ?_
        subst p
        refine q _ H6 (((e13.trans e4).trans e5).trans e6) ⟨some (R - tot I + n1), .inr ⟨by show 2 ≤ cntS I R obs; omega, n1, rfl, ?_, fun k hk => ?_⟩, rfl⟩
        · rw [← tl]
          have := tail_two gd (k := n1) le1 (Int.le_refl n1) n01
          omega
        · rw [← tl]
          have := tail_le gd (n := n0) (k := k) fun q hq hkq => by
            rcases List.mem_cons.mp ((keys q.1).mpr ⟨q, hq, rfl⟩) with e | e
            · exact e
            · rcases List.mem_cons.mp e with e | e
              · omega
              · have := s3 _ e; omega
          omega
end
end K79
end
section
set_option linter.all false
set_option Elab.async false
/-! Bags of number lists; steps and what they leave; heaps that are drawn. Plain Lean. -/
namespace K79
def bagL (ns : List Int) : Bag := nf (ns.map fun n => (n, 1))
theorem cnt_ones (m : Int) : ∀ ns : List Int, cnt (ns.map fun n => (n, (1 : Int))) m = (ns.count m : Nat)
  | [] => rfl
  | n :: r => by
    rw [List.map_cons, cnt_cons, cnt_ones m r, List.count_cons]
    by_cases h : n = m
    · rw [if_pos h, if_pos (by simpa using h)]
      omega
    · rw [if_neg h, if_neg (by simpa using h)]
      omega
theorem bagL_cnt (ns : List Int) (m : Int) : cnt (bagL ns) m = (ns.count m : Nat) := by
  unfold bagL
  rw [nf_cnt' fun k => by rw [cnt_ones]; omega, cnt_ones]
theorem bagL_bag (ns : List Int) : IsBag (bagL ns) := nf_bag _
theorem bagL_tot (ns : List Int) : tot (bagL ns) = ns.length := by
  unfold bagL
  rw [nf_tot fun k => by rw [cnt_ones]; omega]
  unfold tot
  rw [List.map_map]
  induction ns with
  | nil => rfl
  | cons n r ih =>
    simp only [List.map_cons, List.sum_cons, List.length_cons, Function.comp] at *
    rw [ih]
    omega
theorem bagL_mem {ns : List Int} {q : Int × Int} (h : q ∈ bagL ns) : q.1 ∈ ns := by
  have c := mem_cnt_bag (bagL_bag ns) h
  have := (bagL_bag ns).2 q h
  rw [bagL_cnt] at c
  have : 0 < ns.count q.1 := by omega
  exact List.count_pos_iff.mp this
theorem bagL_of {ns zs : List Int} (hs : zs.Pairwise (· < ·)) (hm : ∀ k, k ∈ zs ↔ k ∈ ns) : zs.map (fun z => (z, ((ns.count z : Nat) : Int))) = bagL ns := by
  refine nf_eq ⟨?_, fun p hp => ?_⟩ fun m => ?_
  · rw [List.pairwise_map]
    exact hs
  · obtain ⟨z, hz, rfl⟩ := List.mem_map.mp hp
    have := List.count_pos_iff.mpr ((hm z).mp hz)
    show (1 : Int) ≤ (ns.count z : Nat)
    omega
  · rw [cnt_ones]
    have key : ∀ l : List Int, l.Pairwise (· < ·) → cnt (l.map fun z => (z, ((ns.count z : Nat) : Int))) m = if m ∈ l then ((ns.count m : Nat) : Int) else 0 := by
      intro l
      induction l with
      | nil => intro _; rfl
      | cons a l ih =>
        intro h
        obtain ⟨h1, h2⟩ := List.pairwise_cons.mp h
        rw [List.map_cons, cnt_cons, ih h2]
        by_cases e : a = m
        · subst e
          have : a ∉ l := fun z => by have := h1 a z; omega
          rw [if_pos rfl, if_neg this, if_pos List.mem_cons_self]
          simp
        · rw [if_neg e]
          by_cases z : m ∈ l
          · rw [if_pos z, if_pos (List.mem_cons_of_mem _ z)]
            omega
          · rw [if_neg z, if_neg (fun q => by rcases List.mem_cons.mp q with q | q; exact e q.symm; exact z q)]
            rfl
    rw [key zs hs]
    by_cases z : m ∈ zs
    · have := List.count_pos_iff.mpr ((hm m).mp z)
      rw [if_pos z, if_pos (by omega)]
    · have : ns.count m = 0 := List.count_eq_zero.mpr fun q => z ((hm m).mpr q)
      rw [if_neg z, this]
      rfl
theorem window_len {B : Bag} {lo : Int} {k : Nat} (h : IsBag B) (hw : ∀ q ∈ B, lo ≤ q.1 ∧ q.1 < lo + k) : B.length ≤ k := by
  have := pigeon k (M := B.map fun q => (q.1 - lo, q.2)) (by
    have d := h.dist
    unfold Dist at d ⊢
    rw [List.map_map, List.nodup_iff_pairwise_ne, List.pairwise_map] at *
    exact d.imp fun ne e => ne (by simp only [Function.comp] at e; omega)) fun q hq => by
    obtain ⟨p, hp, rfl⟩ := List.mem_map.mp hq
    have := hw p hp
    show 0 ≤ p.1 - lo ∧ p.1 - lo < k
    omega
  rwa [List.length_map] at this
/-! ### steps -/
def insOf (ss : List (Option Int)) : List Int := ss.filterMap id
structure Left (ss : List (Option Int)) (p : List Int) : Prop where
  c : ∀ m, p.count m ≤ (insOf ss).count m
  l : (insOf ss).length ≤ p.length + (ss.length - (insOf ss).length)
  s : p.length ≤ (insOf ss).length
theorem insOf_len (ss : List (Option Int)) : (insOf ss).length ≤ ss.length := List.length_filterMap_le _ _
theorem Left.nil : Left [] [] := ⟨fun m => Nat.le_refl _, Nat.le_refl _, Nat.le_refl _⟩
theorem insOf_snoc (ss : List (Option Int)) (o : Option Int) : insOf (ss ++ [o]) = insOf ss ++ o.toList := by
  unfold insOf
  rw [List.filterMap_append]
  cases o <;> rfl
theorem Left.ins {ss : List (Option Int)} {p p' : List Int} {n : Int} (h : Left ss p) (hp : p'.Perm (p ++ [n])) : Left (ss ++ [some n]) p' := by
  have e := insOf_snoc ss (some n)
  have e : insOf (ss ++ [some n]) = insOf ss ++ [n] := e
  refine ⟨fun m => ?_, ?_, by rw [e, hp.length_eq, List.length_append, List.length_append]; have := h.s; simp only [List.length_cons, List.length_nil]; omega⟩
  · rw [hp.count_eq, e, List.count_append, List.count_append]
    have := h.c m
    omega
  · rw [e, hp.length_eq]
    have := h.l
    have := insOf_len ss
    simp only [List.length_append, List.length_cons, List.length_nil]
    omega
theorem Left.rem {ss : List (Option Int)} {p : List Int} (h : Left ss p) : Left (ss ++ [none]) (p.drop 1) := by
  have e : insOf (ss ++ [none]) = insOf ss := by rw [insOf_snoc]; simp
  refine ⟨fun m => ?_, ?_, by rw [e, List.length_drop]; have := h.s; omega⟩
  · rw [e]
    exact Nat.le_trans ((List.drop_sublist 1 p).count_le m) (h.c m)
  · rw [e, List.length_drop]
    have := h.l
    have := insOf_len ss
    simp only [List.length_append, List.length_cons, List.length_nil]
    omega
/-- steps that are drawn -/
structure StepsOk (n : Nat) (ss : List (Option Int)) : Prop where
  n : ss.length = n
  b : ∃ b : Int, ∀ m ∈ insOf ss, b ≤ m ∧ m < b + 8
/-- heaps that are drawn -/
structure HeapOk (base need : Int) (B : Bag) : Prop where
  b : IsBag B
  n : need ≤ tot B
  l : B.length ≤ 14
  a : ∀ q ∈ B, base - 3 ≤ q.1
theorem heapOk {base need g : Int} {ns : List Int} {i j : Int} (hg : 1 ≤ g) (hn : need ≤ ns.length) (hw : ∀ n ∈ ns, base - 2 ≤ n ∧ n < base + 10) :
    HeapOk base need ((if i = 1 then [(base - 3, g)] else []) ++ bagL ns ++ (if j = 1 then [(base + 40, g)] else [])) := by
  have hb := bagL_bag ns
  have hq : ∀ q ∈ bagL ns, base - 2 ≤ q.1 ∧ q.1 < base + 10 := fun q h => hw _ (bagL_mem h)
  have hl : (bagL ns).length ≤ 12 := window_len (lo := base - 2) hb fun q h => by have := hq q h; omega
  have ht := bagL_tot ns
  refine ⟨⟨?_, fun p hp => ?_⟩, ?_, ?_, fun q h => ?_⟩
  · rw [List.pairwise_append, List.pairwise_append]
    refine ⟨⟨by split <;> simp, hb.1, fun p hp q h => ?_⟩, by split <;> simp, fun p hp q h => ?_⟩
    · have := hq q h
      split at hp
      · have hp : p = (base - 3, g) := by simpa using hp
        rw [hp]
        show base - 3 < q.1
        omega
      · cases hp
    · split at h
      · have h : q = (base + 40, g) := by simpa using h
        rw [h]
        show p.1 < base + 40
        rcases List.mem_append.mp hp with hp | hp
        · split at hp
          · have hp : p = (base - 3, g) := by simpa using hp
            rw [hp]
            show base - 3 < base + 40
            omega
          · cases hp
        · have := hq p hp
          omega
      · cases h
  · rcases List.mem_append.mp hp with hp | hp
    · rcases List.mem_append.mp hp with hp | hp
      · split at hp
        · have hp : p = (base - 3, g) := by simpa using hp
          rw [hp]
          exact hg
        · cases hp
      · exact hb.2 p hp
    · split at hp
      · have hp : p = (base + 40, g) := by simpa using hp
        rw [hp]
        exact hg
      · cases hp
  · rw [tot_append, tot_append, ht]
    have t1 : 0 ≤ tot (if i = 1 then [(base - 3, g)] else []) := by split <;> simp [tot]; omega
    have t2 : 0 ≤ tot (if j = 1 then [(base + 40, g)] else []) := by split <;> simp [tot]; omega
    omega
  · rw [List.length_append, List.length_append]
    have t1 : (if i = 1 then [(base - 3, g)] else []).length ≤ 1 := by split <;> simp
    have t2 : (if j = 1 then [(base + 40, g)] else []).length ≤ 1 := by split <;> simp
    omega
  · rcases List.mem_append.mp h with h | h
    · rcases List.mem_append.mp h with h | h
      · split at h
        · have h : q = (base - 3, g) := by simpa using h
          rw [h]
          exact Int.le_refl _
        · cases h
      · have := hq q h
        omega
    · split at h
      · have h : q = (base + 40, g) := by simpa using h
        rw [h]
        show base - 3 ≤ base + 40
        omega
      · cases h
end K79
end
section
set_option linter.all false
set_option Elab.async false
/-! What the steps leave is an effect. Plain Lean. -/
namespace K79
theorem insOf_filter : ∀ ss : List (Option Int), (ss.filter Option.isSome).map (fun o => o.getD 0) = insOf ss
  | [] => rfl
  | none :: r => insOf_filter r
  | some n :: r => by
    have := insOf_filter r
    unfold insOf at *
    simp only [List.filter_cons, Option.isSome_some, if_true, List.map_cons, Option.getD_some, List.filterMap_cons, id]
    rw [this]
/-- what _law_triple's three are worth -/
structure TripOk (I : Bag) (R : Int) (S : Bag) : Prop where
  i : IsBag I
  s : IsBag S
  has : Has I S
  tot : tot I - tot S ≤ R
  r : 0 ≤ R
  r40 : R ≤ 40
  t40 : K79.tot I ≤ 40
  l : I.length ≤ 8
  ls : S.length ≤ 8
  b : ∃ b : Int, ∀ q ∈ I, b ≤ q.1 ∧ q.1 < b + 8
theorem tripOk {n : Nat} {ss : List (Option Int)} {p : List Int} (h : StepsOk n ss) (hn : n ≤ 40) (hp : Left ss p) : TripOk (bagL (insOf ss)) ((ss.length : Int) - ((insOf ss).length : Int)) (bagL p) := by
  obtain ⟨b, hb⟩ := h.b
  have hl := insOf_len ss
  have e := h.n
  have hw : ∀ q ∈ bagL (insOf ss), b ≤ q.1 ∧ q.1 < b + 8 := fun q hq => hb _ (bagL_mem hq)
  have hi : Has (bagL (insOf ss)) (bagL p) := fun m => by
    rw [bagL_cnt, bagL_cnt]
    have := hp.c m
    omega
  refine ⟨bagL_bag _, bagL_bag _, hi, ?_, by omega, by omega, by rw [bagL_tot]; omega, window_len (lo := b) (bagL_bag _) fun q hq => by have := hw q hq; omega, ?_, b, hw⟩
  · rw [bagL_tot, bagL_tot]
    have := hp.l
    omega
  · refine window_len (lo := b) (bagL_bag _) fun q hq => ?_
    obtain ⟨x, hx, ex⟩ := has_mem (bagL_bag _) hi q hq
    have := hw x hx
    omega
end K79
end
section
set_option linter.all false
set_option Elab.async false
/-! What applies; what fits; the law's own count. Plain Lean. -/
namespace K79
/-- the heap behind an effect, level by level -/
theorem apply_lev {I S b : Bag} {R : Int} (hS : IsBag S) (hb : IsBag b) (h : Has I S) (hR : 0 ≤ R) (x : Int) : lev (addB S (dropB (addB b (subB I S)) R)) x = max (lev S x) (lev b x + lev I x - R) := by
  rw [addB_lev hS (dropB_bag _ (addB_bag _ _)), dropB_lev x (addB_bag _ _) hR, addB_lev hb (subB_bag _ _), subB_lev h]
  omega
theorem apply_tot {I S b : Bag} {R : Int} (hS : IsBag S) (hb : IsBag b) (h : Has I S) (hR : 0 ≤ R) (hn : R - tot I + tot S ≤ tot b) : tot (addB S (dropB (addB b (subB I S)) R)) = tot b + tot I - R := by
  rw [addB_tot hS (dropB_bag _ (addB_bag _ _)), dropB_tot (addB_bag _ _) hR, addB_tot hb (subB_bag _ _), subB_tot h]
  omega
/-! ### places -/
theorem num_le_iff {x : Int} : ∀ {I : Bag}, I.Pairwise (fun p q => p.1 < q.1) → ∀ i, i < I.length → (numI I i ≤ x ↔ i < (I.filter fun e => decide (e.1 ≤ x)).length)
  | [], _, i, hi => by simp at hi
  | e :: I, hp, i, hi => by
    obtain ⟨h1, h2⟩ := List.pairwise_cons.mp hp
    have hall : ∀ j, j < (e :: I).length → e.1 ≤ numI (e :: I) j := fun j hj => by
      cases j with
      | zero => exact Int.le_refl _
      | succ j =>
        have hj' : j < I.length := by simpa using hj
        have := h1 _ (List.getElem_mem hj')
        show e.1 ≤ ((e :: I).getD (j + 1) (0, 0)).1
        rw [List.getD_cons_succ, List.getD_eq_getElem?_getD, List.getElem?_eq_getElem hj']
        show e.1 ≤ (I[j]).1
        omega
    by_cases z : e.1 ≤ x
    · rw [List.filter_cons_of_pos (by simpa using z), List.length_cons]
      cases i with
      | zero => exact ⟨fun _ => by omega, fun _ => z⟩
      | succ i =>
        have ih := num_le_iff (x := x) h2 i (by simpa using hi)
        show ((e :: I).getD (i + 1) (0, 0)).1 ≤ x ↔ _
        rw [List.getD_cons_succ]
        unfold numI at ih
        omega
    · have e0 : ((e :: I).filter fun e => decide (e.1 ≤ x)) = [] := filt_sorted hp fun f hf => by
        rcases List.mem_cons.mp hf with q | q
        · rw [q]; omega
        · have := h1 f q; omega
      rw [e0]
      have := hall i hi
      simp
      omega
theorem plc_iff {I : Bag} (hI : IsBag I) {i : Nat} (hi : i < I.length) {x : Int} : plc I x = i ↔ (numI I i ≤ x ∧ (i + 1 < I.length → x < numI I (i + 1))) := by
  have h1 := num_le_iff (x := x) hI.1 i hi
  have hk := List.length_filter_le (fun e : Int × Int => decide (e.1 ≤ x)) I
  unfold plc
  constructor
  · intro h
    refine ⟨h1.mpr (by omega), fun h2 => ?_⟩
    have := num_le_iff (x := x) hI.1 (i + 1) h2
    omega
  · rintro ⟨a, b⟩
    have := h1.mp a
    by_cases h2 : i + 1 < I.length
    · have h3 := num_le_iff (x := x) hI.1 (i + 1) h2
      have := b h2
      omega
    · omega
theorem plc_num {I : Bag} (hI : IsBag I) {i : Nat} (hi : i < I.length) : plc I (numI I i) = i := (plc_iff hI hi).mpr ⟨Int.le_refl _, fun h => by
  have a : ∀ j, j < I.length → I[j]? = some (I.getD j (0, 0)) := fun j hj => by rw [List.getD_eq_getElem?_getD, List.getElem?_eq_getElem hj] <;> rfl
  have := List.pairwise_iff_getElem.mp hI.1 i (i + 1) hi h (by omega)
  unfold numI
  rw [List.getD_eq_getElem?_getD, List.getD_eq_getElem?_getD, List.getElem?_eq_getElem hi, List.getElem?_eq_getElem h]
  exact this⟩
theorem mem_num {I : Bag} {q : Int × Int} (h : q ∈ I) : ∃ i, i < I.length ∧ numI I i = q.1 := by
  obtain ⟨i, hi, e⟩ := List.mem_iff_getElem.mp h
  refine ⟨i, hi, ?_⟩
  unfold numI
  rw [List.getD_eq_getElem?_getD, List.getElem?_eq_getElem hi]
  show (I[i]).1 = q.1
  rw [e]
/-! ### what fits -/
def nextI (I : Bag) (i : Nat) : Option Int := if i + 1 < I.length then some (numI I (i + 1)) else none
def below (fo : Option Int) (p : Int) : Prop := ∀ f, fo = some f → p < f
def FitsP (I : Bag) (R : Int) (obs : List (Bag × Bag)) (n : Int) (fo : Option Int) (u : Int) : Prop :=
  ∀ o ∈ obs, ∀ p, (p = n ∨ (∃ q ∈ o.1, q.1 = p) ∨ ∃ q ∈ o.2, q.1 = p) → n ≤ p → below fo p → lev o.2 p = max (lev o.1 p + (lev I p - R)) u
theorem below_next {I : Bag} {i : Nat} {p : Int} : below (nextI I i) p ↔ (i + 1 < I.length → p < numI I (i + 1)) := by
  unfold below nextI
  by_cases h : i + 1 < I.length
  · rw [if_pos h]
    exact ⟨fun k _ => k _ rfl, fun k f e => by cases e; exact k h⟩
  · rw [if_neg h]
    exact ⟨fun _ z => absurd z h, fun _ f e => by cases e⟩
theorem fits_sol {I : Bag} {R : Int} {obs : List (Bag × Bag)} (F : Feas I R obs) {c : List Int} (hc : Chn (cts I) 0 c) :
    ((∀ i, i < I.length → FitsP I R obs (numI I i) (nextI I i) (c.getD i 0)) ∧ tot I - R ≤ lastD 0 c) ↔ Sol I R obs c := by
  have hlen : c.length = I.length := by
    have := hc.len
    unfold cts at this
    rwa [List.length_map] at this
  constructor
  · rintro ⟨hf, hl⟩
    refine ⟨hc, hl, fun o ho => agr_of_pts F.r F.i hlen fun x hx => ?_⟩
    rw [lvl_plc F.i.1 hlen]
    by_cases z : plc I x < 0
    · rw [if_pos z]
      obtain ⟨s0, h0⟩ := F.ex
      have := h0.agr o ho x
      rw [lvl_plc F.i.1 (sol_len h0), if_pos z] at this
      exact this
    · rw [if_neg z]
      have hi : (plc I x).toNat < I.length := by have := plc_lt I x; omega
      obtain ⟨a, b⟩ := (plc_iff F.i hi (x := x)).mp (by omega)
      have pt : x = numI I (plc I x).toNat ∨ (∃ q ∈ o.1, q.1 = x) ∨ ∃ q ∈ o.2, q.1 = x := by
        rcases hx with h | h | ⟨q, hq, e⟩
        · exact .inr (.inl h)
        · exact .inr (.inr h)
        · obtain ⟨j, hj, ej⟩ := mem_num hq
          have pj := plc_num F.i hj
          rw [ej, e] at pj
          left
          rw [pj, Int.toNat_natCast, ej, e]
      have := hf _ hi o ho x pt a (below_next.mpr b)
      omega
  · intro h
    refine ⟨fun i hi o ho p hp h1 h2 => ?_, h.last⟩
    have pi := (plc_iff F.i hi (x := p)).mpr ⟨h1, below_next.mp h2⟩
    have := h.agr o ho p
    rw [lvl_plc F.i.1 hlen, if_neg (by omega), pi, Int.toNat_natCast] at this
    omega
/-! ### the law's count -/
def qsOf (Q : Nat → Int → Bool) : Bag → Nat → List (Int × (Int → Bool))
  | [], _ => []
  | e :: I, k => (e.2, Q k) :: qsOf Q I (k + 1)
theorem qsOf_at {Q : Nat → Int → Bool} : ∀ {I : Bag} {k i : Nat}, i < I.length → (qsOf Q I k)[i]? = some ((I.getD i (0, 0)).2, Q (k + i))
  | e :: I, k, 0, _ => rfl
  | e :: I, k, i + 1, h => by
    show (qsOf Q I (k + 1))[i]? = _
    rw [qsOf_at (by simpa using h), List.getD_cons_succ, show k + 1 + i = k + (i + 1) by omega]
theorem qsOf_len {Q : Nat → Int → Bool} : ∀ (I : Bag) (k : Nat), (qsOf Q I k).length = I.length
  | [], _ => rfl
  | e :: I, k => by simp only [qsOf, List.length_cons]; rw [qsOf_len]
theorem qsOf_cts {Q : Nat → Int → Bool} : ∀ (I : Bag) (k : Nat), (qsOf Q I k).map (·.1) = cts I
  | [], _ => rfl
  | e :: I, k => by
    show e.2 :: (qsOf Q I (k + 1)).map (·.1) = e.2 :: cts I
    rw [qsOf_cts]
theorem allQ_qs {Q : Nat → Int → Bool} : ∀ {I : Bag} {k : Nat} {c : List Int}, c.length = I.length → (allQ (qsOf Q I k) c = true ↔ ∀ i, i < I.length → Q (k + i) (c.getD i 0) = true)
  | [], k, [], _ => ⟨fun _ i hi => absurd hi (by simp), fun _ => rfl⟩
  | e :: I, k, u :: c, h => by
    show (Q k u && allQ (qsOf Q I (k + 1)) c) = true ↔ _
    rw [Bool.and_eq_true, allQ_qs (by simpa using h)]
    constructor
    · rintro ⟨h0, hr⟩ i hi
      cases i with
      | zero => exact h0
      | succ i =>
        have := hr i (by simpa using hi)
        rw [List.getD_cons_succ, show k + (i + 1) = k + 1 + i by omega]
        exact this
    · intro hr
      refine ⟨hr 0 (by simp), fun i hi => ?_⟩
      have := hr (i + 1) (by simpa using hi)
      rw [List.getD_cons_succ, show k + (i + 1) = k + 1 + i by omega] at this
      exact this
  | [], _, _ :: _, h => by simp at h
  | _ :: _, _, [], h => by simp at h
open Classical in
noncomputable def fitQ (I : Bag) (R : Int) (obs : List (Bag × Bag)) (i : Nat) (u : Int) : Bool := decide (FitsP I R obs (numI I i) (nextI I i) u)
theorem numW_cnt {I : Bag} {R : Int} {obs : List (Bag × Bag)} (F : Feas I R obs) : numW (qsOf (fitQ I R obs) I 0) (ind (tot I - R)) 0 = cntS I R obs := by
  classical
  rw [numW_csum, qsOf_cts]
  unfold cntS solF
  refine csum_congr fun c hc => ?_
  have hl : c.length = I.length := by
    have := hc.len
    unfold cts at this
    rwa [List.length_map] at this
  have key := fits_sol F hc
  have e : allQ (qsOf (fitQ I R obs) I 0) c = true ↔ ∀ i, i < I.length → FitsP I R obs (numI I i) (nextI I i) (c.getD i 0) := by
    rw [allQ_qs hl]
    refine forall_congr' fun i => forall_congr' fun hi => ?_
    rw [Nat.zero_add]
    unfold fitQ
    rw [decide_eq_true_iff]
  by_cases z : Sol I R obs c
  · obtain ⟨a, b⟩ := key.mpr z
    rw [if_pos z, if_pos (e.mpr a)]
    show (if _ ≤ _ then (1 : Int) else 0) = 1
    rw [if_pos b]
  · rw [if_neg z]
    by_cases a : allQ (qsOf (fitQ I R obs) I 0) c = true
    · rw [if_pos a]
      show (if _ ≤ _ then (1 : Int) else 0) = 0
      rw [if_neg fun b => z (key.mp ⟨e.mp a, b⟩)]
    · rw [if_neg a]
theorem sum_filter (p : Int × Int → Bool) : ∀ W : Bag, ((W.filter p).map (·.2)).sum = (W.map fun e => if p e = true then e.2 else 0).sum
  | [] => rfl
  | e :: r => by
    by_cases h : p e = true
    · rw [List.filter_cons_of_pos h, List.map_cons, List.map_cons, List.sum_cons, List.sum_cons, sum_filter p r, if_pos h]
    · rw [List.filter_cons_of_neg h, List.map_cons, List.sum_cons, sum_filter p r, if_neg h]
      omega
theorem sum_ind (k : Int) : ∀ W : Bag, ((W.filter fun e => decide (e.1 ≥ k)).map (·.2)).sum = wsum (ind k) W
  | [] => rfl
  | e :: r => by
    show _ = (if k ≤ e.1 then (1 : Int) else 0) * e.2 + wsum (ind k) r
    by_cases h : k ≤ e.1
    · rw [List.filter_cons_of_pos (by simpa using h), List.map_cons, List.sum_cons, sum_ind k r, if_pos h]
      omega
    · rw [List.filter_cons_of_neg (by simpa using h), sum_ind k r, if_neg h]
      omega
/-- a dict of counts at levels below top -/
structure Wok (top : Int) (M : Bag) : Prop where
  d : Dist M
  g : ∀ q ∈ M, 0 ≤ q.1 ∧ q.1 < top
theorem Wok.put {top v : Int} {M : Bag} (h : Wok top M) (h0 : 0 ≤ top) : Wok (top + 1) (putL M top v) ∧ ∀ f, wsum f (putL M top v) = wsum f M + f top * v := by
  have gn : getL M top = none := by
    cases e : getL M top with
    | none => rfl
    | some z =>
      exfalso
      have key : ∀ L : Bag, getL L top = some z → ∃ q ∈ L, q.1 = top := by
        intro L
        induction L with
        | nil => intro h; cases h
        | cons a r ih =>
          intro h
          unfold getL at h
          by_cases q : a.1 = top
          · exact ⟨a, List.mem_cons_self, q⟩
          · rw [if_neg q] at h
            obtain ⟨x, hx, ex⟩ := ih h
            exact ⟨x, List.mem_cons_of_mem _ hx, ex⟩
      obtain ⟨q, hq, eq⟩ := key M e
      have := (h.g q hq).2
      omega
  refine ⟨⟨putL_dist h.d, fun q hq => ?_⟩, fun f => ?_⟩
  · rcases putL_mem hq with e | e
    · omega
    · have := h.g q e
      omega
  · rw [putL_wsum f h.d, gn]
    show _ + f top * (v - 0) = _
    rw [Int.sub_zero]
theorem Wok.len {b : Nat} {M : Bag} (h : Wok (b : Int) M) : M.length ≤ b := pigeon b h.d h.g
end K79
end
section
set_option linter.all false
set_option Elab.async false
/-! The ends, the own survivors, more observations, deeper heaps. Plain Lean. -/
namespace K79
/-- what a solution does to a heap that was observed -/
theorem sol_apply {I : Bag} {R : Int} {obs : List (Bag × Bag)} (F : Feas I R obs) {c : List Int} (h : Sol I R obs c) {o : Bag × Bag} (ho : o ∈ obs) :
    R - tot I + tot (bagOf I c) ≤ tot o.1 ∧ addB (bagOf I c) (dropB (addB o.1 (subB I (bagOf I c))) R) = o.2 := by
  obtain ⟨o1, o2, o3⟩ := F.ok o ho
  have hb := bagOf_bag I c
  have hs := bagOf_has F.i h.chn
  constructor
  · obtain ⟨M, hM⟩ := exists_top (o.1 ++ o.2 ++ I)
    have := h.agr o ho M
    rw [lvl_top h.chn fun e he => hM e (List.mem_append_right _ he), lev_all fun p hp => hM p (List.mem_append_left _ (List.mem_append_right _ hp)), lev_all fun p hp => hM p (List.mem_append_left _ (List.mem_append_left _ hp)), lev_all fun p hp => hM p (List.mem_append_right _ hp)] at this
    rw [bagOf_tot F.i h.chn]
    omega
  · refine (addB_bag _ _).eq_lev o2 fun x => ?_
    rw [apply_lev hb o1 hs F.r, bagOf_lev F.i h.chn]
    exact (h.agr o ho x).symm
/-- the own survivors -/
structure Own (I : Bag) (R : Int) (S : Bag) : Prop where
  i : IsBag I
  s : IsBag S
  h : Has I S
  t : tot I - tot S ≤ R
  r : 0 ≤ R
theorem Own.sol {I S : Bag} {R : Int} (w : Own I R S) {obs : List (Bag × Bag)} (ho : ∀ o ∈ obs, IsBag o.1 ∧ o.2 = addB S (dropB (addB o.1 (subB I S)) R)) : Sol I R obs (sl I S) := by
  refine ⟨sl_chain w.i w.s w.h, by rw [sl_last w.i w.s w.h]; have := w.t; omega, fun o h x => ?_⟩
  obtain ⟨h1, h2⟩ := ho o h
  rw [h2, apply_lev w.s h1 w.h w.r, sl_level w.i w.s w.h]
theorem Own.feas {I S : Bag} {R : Int} (w : Own I R S) {obs : List (Bag × Bag)} (ho : ∀ o ∈ obs, IsBag o.1 ∧ R - tot I + tot S ≤ tot o.1 ∧ o.2 = addB S (dropB (addB o.1 (subB I S)) R)) : Feas I R obs := by
  refine ⟨w.i, w.r, fun o h => ?_, _, w.sol fun o h => ⟨(ho o h).1, (ho o h).2.2⟩⟩
  obtain ⟨h1, h2, h3⟩ := ho o h
  refine ⟨h1, by rw [h3]; exact addB_bag _ _, ?_⟩
  rw [h3, apply_tot w.s h1 w.h w.r h2]
theorem bagOf_inj {I : Bag} {a b : List Int} (hI : IsBag I) (ha : Chn (cts I) 0 a) (hb : Chn (cts I) 0 b) : bagOf I a = bagOf I b ↔ a = b := by
  constructor
  · intro h
    have la : a.length = I.length := by have := ha.len; unfold cts at this; rwa [List.length_map] at this
    have lb : b.length = I.length := by have := hb.len; unfold cts at this; rwa [List.length_map] at this
    refine getD_ext (la.trans lb.symm) fun i hi => ?_
    rw [la] at hi
    have e : lvl I a 0 (numI I i) = lvl I b 0 (numI I i) := by rw [← bagOf_lev hI ha, ← bagOf_lev hI hb, h]
    rw [lvl_plc hI.1 la, lvl_plc hI.1 lb, plc_num hI hi, if_neg (by omega), if_neg (by omega), Int.toNat_natCast] at e
    exact e
  · rintro rfl
    rfl
theorem cnt_ge_one {I : Bag} {R : Int} {obs : List (Bag × Bag)} (F : Feas I R obs) : 1 ≤ cntS I R obs := by
  obtain ⟨c, hc⟩ := F.ex
  exact one_le_sol hc (f := fun _ => 1) fun _ => by decide
theorem Ext.same {I : Bag} {R : Int} {obs : List (Bag × Bag)} {a : List Int} (h : Ext I R obs a a) {c : List Int} (hc : Sol I R obs c) : c = a := by
  refine getD_ext (by rw [sol_len hc, sol_len h.la]) fun i hi => ?_
  rw [sol_len hc] at hi
  have := h.lo c hc i hi
  have := h.hi c hc i hi
  omega
theorem cnt_one_iff {I : Bag} {R : Int} {obs : List (Bag × Bag)} (F : Feas I R obs) {a b : List Int} (h : Ext I R obs a b) : cntS I R obs = 1 ↔ bagOf I a = bagOf I b := by
  rw [bagOf_inj F.i h.la.chn h.lb.chn]
  have g1 := cnt_ge_one F
  constructor
  · intro e
    refine Classical.byContradiction fun ne => ?_
    have := two_le_sol h.la h.lb ne (f := fun _ => 1) (fun _ => by decide) (by decide) (by decide)
    have : 2 ≤ cntS I R obs := this
    omega
  · intro e
    subst e
    have : cntS I R obs ≤ 1 := sol_le_one h.la (f := fun _ => 1) (fun s hs _ => h.same hs) (by decide)
    omega
theorem ends_lev {I : Bag} {R : Int} {obs : List (Bag × Bag)} (hI : IsBag I) {a b c : List Int} (h : Ext I R obs a b) (hc : Sol I R obs c) (x : Int) : lev (bagOf I a) x ≤ lev (bagOf I c) x ∧ lev (bagOf I c) x ≤ lev (bagOf I b) x := by
  rw [bagOf_lev hI h.la.chn, bagOf_lev hI h.lb.chn, bagOf_lev hI hc.chn, lvl_plc hI.1 (sol_len h.la), lvl_plc hI.1 (sol_len h.lb), lvl_plc hI.1 (sol_len hc)]
  by_cases z : plc I x < 0
  · rw [if_pos z, if_pos z, if_pos z]
    omega
  · rw [if_neg z, if_neg z, if_neg z]
    have hi : (plc I x).toNat < I.length := by have := plc_lt I x; omega
    exact ⟨h.lo c hc _ hi, h.hi c hc _ hi⟩
theorem sol_more {I : Bag} {R : Int} {obs : List (Bag × Bag)} {o : Bag × Bag} {c : List Int} (h : Sol I R (obs ++ [o]) c) : Sol I R obs c := ⟨h.chn, h.last, fun o' h' => h.agr o' (List.mem_append_left _ h')⟩
theorem cnt_more {I : Bag} {R : Int} {obs : List (Bag × Bag)} {o : Bag × Bag} : cntS I R (obs ++ [o]) ≤ cntS I R obs := solF_le (fun c h => sol_more h) fun _ => by decide
/-- the greatest is the own one, where the question's size is small -/
theorem great_own {I : Bag} {R : Int} {obs : List (Bag × Bag)} {a b c : List Int} (h : Ext I R obs a b) (hc : Sol I R obs c) {z : Int} (hz : z < lastD 0 c) (ht : ∀ k, z < k → tailS I R obs k ≤ 1) : b = c := by
  refine Classical.byContradiction fun ne => ?_
  have hl : lastD 0 c ≤ lastD 0 b := by
    rw [lastD_get, lastD_get, sol_len hc, sol_len h.lb]
    by_cases e : I.length = 0
    · rw [if_pos e, if_pos e]
      exact Int.le_refl _
    · rw [if_neg e, if_neg e]
      exact h.hi c hc _ (by omega)
  have t := ht (lastD 0 c) hz
  have := two_le_sol h.lb hc ne (f := fun u => if lastD 0 c ≤ u then 1 else 0) (fun u => by show (0 : Int) ≤ if _ then 1 else 0; split <;> decide) (by show (1 : Int) ≤ if _ then 1 else 0; rw [if_pos hl]; decide) (by show (1 : Int) ≤ if _ then 1 else 0; rw [if_pos (Int.le_refl _)]; decide)
  have : 2 ≤ tailS I R obs (lastD 0 c) := this
  omega
/-- levels near the top -/
theorem chn_above : ∀ {I : Bag} {p : Int} {c : List Int}, IsBag I → Chn (cts I) p c → ∀ i, i < I.length → lastD p c ≤ c.getD i 0 + (tot I - lev I (numI I i))
  | [], _, _, _, _, i, hi => by simp at hi
  | e :: I, p, _, hI, ⟨u, r, rfl, h1, h2, h3⟩, i, hi => by
    have h2 : u ≤ p + e.2 := h2
    have top : lastD u r ≤ u + tot I := by
      have gen : ∀ {I : Bag} {p : Int} {c : List Int}, Chn (cts I) p c → lastD p c ≤ p + tot I := by
        intro I
        induction I with
        | nil =>
          intro p c h
          rw [show c = [] from h, tot_nil]
          show p ≤ p + 0
          omega
        | cons e I ih =>
          rintro p c ⟨u, r, rfl, k1, k2, k3⟩
          have := ih k3
          have k2 : u ≤ p + e.2 := k2
          rw [tot_cons]
          show lastD u r ≤ _
          omega
      exact gen h3
    cases i with
    | zero =>
      simp only [List.getD_cons_zero, numI]
      show lastD u r ≤ _
      rw [tot_cons, lev_cons, if_pos (Int.le_refl _), lev_none (b := I) fun q hq => hI.above q hq]
      omega
    | succ i =>
      have hi' : i < I.length := by simpa using hi
      have ih := chn_above hI.tail h3 i hi'
      simp only [List.getD_cons_succ, numI] at ih ⊢
      have ab : e.1 < (I.getD i (0, 0)).1 := by
        rw [List.getD_eq_getElem?_getD, List.getElem?_eq_getElem hi']
        exact hI.above _ (List.getElem_mem hi')
      show lastD u r ≤ _
      rw [tot_cons, lev_cons, if_pos (by omega)]
      omega
/-- an observation that is high above all says it all -/
theorem uniq_high {I S : Bag} {R : Int} (w : Own I R S) {obs : List (Bag × Bag)} {o : Bag × Bag} (ho : o ∈ obs) (hz : ∀ q ∈ I, lev o.1 q.1 = 0) (hO : Sol I R obs (sl I S)) {c : List Int} (hc : Sol I R obs c) : c = sl I S := by
  have lc := sol_len hc
  have ls := sol_len hO
  have eq : ∀ i, i < I.length → max (c.getD i 0) (lev I (numI I i) - R) = max ((sl I S).getD i 0) (lev I (numI I i) - R) := fun i hi => by
    have a := hc.agr o ho (numI I i)
    have b := hO.agr o ho (numI I i)
    have z : lev o.1 (numI I i) = 0 := by
      have := hz _ (List.getElem_mem hi)
      unfold numI
      rw [List.getD_eq_getElem?_getD, List.getElem?_eq_getElem hi]
      exact this
    rw [lvl_plc w.i.1 lc, plc_num w.i hi, if_neg (by omega), Int.toNat_natCast] at a
    rw [lvl_plc w.i.1 ls, plc_num w.i hi, if_neg (by omega), Int.toNat_natCast] at b
    omega
  refine getD_ext (lc.trans ls.symm) fun i hi => ?_
  rw [lc] at hi
  have e := eq i hi
  have a := chn_above w.i hc.chn i hi
  have b := chn_above w.i hO.chn i hi
  have := hc.last
  have := hO.last
  omega
/-! ### deeper heaps -/
def deepO (n more : Int) (o : Bag × Bag) : Bag × Bag := ((n, more) :: o.1, o.2)
theorem deep_agr {I : Bag} {R n more : Int} {o : Bag × Bag} {f : Int → Int} (hm : 1 ≤ more) (hR : 0 ≤ R) (h1 : ∀ q ∈ o.1, n < q.1) (hI : ∀ q ∈ I, n < q.1) (h2 : ∀ q ∈ o.2, n < q.1) (hf : ∀ x, x ≤ n → f x = 0) : Agr I (R + more) (deepO n more o) f ↔ Agr I R o f := by
  have key : ∀ x, n ≤ x → lev (deepO n more o).1 x + lev I x - (R + more) = lev o.1 x + lev I x - R := fun x hx => by
    show lev ((n, more) :: o.1) x + _ - _ = _
    rw [lev_cons, if_pos hx]
    omega
  have low : ∀ x, x < n → lev o.2 x = 0 ∧ lev o.1 x = 0 ∧ lev I x = 0 ∧ lev (deepO n more o).1 x = 0 := fun x hx => by
    refine ⟨lev_none fun q hq => by have := h2 q hq; omega, lev_none fun q hq => by have := h1 q hq; omega, lev_none fun q hq => by have := hI q hq; omega, lev_none fun q hq => ?_⟩
    rcases List.mem_cons.mp hq with z | z
    · rw [z]; exact hx
    · have := h1 q z; omega
  constructor
  · intro h x
    by_cases hx : n ≤ x
    · have := h x
      rw [key x hx] at this
      exact this
    · obtain ⟨a, b, c, _⟩ := low x (by omega)
      rw [a, b, c, hf x (by omega)]
      omega
  · intro h x
    by_cases hx : n ≤ x
    · rw [key x hx]
      exact h x
    · obtain ⟨a, b, c, d⟩ := low x (by omega)
      show lev o.2 x = max (f x) (lev (deepO n more o).1 x + _ - _)
      rw [a, c, d, hf x (by omega)]
      omega
theorem lvl_low {I : Bag} {c : List Int} {n : Int} (hI : IsBag I) (hl : c.length = I.length) (h : ∀ q ∈ I, n < q.1) {x : Int} (hx : x ≤ n) : lvl I c 0 x = 0 := by
  rw [lvl_plc hI.1 hl]
  unfold plc
  rw [filt_sorted hI.1 fun q hq => by have := h q hq; omega]
  rfl
/-- heaps and what became of them, all above n -/
structure High (I : Bag) (obs : List (Bag × Bag)) (n : Int) : Prop where
  i : ∀ q ∈ I, n < q.1
  o : ∀ o ∈ obs, (∀ q ∈ o.1, n < q.1) ∧ ∀ q ∈ o.2, n < q.1
theorem deep_sol {I : Bag} {R n more : Int} {obs : List (Bag × Bag)} (F : Feas I R obs) (hm : 1 ≤ more) (hh : High I obs n) {c : List Int} : Sol I (R + more) (obs.map (deepO n more)) c ↔ (Chn (cts I) 0 c ∧ tot I - (R + more) ≤ lastD 0 c ∧ ∀ o ∈ obs, Agr I R o (lvl I c 0)) := by
  constructor
  · intro h
    refine ⟨h.chn, h.last, fun o ho => ?_⟩
    obtain ⟨h1, h2⟩ := hh.o o ho
    exact (deep_agr hm F.r h1 hh.i h2 fun x hx => lvl_low F.i (sol_len h) hh.i hx).mp (h.agr _ (List.mem_map.mpr ⟨o, ho, rfl⟩))
  · rintro ⟨hc, hl, ha⟩
    have hlen : c.length = I.length := by have := hc.len; unfold cts at this; rwa [List.length_map] at this
    refine ⟨hc, hl, fun o' ho' => ?_⟩
    obtain ⟨o, ho, rfl⟩ := List.mem_map.mp ho'
    obtain ⟨h1, h2⟩ := hh.o o ho
    exact (deep_agr hm F.r h1 hh.i h2 fun x hx => lvl_low F.i hlen hh.i hx).mpr (ha o ho)
theorem chn_last_nn : ∀ {cs : List Int} {p : Int} {c : List Int}, Chn cs p c → p ≤ lastD p c
  | [], p, c, h => by rw [show c = [] from h]; exact Int.le_refl _
  | a :: cs, p, _, ⟨u, r, rfl, h1, _, h3⟩ => by
    have := chn_last_nn h3
    show p ≤ lastD u r
    omega
/-- where all may be gone, deeper heaps say the same -/
theorem deep_same {I : Bag} {R n more : Int} {obs : List (Bag × Bag)} (F : Feas I R obs) (hm : 1 ≤ more) (hh : High I obs n) (hR : tot I ≤ R) (c : List Int) : Sol I (R + more) (obs.map (deepO n more)) c ↔ Sol I R obs c := by
  rw [deep_sol F hm hh]
  constructor
  · rintro ⟨a, b, d⟩
    exact ⟨a, by have := chn_last_nn a; omega, d⟩
  · intro h
    exact ⟨h.chn, by have := chn_last_nn h.chn; omega, h.agr⟩
theorem deep_feas {I : Bag} {R n more : Int} {obs : List (Bag × Bag)} (F : Feas I R obs) (hm : 1 ≤ more) (hh : High I obs n) : Feas I (R + more) (obs.map (deepO n more)) := by
  obtain ⟨c, hc⟩ := F.ex
  refine ⟨F.i, by have := F.r; omega, fun o' ho' => ?_, c, (deep_sol F hm hh).mpr ⟨hc.chn, by have := hc.last; omega, hc.agr⟩⟩
  obtain ⟨o, ho, rfl⟩ := List.mem_map.mp ho'
  obtain ⟨o1, o2, o3⟩ := F.ok o ho
  obtain ⟨h1, h2⟩ := hh.o o ho
  refine ⟨⟨List.pairwise_cons.mpr ⟨fun q hq => h1 q hq, o1.1⟩, fun q hq => ?_⟩, o2, ?_⟩
  · rcases List.mem_cons.mp hq with z | z
    · rw [z]; exact hm
    · exact o1.2 q z
  · show tot o.2 = tot ((n, more) :: o.1) + tot I - (R + more)
    rw [tot_cons, o3]
    show _ = more + _ + _ - _
    omega
end K79
end
section
set_option linter.all false
set_option Elab.async false
/-! What the law's own turns keep. Plain Lean. -/
namespace K79
theorem lev_nn : ∀ {b : Bag} {x : Int}, IsBag b → 0 ≤ lev b x
  | [], _, _ => Int.le_refl _
  | e :: r, x, h => by
    have := lev_nn (x := x) h.tail
    have := h.2 e List.mem_cons_self
    rw [lev_cons]
    split <;> omega
theorem lev_zero : ∀ {b : Bag} {x : Int}, IsBag b → lev b x = 0 → ∀ p ∈ b, x < p.1
  | [], _, _, _, p, hp => by cases hp
  | e :: r, x, h, z, p, hp => by
    have n := lev_nn (x := x) h.tail
    have c := h.2 e List.mem_cons_self
    rw [lev_cons] at z
    rcases List.mem_cons.mp hp with rfl | hp
    · by_cases y : p.1 ≤ x
      · rw [if_pos y] at z
        omega
      · omega
    · refine lev_zero h.tail ?_ p hp
      split at z <;> omega
/-- the least number that is inserted -/
def low (I : Bag) : Int := (I.head?.map (·.1)).getD 0
theorem low_le {I : Bag} (h : IsBag I) : ∀ q ∈ I, low I ≤ q.1 := fun q hq => by
  cases I with
  | nil => cases hq
  | cons e r =>
    show e.1 ≤ q.1
    rcases List.mem_cons.mp hq with rfl | hq
    · exact Int.le_refl _
    · have := h.above q hq
      omega
/-- what the turns keep: each heap is fit, and the result is what the effect makes of it -/
structure Heap1 (I : Bag) (R : Int) (S : Bag) (o : Bag × Bag) : Prop where
  b : IsBag o.1
  n : R - tot I + tot S ≤ tot o.1
  e : o.2 = addB S (dropB (addB o.1 (subB I S)) R)
  l : o.1.length ≤ 14
  a : ∀ q ∈ o.1, low I - 3 ≤ q.1
section
variable {I S : Bag} {R : Int} {obs : List (Bag × Bag)} {o : Bag × Bag}
theorem TripOk.own (h : TripOk I R S) : Own I R S := ⟨h.i, h.s, h.has, h.tot, h.r⟩
theorem own_feas (h : TripOk I R S) (ho : ∀ o ∈ obs, Heap1 I R S o) : Feas I R obs := h.own.feas fun o m => ⟨(ho o m).b, (ho o m).n, (ho o m).e⟩
theorem own_sol (h : TripOk I R S) (ho : ∀ o ∈ obs, Heap1 I R S o) : Sol I R obs (sl I S) := h.own.sol fun o m => ⟨(ho o m).b, (ho o m).e⟩
theorem Heap1.len (h : TripOk I R S) (k : Heap1 I R S o) : o.2.length ≤ 38 := by
  have h1 := addB_len S (dropB (addB o.1 (subB I S)) R)
  have h2 := dropB_len (addB o.1 (subB I S)) R
  have h3 := addB_len o.1 (subB I S)
  have h4 := subB_len I S
  have := h.l
  have := h.ls
  have := k.l
  rw [k.e]
  omega
theorem own_high (h : TripOk I R S) (ho : ∀ o ∈ obs, Heap1 I R S o) : High I obs (low I - 10) := by
  refine ⟨fun q hq => by have := low_le h.i q hq; omega, fun o m => ?_⟩
  have k := ho o m
  refine ⟨fun q hq => by have := k.a q hq; omega, ?_⟩
  rw [k.e]
  refine lev_zero (addB_bag _ _) ?_
  rw [apply_lev h.s k.b h.has h.r, lev_none (b := S) fun p hp => by
    obtain ⟨q, hq, e⟩ := has_mem h.s h.has p hp
    have := low_le h.i q hq
    omega, lev_none (b := o.1) fun p hp => by have := k.a p hp; omega, lev_none (b := I) fun p hp => by have := low_le h.i p hp; omega]
  have := h.r
  omega
theorem need_ok (h : TripOk I R S) : 0 ≤ R - tot I + tot S ∧ R - tot I + tot S ≤ 40 := by
  have := h.tot
  have := h.r40
  have e : tot (subB I S) = tot I - tot S := subB_tot h.has
  have : 0 ≤ tot (subB I S) := tot_nonneg (subB_bag _ _)
  omega
/-- all is told: the one solution -/
theorem told (h : TripOk I R S) (ho : ∀ o ∈ obs, Heap1 I R S o) (hu : ∀ c, Sol I R obs c → c = sl I S) {a b : List Int} (x : Ext I R obs a b) : cntS I R obs = 1 ∧ bagOf I a = S ∧ bagOf I b = S := by
  have ea := hu a x.la
  have eb := hu b x.lb
  have e := bagOf_sl h.i h.s h.has
  refine ⟨(cnt_one_iff (own_feas h ho) x).mpr (by rw [ea, eb]), by rw [ea, e], by rw [eb, e]⟩
/-- the heap that is far above -/
theorem far_uniq (h : TripOk I R S) (ho : ∀ o ∈ obs, Heap1 I R S o) (m : o ∈ obs) (hf : ∀ q ∈ o.1, low I + 8 ≤ q.1) : ∀ c, Sol I R obs c → c = sl I S := fun c hc => by
  refine uniq_high h.own m (fun q hq => lev_none fun p hp => ?_) (own_sol h ho) hc
  have := hf p hp
  obtain ⟨b, hb⟩ := h.b
  have h1 := hb q hq
  have h2 : b ≤ low I := by
    cases I with
    | nil => cases hq
    | cons e r => exact (hb e List.mem_cons_self).1
  omega
def farB (hi w : Int) : Bag := if w > 0 then [(hi, w)] else []
theorem farB_mem {hi w : Int} : ∀ p ∈ farB hi w, p.1 = hi := fun p hp => by
  unfold farB at hp
  split at hp
  · rw [List.mem_singleton.mp hp]
  · cases hp
theorem far_heap (h : TripOk I R S) {hi w : Int} (hw : R - tot I + tot S ≤ w) (hh : low I + 8 ≤ hi) : Heap1 I R S (farB hi w, addB S (dropB (addB (farB hi w) (subB I S)) R)) := by
  have n := need_ok h
  refine ⟨?_, ?_, rfl, ?_, fun q hq => by have := farB_mem q hq; omega⟩
  · show IsBag (farB hi w)
    unfold farB
    split
    · exact ⟨List.pairwise_singleton _ _, fun p hp => by rw [List.mem_singleton.mp hp]; show 1 ≤ w; omega⟩
    · exact ⟨List.Pairwise.nil, fun p hp => by cases hp⟩
  · show _ ≤ tot (farB hi w)
    unfold farB
    split
    · show _ ≤ w + tot []
      rw [tot_nil]
      omega
    · rw [tot_nil]
      omega
  · show (farB hi w).length ≤ 14
    unfold farB
    split <;> simp
end
end K79
end
section
set_option Elab.async false
set_option linter.all false
set_option maxRecDepth 100000
set_option maxHeartbeats 4000000
/-! The pool of draws: a list that callers know by its shape alone. -/
namespace K79
open PySem PySem.Spec L2
def PoolO (p sc : Addr) : HO := .ext fun h => ∃ (a b c : Int) (ta tb tc : Tok) (n : Nat), 0 ≤ a ∧ h.get? p = some { cls := .type "list", data := .seq #[.ref sc, .int a ta, .int b tb, .int c tc] n }
abbrev poolL (sc : Addr) (a b c : Int) : List V := [.ref sc, .int a, .int b, .int c]
def Closed (p sc : Addr) (H : Hp) : Prop := ∃ a b c : Int, 0 ≤ a ∧ H p = some (.lst (poolL sc a b c))
/-- the statements run with the pool opened -/
def tPool (t : TS) : TS := fun D σ H => ∃ p sc, H p = some (PoolO p sc) ∧ ∀ a b c : Int, 0 ≤ a →
  t ⟨fun σ' H' => Closed p sc H' ∧ D.nx σ' (upd H' p (PoolO p sc)), fun v H' => Closed p sc H' ∧ D.rt v (upd H' p (PoolO p sc)), fun σ' H' => Closed p sc H' ∧ D.bk σ' (upd H' p (PoolO p sc)), fun σ' H' => Closed p sc H' ∧ D.ct σ' (upd H' p (PoolO p sc))⟩ σ (upd H p (.lst (poolL sc a b c)))
section
variable {X : Cx} {pins : List (Addr × Obj)} {σ : St} {H : Hp} {s : Shared} {p sc : Addr}
theorem pool_open (I : Inv X pins σ H s) (h : H p = some (PoolO p sc)) : ∃ a b c : Int, 0 ≤ a ∧ Inv X pins σ (upd H p (.lst (poolL sc a b c))) s := by
  obtain ⟨⟨a, b, c, ta, tb, tc, n, ha, ho⟩, _⟩ := I.hok p _ h
  refine ⟨a, b, c, ha, I.write (x := p) (e := p) (t' := s.toks) (h' := s.heap) (by rw [h]; trivial) (.inl rfl) (fun b u _ q => q) ⟨_, ho⟩ ?_⟩
  exact ⟨by show 4 ≤ sizeLine; decide, [.ref sc, .int a ta, .int b tb, .int c tc], n, .cons rfl (.cons ⟨ta, rfl⟩ (.cons ⟨tb, rfl⟩ (.cons ⟨tc, rfl⟩ .nil))), ho⟩
theorem pool_close (I : Inv X pins σ H s) (h : Closed p sc H) : Inv X pins σ (upd H p (PoolO p sc)) s := by
  obtain ⟨a, b, c, ha, h⟩ := h
  obtain ⟨_, its, n, rv, ho⟩ := I.hok p _ h
  cases rv with
  | cons r0 rv => cases rv with
    | cons r1 rv => cases rv with
      | cons r2 rv => cases rv with
        | cons r3 rv =>
          cases rv
          cases r0
          obtain ⟨ta, rfl⟩ := r1
          obtain ⟨tb, rfl⟩ := r2
          obtain ⟨tc, rfl⟩ := r3
          refine I.write (x := p) (e := p) (t' := s.toks) (h' := s.heap) (by rw [h]; trivial) (.inl rfl) (fun b u _ q => q) ⟨_, ho⟩ ?_
          exact ⟨⟨a, b, c, ta, tb, tc, n, ha, ho⟩, ⟨_, ho⟩, fun h1 h2 ⟨a, b, c, ta, tb, tc, n, ha, ho⟩ k => ⟨a, b, c, ta, tb, tc, n, ha, k _ ho⟩⟩
theorem pss_pool {st : List Stmt} {t : TS} (h : PSs X st t) : PSs X st (tPool t) := by
  refine ⟨fun pins s σ H D I hw => ?_⟩
  obtain ⟨p, sc, hp, hw⟩ := hw
  obtain ⟨a, b, c, ha, I1⟩ := pool_open I hp
  refine thn (h.run pins s σ _ _ I1 (hw a b c ha)) fun f s1 q => ?_
  cases f with
  | next => obtain ⟨σ', H', I2, e, q⟩ := q; exact ⟨σ', _, pool_close I2 e, q⟩
  | brk => obtain ⟨σ', H', I2, e, q⟩ := q; exact ⟨σ', _, pool_close I2 e, q⟩
  | cont => obtain ⟨σ', H', I2, e, q⟩ := q; exact ⟨σ', _, pool_close I2 e, q⟩
  | ret v => obtain ⟨x, σ', H', I2, r, e, q⟩ := q; exact ⟨x, σ', _, pool_close I2 e, r, q⟩
end
def PoolP (scr : List Int) : Pr := ⟨fun v H => ∃ p sc, v = .ref p ∧ H p = some (PoolO p sc) ∧ H sc = some (.lst (scr.map V.int)), fun e ⟨p, sc, a, b, c⟩ => ⟨p, sc, a, e _ _ b, e _ _ c⟩⟩
/-- the pool as it stands, over the base H0 -/
structure PoolAt (H0 H : Hp) (p sc : Addr) (scr : List Int) (a b c : Int) : Prop where
  ob : H p = some (.lst (poolL sc a b c))
  sm : ∀ q o, q ≠ p → H0 q = some o → H q = some o
  so : H sc = some (.lst (scr.map V.int))
  a0 : 0 ≤ a
  ne : sc ≠ p
section
variable {K : PySem.W.Frag} {σ : St} {H0 H H' : Hp} {ta tb te to ti : TE} {p sc : Addr} {scr : List Int} {a b c : Int} {D : Ends} {ts tz u : TS} {t : TT}
theorem PoolAt.more (h : PoolAt H0 H p sc scr a b c) (e : Same H H') : PoolAt H0 H' p sc scr a b c := ⟨e _ _ h.ob, fun q o n k => e _ _ (h.sm q o n k), e _ _ h.so, h.a0, h.ne⟩
theorem PoolAt.put (h : PoolAt H0 H p sc scr a b c) {a' b' c' : Int} (ha : 0 ≤ a') {xs : List V} (e : xs = poolL sc a' b' c') : PoolAt H0 (upd H p (.lst xs)) p sc scr a' b' c' :=
  ⟨by rw [upd_same, e], fun q o n k => by rw [upd_ne n]; exact h.sm q o n k, by rw [upd_ne h.ne]; exact h.so, ha, h.ne⟩
theorem PoolAt.i1 (h : PoolAt H0 H p sc scr a b c) (ho : EvP to σ H (IsV (.ref p))) : EvP (tOp (rIxL K) to (tC (.int 1))) σ H (IsI a) := ev_ixI (j := 1) ho ev_c h.ob (by decide) rfl
theorem PoolAt.i2 (h : PoolAt H0 H p sc scr a b c) (ho : EvP to σ H (IsV (.ref p))) : EvP (tOp (rIxL K) to (tC (.int 2))) σ H (IsI b) := ev_ixI (j := 2) ho ev_c h.ob (by decide) rfl
theorem PoolAt.i3 (h : PoolAt H0 H p sc scr a b c) (ho : EvP to σ H (IsV (.ref p))) : EvP (tOp (rIxL K) to (tC (.int 3))) σ H (IsI c) := ev_ixI (j := 3) ho ev_c h.ob (by decide) rfl
theorem PoolAt.i0 (h : PoolAt H0 H p sc scr a b c) (ho : EvP to σ H (IsV (.ref p))) : EvP (tOp (rIxL K) to (tC (.int 0))) σ H (LstP (scr.map IsI)) := ev_opP ho (ev_c (v := .int 0)) fun x y H1 e (hx : x = _) (hy : y = _) k q => by
  subst hx hy
  exact ⟨p, poolL sc a b c, 0, .ref sc, rfl, rfl, SqL.of (e _ _ h.ob), rfl, q _ H1 (Same.refl H1) ⟨sc, _, rfl, e _ _ h.so, AllP.of_is⟩⟩
/-- an int that is told by a word only -/
theorem ev_opX {φ ψ χ : Int → Prop} {r : R2} (ha : EvP ta σ H (ExP φ IsI)) (hb : EvP tb σ H (ExP ψ IsI)) (hr : ∀ i j H1, φ i → ψ j → Same H H1 → ∀ Q : VK, (∀ k, χ k → Q (.int k) H1) → r (.int i) (.int j) H1 Q) : EvP (tOp r ta tb) σ H (ExP χ IsI) :=
  ev_opP ha hb fun x y H1 e ⟨i, hi, (hx : x = _)⟩ ⟨j, hj, (hy : y = _)⟩ Q q => by
    subst hx hy
    exact hr i j H1 hi hj e Q fun k hk => q _ H1 (Same.refl H1) ⟨k, hk, rfl⟩
theorem ev_ex {i : Int} {φ : Int → Prop} (h : EvP te σ H (IsI i)) (hi : φ i) : EvP te σ H (ExP φ IsI) := h.imp fun v H1 _ p => ⟨i, hi, p⟩
theorem ev_exm {φ ψ : Int → Prop} (h : EvP te σ H (ExP φ IsI)) (hi : ∀ i, φ i → ψ i) : EvP te σ H (ExP ψ IsI) := h.imp fun v H1 _ ⟨i, a, b⟩ => ⟨i, hi i a, b⟩
/-- a statement, a word between, the rest -/
theorem q_cut (Mid : St → Hp → Prop) (h : ts { D with nx := Mid } σ H) (k : ∀ σ' H', Mid σ' H' → u D σ' H') : C8.tCut ts u D σ H := ⟨Mid, h, k⟩
end
end K79
end
section
set_option Elab.async false
set_option linter.all false
set_option maxRecDepth 100000
set_option maxHeartbeats 4000000
namespace K79
open PySem PySem.Spec L2
section
variable {P : Program} {w : World} {K : PySem.W.Frag} {mg : Str → Option Value} {base : Heap}
/-! ### _law_draw -/
abbrev N_l_draw : List Str := ["_law_pool", "_law_count_here", "_law_cell", "_law_result"]
theorem sc_l_draw : FnScope N_l_draw ["_law_pool", "_law_count_here"] (defScope st_l_draw) := ⟨rfl, rfl, rfl, by decide +kernel, rfl, by decide +kernel, by decide +kernel⟩
def drawOf (n r : Int) : Prop := 0 ≤ r ∧ r < n
theorem drawOf_mod (n i : Int) (h : 0 < n) : drawOf n (i.fmod n) := by
  rw [Int.fmod_eq_emod_of_nonneg i (by omega)]
  exact ⟨Int.emod_nonneg _ (by omega), Int.emod_lt_of_pos _ h⟩
abbrev Sp_l_draw : Sp := SpG (γ := List Int × Int) (fun g => [PoolP g.1, IsI g.2]) (fun g => 0 < g.2 ∧ g.2.natAbs < 2 ^ 100) (fun g => ExP (drawOf g.2) IsI)
theorem ok_l_draw (T : Fx K mg) : Glob P w K mg base 1 "_law_draw" (He.ga K "_law_draw") ["_law_pool", "_law_count_here"] Sp_l_draw := by
  refine mkG T.f_l_draw T.g_l_draw sc_l_draw (fun _ => rfl) (fun _ _ _ _ _ _ us hl => match us, hl with | [_, _], _ => rfl) fun cdv A outer s H E hr => ?_
  have nd := sc_l_draw.nd
  refine ⟨_, (pss_pool (C8.pss_cut (ps_if (pt_cmpR op_eq (pe_ix ix_list (pv 0) pe_int (fun _ _ => rfl)) pe_int (nomark _)) (pss_cons (ps_set (i := 2) nd rfl (Or.inl rfl) (pe_ifExp (pt_cmpR op_lt (pe_ix ix_list (pv 0) pe_int (fun _ _ => rfl)) (pe_callB call_len_seq (by rfl) T.n_len (by decide +kernel) (pa_cons (pe_ix ix_list (pv 0) pe_int (fun _ _ => rfl)) pa_nil)) (nomark _)) (pe_ix ix_list (pe_ix ix_list (pv 0) pe_int (fun _ _ => rfl)) (pe_ix ix_list (pv 0) pe_int (fun _ _ => rfl)) (fun _ _ => rfl)) pe_int))
    (pss_cons (ps_asg (pe_op op_add (pe_ix ix_list (pv 0) pe_int (fun _ _ => rfl)) pe_int) (pg_sub (pv 0) pe_int set_list))
    (pss_cons (ps_if (pt_cmpR op_lt (pv 2) (pe_op op_pow pe_int pe_int) (nomark _)) (pss_cons (ps_asg (pe_op op_modN (pe_op op_add (pe_op op_add (pe_op op_mul (pe_ix ix_list (pv 0) pe_int (fun _ _ => rfl)) pe_int) (pe_op op_modN (pv 2) pe_int)) (pe_ix ix_list (pv 0) pe_int (fun _ _ => rfl))) pe_int) (pg_sub (pv 0) pe_int set_list))
    (pss_one (ps_ret (pe_op op_modN (pe_op op_fdivW (pe_op op_modN (pe_op op_mul (pe_ix ix_list (pv 0) pe_int (fun _ _ => rfl)) (pe_ix ix_list (pv 0) pe_int (fun _ _ => rfl))) pe_int) pe_int) (pv 1))))) pss_nil)
    (pss_one (ps_asg (pv 2) (pg_sub (pv 0) pe_int set_list)))))) pss_nil)
    (pss_cons (ps_set (i := 3) nd rfl (Or.inl rfl) (pe_op op_modN (pe_ix ix_list (pv 0) pe_int (fun _ _ => rfl)) (pv 1)))
    (pss_cons (ps_asg (pe_op op_fdivW (pe_ix ix_list (pv 0) pe_int (fun _ _ => rfl)) (pv 1)) (pg_sub (pv 0) pe_int set_list))
    (pss_one (ps_ret (pv 3))))))), ?_⟩
  rintro ⟨scr, n⟩ vs Q ⟨hn, hn2⟩ ⟨v1, _, rfl, ⟨p, sc, rfl, hp, hs⟩, v2, _, rfl, (h2 : v2 = _), rfl⟩ q
  subst h2
  have hn : 0 < n := hn
  have nsp : sc ≠ p := ne_of hs hp (fun z => by cases z)
  refine ⟨p, sc, hp, fun a b c ha => ?_⟩
  have P0 : PoolAt H (upd H p (.lst (poolL sc a b c))) p sc scr a b c := ⟨upd_same, fun q o n k => by rw [upd_ne n]; exact k, by rw [upd_ne nsp]; exact hs, ha, nsp⟩
  have fin : ∀ (H' : Hp) (a b c r : Int), PoolAt H H' p sc scr a b c → drawOf n r → Closed p sc H' ∧ Q (.int r) (upd H' p (PoolO p sc)) := fun H' a b c r L hr => ⟨⟨a, b, c, L.a0, L.ob⟩, q _ _ (fun a' o h => by
    by_cases z : a' = p
    · subst z
      rw [hp] at h
      cases h
      exact upd_same
    · rw [upd_ne z]
      exact L.sm a' o z h) ⟨r, hr, rfl⟩⟩
  show C8.tCut _ _ _ [some (.ref p), some (.int n), none, none] (upd H p (.lst (poolL sc a b c)))
  generalize upd H p (.lst (poolL sc a b c)) = G at P0
  refine q_cut (fun σ' H' => ∃ x2 a b c, σ' = [some (.ref p), some (.int n), x2, none] ∧ PoolAt H H' p sc scr a b c) ?_ ?_
  · refine s_if (b := decide (V.int b = .int 0)) (et_test (ev_eq (P0.i2 (ev_v rfl)) ev_c rfl)) (fun z H1 e1 => ?_) fun z H1 e1 => ⟨none, a, b, c, rfl, P0.more e1⟩
    have P1 := P0.more e1
    refine q_asg (P := ExP (fun _ => True) IsI) (ev_if (b := decide (a < ((scr.map IsI).length : Nat))) (et_test (ev_I0 (P1.i1 (ev_v rfl)) (ev_lenL (P1.i0 (ev_v rfl)) rfl))) (fun z => ?_) fun z => ev_ex ev_c trivial) fun v2 H2 e2 pc => ?_
    · have z := of_decide_eq_true z
      rw [List.length_map] at z
      have hlt : a.toNat < scr.length := by have := P1.a0; omega
      refine ev_ex (i := scr[a.toNat]) (ev_ixL (P := IsI scr[a.toNat]) (i := a.toNat) (P1.i0 (ev_v rfl)) ?_ (by rw [List.getElem?_map, List.getElem?_eq_getElem hlt] <;> rfl)) trivial
      rw [show ((a.toNat : Nat) : Int) = a by have := P1.a0; omega]
      exact P1.i1 (ev_v rfl)
    obtain ⟨cell, _, (pc : v2 = _)⟩ := pc
    subst pc
    have P2 := P1.more e2
    refine q_setL (v := a + 1) (j := 1) (ev_i (P2.i1 (ev_v rfl)) ev_c rfl) (ev_v rfl) ev_c P2.ob (by decide) (by show (1 : Int) < 4; decide) fun H3 e3 => ?_
    have P3 : PoolAt H _ p sc scr (a + 1) b c := (P2.more e3).put (by have := P2.a0; omega) (xs := (poolL sc a b c).set (1 : Int).toNat (.int (a + 1))) rfl
    show tSeq _ _ _ [some (.ref p), some (.int n), some (.int cell), none] (upd H3 p (.lst ((poolL sc a b c).set (1 : Int).toNat (.int (a + 1)))))
    generalize upd H3 p (.lst ((poolL sc a b c).set (1 : Int).toNat (.int (a + 1)))) = G3 at P3
    refine q_if (b := decide (cell < 10 ^ (18 : Int).toNat)) (et_test (ev_I0 (ev_v rfl) (ev_I (i := 10) (j := 18) ev_c ev_c ⟨by decide, by decide, by decide⟩))) (fun z H4 e4 => ?_) fun z H4 e4 => ?_
    · have P4 := P3.more e4
      generalize hw : (c * 48271 + cell.fmod 2147483629 + (a + 1)).fmod 2147483647 = u
      have hu : drawOf 2147483647 u := by rw [← hw]; exact drawOf_mod _ _ (by decide)
      have hm : CMul u u := .inl ⟨by have := hu.1; omega, by have := hu.2; omega⟩
      refine q_setL (v := u) (j := 3) ?_ (ev_v rfl) ev_c P4.ob (by decide) (by show (3 : Int) < 4; decide) fun H5 e5 => ?_
      · rw [← hw]
        refine ev_I (C := fun _ j => j ≠ 0) (g := fun i j => .int (i.fmod j)) (i := c * 48271 + cell.fmod 2147483629 + (a + 1)) (j := 2147483647) (ev_i (i := c * 48271 + cell.fmod 2147483629) (j := a + 1) (ev_i (i := c * 48271) (j := cell.fmod 2147483629) (ev_I (C := CMul) (g := fun i j => .int (i * j)) (i := c) (j := 48271) (P4.i3 (ev_v rfl)) ev_c (.inr ⟨by decide, by decide⟩)) (ev_I (C := fun _ j => j ≠ 0) (g := fun i j => .int (i.fmod j)) (i := cell) (j := 2147483629) (ev_v rfl) ev_c (by decide)) rfl) (P4.i1 (ev_v rfl)) rfl) ev_c (by decide)
      have P5 : PoolAt H _ p sc scr (a + 1) b u := (P4.more e5).put P4.a0 (xs := (poolL sc (a + 1) b c).set (3 : Int).toNat (.int u)) rfl
      show tRet _ _ [some (.ref p), some (.int n), some (.int cell), none] (upd H5 p (.lst ((poolL sc (a + 1) b c).set (3 : Int).toNat (.int u))))
      generalize upd H5 p (.lst ((poolL sc (a + 1) b c).set (3 : Int).toNat (.int u))) = G5 at P5
      refine s_ret (P := IsI (((u * u).fmod 2147483629 / 7).fmod n)) (ev_I (C := fun _ j => j ≠ 0) (g := fun i j => .int (i.fmod j)) (i := (u * u).fmod 2147483629 / 7) (j := n) (ev_I (C := CDivW) (g := fun i j => .int (i / j)) (i := (u * u).fmod 2147483629) (j := 7) (ev_I (C := fun _ j => j ≠ 0) (g := fun i j => .int (i.fmod j)) (i := u * u) (j := 2147483629) (ev_I (C := CMul) (g := fun i j => .int (i * j)) (i := u) (j := u) (P5.i3 (ev_v rfl)) (P5.i3 (ev_v rfl)) hm) ev_c (by decide)) ev_c (wide_div (b := 100) (by decide) (by decide) (by decide) (by decide))) (ev_v rfl) (by omega)) fun v H6 e6 (pv : v = _) => ?_
      subst pv
      exact fin H6 _ _ _ _ (P5.more e6) (drawOf_mod _ _ hn)
    · have P4 := P3.more e4
      unfold tNext
      dsimp only
      refine s_setL (v := cell) (j := 2) (ev_v rfl) (ev_v rfl) ev_c P4.ob (by decide) (by show (2 : Int) < 4; decide) fun H5 e5 => ?_
      exact ⟨_, a + 1, cell, c, rfl, (P4.more e5).put P4.a0 rfl⟩
  · rintro σ' H' ⟨x2, a, b, c, rfl, P0⟩
    refine q_asg (P := IsI (b.fmod n)) (ev_I (C := fun _ j => j ≠ 0) (g := fun i j => .int (i.fmod j)) (i := b) (j := n) (P0.i2 (ev_v rfl)) (ev_v rfl) (by omega)) fun v3 H1 e1 (p3 : v3 = _) => ?_
    subst p3
    have P1 := P0.more e1
    refine q_setL (v := b / n) (j := 2) (ev_I (C := CDivW) (g := fun i j => .int (i / j)) (i := b) (j := n) (P1.i2 (ev_v rfl)) (ev_v rfl) (wide_div hn hn2 (by decide) (by decide))) (ev_v rfl) ev_c P1.ob (by decide) (by show (2 : Int) < 4; decide) fun H2 e2 => ?_
    have P2 : PoolAt H _ p sc scr a (b / n) c := (P1.more e2).put P1.a0 (xs := (poolL sc a b c).set (2 : Int).toNat (.int (b / n))) rfl
    show tRet _ _ [some (.ref p), some (.int n), x2, some (.int (b.fmod n))] (upd H2 p (.lst ((poolL sc a b c).set (2 : Int).toNat (.int (b / n)))))
    generalize upd H2 p (.lst ((poolL sc a b c).set (2 : Int).toNat (.int (b / n)))) = G2 at P2
    exact s_ret (P := IsI (b.fmod n)) (ev_v rfl) fun v H3 e3 (pv : v = _) => by subst pv; exact fin H3 _ _ _ _ (P2.more e3) (drawOf_mod _ _ hn)
end
end K79
end
section
set_option Elab.async false
set_option linter.all false
set_option maxRecDepth 100000
set_option maxHeartbeats 4000000
namespace K79
open PySem PySem.Spec L2
section
variable {X : Cx} {K : PySem.W.Frag} {o e : Expr} {es : List Expr} {to : TE} {t : TA} {name : Str} {apos cpos : Pos} {T id : String} {r : V → List V → Hp → VK → Prop}
theorem mt_lcountK (h : X.K = K) : MtR X "list.count" (rCntI K) := h ▸ mt_lcount
theorem pe_bmK (h : X.K = K) (pa : PlainAttrs T) (slot : Slot T name id) (hty : typeOf (.builtin id) = pure (.type "method_descriptor")) (hm : MtR X id r) (ho : PE X o to) (ha : PA X (e :: es) t)
    (hbase : attributeBase o name X.env (eval o X.env) = eval o X.env := by rfl)
    (hfew : ((backTo cpos (starEach (e :: es) X.env)).all (fun x => !x.1) && (backToKw cpos (keywordEach [] X.env)).all (fun x => x.1.isSome) && decide ((e :: es).length + ([] : List Keyword).length + (if ([] : List Keyword).isEmpty then 0 else 1) < 30)) = true := by rfl)
    (hline : (apos.endLine == cpos.line) = true := by rfl) (hs : starEach (e :: es) X.env = (false, eval e X.env) :: starEach es X.env := by rfl) (hplain : (backTo cpos (starEach es X.env)).any (·.1) = false := by rfl) :
    PE X (.Call (.Attribute o name apos) (e :: es) [] cpos) (tBM K T r to t) := h ▸ pe_bm pa slot hty hm ho ha hbase hfew hline hs hplain
end
section
variable {K : PySem.W.Frag} {σ : St} {H : Hp} {te ta tb tl : TE} {tr : TA} {t : TT} {ts tw tz : TS} {tg : TG} {D : Ends} {vs : List Nat}
/-- an if whose test may go either way -/
theorem s_ifU (h : EvP te σ H (ExP (fun _ : Bool => True) IsB)) (h1 : ∀ H1, Same H H1 → ts D σ H1) (h2 : ∀ H1, Same H H1 → tw D σ H1) : tIfS (tTest te) ts tw D σ H := h H (Same.refl H) _ fun v H1 e ⟨b, _, (p : v = _)⟩ => ⟨b, p, by
  cases b with
  | true => exact h1 H1 e
  | false => exact h2 H1 e⟩
theorem ev_cmpX {φ : Int → Prop} {p : Int → Int → Prop} [d : ∀ i j, Decidable (p i j)] {j : Int} (ha : EvP ta σ H (ExP φ IsI)) (hb : EvP tb σ H (IsI j)) : EvP (tOp (rI0 fun i j => .bl (decide (p i j))) ta tb) σ H (ExP (fun _ : Bool => True) IsB) :=
  ev_opP ha hb fun x y H1 e ⟨i, _, (hx : x = _)⟩ (hy : y = _) Q q => by
    subst hx hy
    exact ⟨i, j, rfl, rfl, q _ H1 (Same.refl H1) ⟨_, trivial, rfl⟩⟩
theorem ev_iX {φ χ : Int → Prop} {g : Int → Int → V} {f : Int → Int → Int} {i : Int} (hg : ∀ i j, g i j = .int (f i j)) (ha : EvP ta σ H (IsI i)) (hb : EvP tb σ H (ExP φ IsI)) (hr : ∀ j, φ j → χ (f i j)) : EvP (tOp (rI0 g) ta tb) σ H (ExP χ IsI) :=
  ev_opP ha hb fun x y H1 e (hx : x = _) ⟨j, hj, (hy : y = _)⟩ Q q => by
    subst hx hy
    exact ⟨i, j, rfl, rfl, by rw [hg]; exact q _ H1 (Same.refl H1) ⟨_, hr j hj, rfl⟩⟩
/-- a draw -/
theorem ev_draw {scr : List Int} {n : Int} {E : XK} (hn : 0 < n) (h2 : n.natAbs < 2 ^ 100) (ha : EvP ta σ H (PoolP scr)) (hb : EvP tb σ H (IsI n)) : EvP (tCall Sp_l_draw [] E (tCons ta (tCons tb tNil))) σ H (ExP (drawOf n) IsI) := ev_call (scr, n) ⟨hn, h2⟩ (ea2 ha hb)
theorem ev_pow {i j : Int} (h : CPow i j) : EvP (tOp (rI CPow fun i j => .int (i ^ j.toNat)) (tC (.int i)) (tC (.int j))) σ H (IsI (i ^ j.toNat)) := ev_I (C := CPow) (g := fun i j => .int (i ^ j.toNat)) ev_c ev_c h
theorem AllP.exs {φ : Int → Prop} : ∀ {m : Nat} {ys : List V}, AllP (List.replicate m (ExP φ IsI)) ys H → ∃ ns : List Int, ns.length = m ∧ (∀ n ∈ ns, φ n) ∧ ys = ns.map V.int
  | 0, _, h => ⟨[], rfl, (fun _ h => by cases h), h⟩
  | m + 1, _, ⟨v, r, a, ⟨i, hi, (e : v = _)⟩, c⟩ => by
    obtain ⟨ns, h1, h2, h3⟩ := AllP.exs c
    refine ⟨i :: ns, by simp [h1], fun n hn => ?_, by rw [a, e, h3] <;> rfl⟩
    rcases List.mem_cons.mp hn with z | z
    · rw [z]; exact hi
    · exact h2 n z
def lenOf (ψ : Int → Prop) (φ : Int → Prop) (ns : List Int) : Prop := (∃ m, ψ m ∧ ns.length = m.toNat) ∧ ∀ n ∈ ns, φ n
instance exFix {φ : Int → Prop} : Fixd (ExP φ IsI) := ⟨fun _ ⟨a, b, c⟩ => ⟨a, b, c⟩⟩
/-- [e for k in range(n)], e an int that is told by a word -/
theorem ev_lcR {ψ φ : Int → Prop} {i : Nat} (h : EvA tr σ H [ExP ψ IsI]) (hb : ∀ m, ψ m → -(2 ^ 62) ≤ m ∧ m ≤ 1000) (hw : ∀ x, wipe ((wipe σ vs).set i (some x)) vs = wipe σ vs) (he : ∀ (x : V) H1, Same H H1 → EvP te ((wipe σ vs).set i (some x)) H1 (ExP φ IsI)) :
    EvP (tLc (iRng1 tr) (gName i) tYes te vs) σ H (ExP (lenOf ψ φ) fun ns => NewL H (ns.map IsI)) := fun H0 e Q q =>
  h H0 e _ fun us H1 e1 hv => by
    obtain ⟨v1, _, rfl, ⟨m, hm, (p1 : v1 = _)⟩, rfl⟩ := hv
    subst p1
    obtain ⟨b1, b2⟩ := hb m hm
    refine ⟨m, rfl, b1, by omega, fun Dl hD => lc_range (Cv H1 Dl fun k => List.replicate k (ExP φ IsI)) (Cv.start hD rfl) (fun k H' hk c => ⟨hw _, ?_⟩) fun H' c => ?_⟩
    · refine cv_turn (b := true) c (by rw [List.length_replicate]; omega) et_yes (fun z => by cases z) fun _ => ⟨ExP φ IsI, inferInstance, by rw [List.replicate_succ'], he _ _ ((e.trans e1).trans c.2.1)⟩
    · obtain ⟨n, s, _, zs, hl, hz⟩ := c
      obtain ⟨ns, h1, h2, h3⟩ := AllP.exs hz
      subst h3
      exact q _ H' (e1.trans s) ⟨ns, ⟨⟨m, hm, h1⟩, h2⟩, Dl, _, rfl, free_back (e.trans e1) n, hl, AllP.of_is⟩
/-- sorted(set(a list of ints)) -/
def srtOf (ns zs : List Int) : Prop := zs.Pairwise (· < ·) ∧ ∀ k, k ∈ zs ↔ k ∈ ns
theorem ev_srtSet {w : World} {ns : List Int} (h : EvP tl σ H (LstP (ns.map IsI))) (hz : ns.length < 64) : EvP (tCB (rSortedSet w) (tCons (tCB (rSetI K w) (tCons tl tNil)) tNil)) σ H (ExP (srtOf ns) fun zs => NewL H (zs.map IsI)) := fun H0 e0 Q q => by
  unfold tCB tCons
  refine h H0 e0 _ fun v H1 e1 hv => ?_
  obtain ⟨p, ys, rfl, hp, hy⟩ := hv
  have ey : ys = ns.map V.int := AllP.is (f := V.int) hy
  subst ey
  refine ⟨p, ns, rfl, SqL.of hp, by omega, fun a c hc ha => ?_⟩
  refine ⟨a, _, c, rfl, upd_same, by omega, fun zs l hs hm hl hn => ?_⟩
  have s1 : Same H1 (upd H1 a (SetO w a (fun j => decide (j ∈ ns)) c)) := Same.ext (Same.refl H1) ha
  exact q _ _ ((e1.trans s1).trans (Same.ext (Same.refl _) hn)) ⟨zs, ⟨hs, fun k => (hm k).trans decide_eq_true_iff⟩, l, zs.map V.int, rfl, free_back ((e0.trans e1).trans s1) hn, upd_same, AllP.of_is⟩
/-- [e for a in xs], xs a new list of ints told by a word -/
theorem ev_lcX {φ : List Int → Prop} {i : Nat} (PP : Int → Pr) [hF : ∀ a, Fixd (PP a)] (h : EvP tl σ H (ExP φ fun zs => NewL H (zs.map IsI))) (hz : ∀ zs, φ zs → zs.length < 100000) (hw : ∀ x, wipe ((wipe σ vs).set i (some x)) vs = wipe σ vs)
    (he : ∀ (a : Int) H1, Same H H1 → EvP te ((wipe σ vs).set i (some (.int a))) H1 (PP a)) : EvP (tLc (iList K tl) (gName i) tYes te vs) σ H (ExP φ fun zs => NewL H (zs.map PP)) := fun H0 e Q q =>
  h H0 e _ fun v H1 e1 hv => by
    obtain ⟨xs, hφ, p, ys, rfl, hn, hp, hy⟩ := hv
    have hlen : ys.length = xs.length := by rw [hy.len, List.length_map]
    have hz := hz xs hφ
    refine ⟨p, rfl, ⟨ys, SqL.of hp⟩, fun Dl hD => lc_list (xs := ys) (Cv H1 Dl (kept xs (fun _ => true) PP)) ⟨hD, Same.ext (Same.refl H1) hD, fun P hP => (by cases hP), [], upd_same, rfl⟩ (fun i H' _ c => SqL.of (c.2.1 _ _ hp)) (fun k y H' hi c => ?_) fun H' c => ?_⟩
    · obtain ⟨P, hP, hh⟩ := hy.get hi
      rw [List.getElem?_map] at hP
      obtain ⟨a, ha, rfl⟩ := Option.map_eq_some_iff.mp hP
      have hh : y = .int a := hh
      subst hh
      have hk : k < xs.length := (List.getElem?_eq_some_iff.mp ha).1
      exact ⟨hw _, kept_turn c (by omega) ha et_yes fun _ => he a H' ((e.trans e1).trans c.2.1)⟩
    · rw [hlen] at c
      have r := Cv.done (e.trans e1) c
      rw [kept_all] at r
      exact q _ H' (e1.trans c.2.1) ⟨xs, hφ, r⟩
end
/-! ### _law_base -/
section
variable {P : Program} {w : World} {K : PySem.W.Frag} {mg : Str → Option Value} {base : Heap}
abbrev N_l_base : List Str := ["_law_pool"]
theorem sc_l_base : FnScope N_l_base ["_law_pool"] (defScope st_l_base) := ⟨rfl, rfl, rfl, by decide +kernel, rfl, by decide +kernel, by decide +kernel⟩
abbrev Sp_l_base : Sp := SpG (γ := List Int) (fun g => [PoolP g]) (fun _ => True) (fun _ => ExP (fun _ => True) IsI)
theorem ok_l_base (T : Fx K mg) : Glob P w K mg base 2 "_law_base" (He.ga K "_law_base") ["_law_pool"] Sp_l_base := by
  have G_l_draw := ok_l_draw (P := P) (w := w) (base := base) T
  refine mkG T.f_l_base T.g_l_base sc_l_base (fun _ => rfl) (fun _ _ _ _ _ _ us hl => match us, hl with | [_], _ => rfl) fun cdv A outer s H E hr => ?_
  have nd := sc_l_base.nd
  refine ⟨_, (pss_one (ps_ret (pe_ix ix_list (pe_lst (pa_cons pe_int (pa_cons (pe_un un_neg pe_int) (pa_cons (pe_op op_pow pe_int pe_int) (pa_cons (pe_op op_add (pe_op op_sub pe_int (pe_op op_pow pe_int pe_int)) (pe_callG G_l_draw (hr.mono (by decide)) (pa_cons (pv 0) (pa_cons (pe_op op_pow pe_int pe_int) pa_nil)))) pa_nil))))) (pe_callG G_l_draw (hr.mono (by decide)) (pa_cons (pv 0) (pa_cons pe_int pa_nil))) (fun _ _ => rfl)))), ?_⟩
  rintro scr vs Q - ⟨v1, _, rfl, h1, rfl⟩ q
  have h1 : (PoolP scr).h v1 H := h1
  refine s_ret (P := ExP (fun _ => True) IsI) ?_ fun v H1 e p => q v H1 e p
  refine ev_opP (P := LstP (List.replicate 4 (ExP (fun _ => True) IsI))) (Q := ExP (drawOf 4) IsI) (ev_lst' (ea_cons (ev_ex ev_c trivial) (ea3 (ev_ex (ev_neg (i := 2) ev_c rfl) trivial) (ev_ex (ev_pow ⟨by decide, by decide, by decide⟩) trivial) (ev_iX (fun _ _ => rfl) (ev_i (i := 0) ev_c (ev_pow (i := 10) (j := 25) ⟨by decide, by decide, by decide⟩) rfl) (ev_draw (n := 10 ^ (6 : Int).toNat) (by decide) (by decide) (ev_var rfl h1) (ev_pow ⟨by decide, by decide, by decide⟩)) fun _ _ => trivial))) (by decide)) (ev_draw (n := 4) (by decide) (by decide) (ev_var rfl h1) ev_c) fun x y H1 e hx ⟨j, ⟨j0, j4⟩, (hy : y = _)⟩ k q => ?_
  subst hy
  obtain ⟨p, ys, rfl, hp, hP⟩ := hx
  have hl : j.toNat < 4 := by omega
  obtain ⟨v, g1, g2⟩ := hP.at (i := j.toNat) (P := ExP (fun _ => True) IsI) (by rw [List.getElem?_replicate, if_pos hl])
  have ga : atI ys j = some v := by
    have := atI_nat g1
    rwa [show ((j.toNat : Nat) : Int) = j by omega] at this
  exact ⟨p, ys, j, v, rfl, rfl, SqL.of hp, ga, q v H1 (Same.refl H1) g2⟩
/-! ### _law_steps -/
def stepP : Option Int → Pr
  | some n => TupP [IsV (.str "insert"), IsI n, IsI 1]
  | none => TupP [IsV (.str "remove"), IsI 1]
instance stepFix : ∀ a, Fixd (stepP a)
  | some n => (inferInstance : Fixd (TupP [IsV (.str "insert"), IsI n, IsI 1]))
  | none => (inferInstance : Fixd (TupP [IsV (.str "remove"), IsI 1]))
abbrev N_l_steps : List Str := ["_law_pool", "_law_count_here", "_law_width", "_law_base_here", "_law_bias", "_law_steps_here", "_law_k"]
theorem sc_l_steps : FnScope N_l_steps ["_law_pool", "_law_count_here", "_law_width"] (defScope st_l_steps) := ⟨rfl, rfl, rfl, by decide +kernel, rfl, by decide +kernel, by decide +kernel⟩
abbrev Sp_l_steps : Sp := SpG (γ := List Int × Int) (fun g => [PoolP g.1, IsI g.2, IsI 8]) (fun g => 0 ≤ g.2 ∧ g.2 ≤ 40) (fun g => ExP (StepsOk g.2.toNat) fun ss => LstP (ss.map stepP))
theorem ok_l_steps (T : Fx K mg) : Glob P w K mg base 3 "_law_steps" (He.ga K "_law_steps") ["_law_pool", "_law_count_here", "_law_width"] Sp_l_steps := by
  have G_l_draw := ok_l_draw (P := P) (w := w) (base := base) T
  have G_l_base := ok_l_base (P := P) (w := w) (base := base) T
  refine mkG T.f_l_steps T.g_l_steps sc_l_steps (fun _ => rfl) (fun _ _ _ _ _ _ us hl => match us, hl with | [_, _, _], _ => rfl) fun cdv A outer s H E hr => ?_
  have nd := sc_l_steps.nd
  refine ⟨_, (pss_cons (ps_set (i := 3) nd rfl (Or.inl rfl) (pe_callG G_l_base (hr.mono (by decide)) (pa_cons (pv 0) pa_nil)))
    (pss_cons (ps_set (i := 4) nd rfl (Or.inl rfl) (pe_callG G_l_draw (hr.mono (by decide)) (pa_cons (pv 0) (pa_cons pe_int pa_nil))))
    (pss_cons (ps_set (i := 5) nd rfl (Or.inl rfl) (pe_lst pa_nil))
    (pss_cons (ps_for PassesOwn.never rfl (pi_range1 (by rfl) T.n_range (pa_cons (pv 1) pa_nil)) (pg_name (i := 6) nd rfl (Or.inl rfl)) (pss_one (ps_if (pt_cmpR op_lt (pe_callG G_l_draw (hr.mono (by decide)) (pa_cons (pv 0) (pa_cons pe_int pa_nil))) (pv 4) (nomark _)) (pss_one (ps_expr (pe_bm PySem.F.plainAttrs_list PySem.F.slot_list_append PySem.F.type_list_append mt_append (pv 5) (pa_cons (pe_tup (pa_cons pe_str (pa_cons (pe_op op_add (pv 3) (pe_callG G_l_draw (hr.mono (by decide)) (pa_cons (pv 0) (pa_cons (pv 2) pa_nil)))) (pa_cons pe_int pa_nil)))) pa_nil)))) (pss_one (ps_expr (pe_bm PySem.F.plainAttrs_list PySem.F.slot_list_append PySem.F.type_list_append mt_append (pv 5) (pa_cons (pe_tup (pa_cons pe_str (pa_cons pe_int pa_nil))) pa_nil)))))))
    (pss_one (ps_ret (pv 5))))))), ?_⟩
  rintro ⟨scr, n⟩ vs Q ⟨hn0, hn1⟩ ⟨v1, _, rfl, h1, v2, _, rfl, (h2 : v2 = _), v3, _, rfl, (h3 : v3 = _), rfl⟩ q
  subst h2 h3
  have hn0 : 0 ≤ n := hn0
  have hn1 : n ≤ 40 := hn1
  have h1 : (PoolP scr).h v1 H := h1
  refine q_asg (ev_call scr trivial (ea1 (ev_var rfl h1))) fun v4 H1 e1 p4 => ?_
  obtain ⟨b, _, (p4 : v4 = _)⟩ := p4
  subst p4
  refine q_asg (ev_draw (n := 5) (by decide) (by decide) (ev_var rfl ((PoolP scr).kp e1 h1)) ev_c) fun v5 H2 e2 p5 => ?_
  obtain ⟨bias, _, (p5 : v5 = _)⟩ := p5
  subst p5
  have e12 := e1.trans e2
  refine q_asg (ev_lst ea_nil (by decide)) fun v6 H3 e3 p6 => ?_
  obtain ⟨l, ys, rfl, nl, hl, hys⟩ := p6
  have hys : ys = [] := hys
  subst hys
  have e13 := e12.trans e3
  have nl0 : H l = none := free_back e12 nl
  refine q_forR1 (hi := n) (ea1 (ev_v rfl)) (by omega) (fun i σ' H' => ∃ x6 ss ys, σ' = [some v1, some (.int n), some (.int 8), some (.int b), some (.int bias), some (.ref l), x6] ∧ Same H H' ∧ H' l = some (.lst ys) ∧ AllP (ss.map stepP) ys H' ∧ ss.length = i ∧ ∀ m ∈ insOf ss, b ≤ m ∧ m < b + 8)
    (fun H4 e4 => ⟨none, [], [], rfl, e13.trans e4, e4 _ _ hl, (show AllP [] [] H4 from rfl), rfl, fun _ h => by cases h⟩) ?_ ?_
  · rintro i σ' H4 hi ⟨x6, ss, ys, rfl, eH, hL, hys, hss, hb⟩
    have hp : (PoolP scr).h v1 H4 := (PoolP scr).kp eH h1
    have hyl : ys.length = ss.length := by rw [hys.len, List.length_map]
    show tIfS _ _ _ _ [some v1, some (.int n), some (.int 8), some (.int b), some (.int bias), some (.ref l), some (.int i)] H4
    have add : ∀ (te : TE) (D : Ends) (H5 : Hp), Same H4 H5 → EvP te [some v1, some (.int n), some (.int 8), some (.int b), some (.int bias), some (.ref l), some (.int i)] H5 (ExP (fun o => ∀ m ∈ o.toList, b ≤ m ∧ m < b + 8) stepP) →
        (∀ H6, (∃ x6 ss ys, [some v1, some (.int n), some (.int 8), some (.int b), some (.int bias), some (.ref l), some (.int i)] = [some v1, some (.int n), some (.int 8), some (.int b), some (.int bias), some (V.ref l), x6] ∧ Same H H6 ∧ H6 l = some (.lst ys) ∧ AllP (ss.map stepP) ys H6 ∧ ss.length = i + 1 ∧ ∀ m ∈ insOf ss, b ≤ m ∧ m < b + 8) → D.nx [some v1, some (.int n), some (.int 8), some (.int b), some (.int bias), some (.ref l), some (.int i)] H6) →
        tDrop (tBM K "list" rAppend (tVar 5) (tCons te tNil)) D [some v1, some (.int n), some (.int 8), some (.int b), some (.int bias), some (.ref l), some (.int i)] H5 := fun te D H5 e5 hte hD => by
      refine s_app (e5 _ _ hL) (ev_v rfl) hte (by omega) fun v7 H6 e6 ⟨o, ho, p7⟩ => hD _ ⟨_, ss ++ [o], ys ++ [v7], rfl, Same.chg ((eH.trans e5).trans e6) nl0, upd_same, ?_, by simp [hss], fun m hm => ?_⟩
      · have sm : Sim H6 (upd H6 l (.lst (ys ++ [v7]))) := Sim.lst (e6 _ _ (e5 _ _ hL))
        rw [List.map_append]
        exact AllP.snoc (AllP.fx (fun P hP => by obtain ⟨x, _, rfl⟩ := List.mem_map.mp hP; exact stepFix x) sm (AllP.kp (e5.trans e6) hys)) ((stepFix o).fx sm p7)
      · rw [insOf_snoc] at hm
        rcases List.mem_append.mp hm with hm | hm
        · exact hb m hm
        · exact ho m hm
    refine s_ifU (ev_cmpX (ev_draw (n := 4) (by decide) (by decide) (ev_var rfl hp) ev_c) (ev_v rfl)) (fun H5 e5 => ?_) fun H5 e5 => ?_
    · refine add _ _ H5 e5 (EvP.imp (ev_tup (Ps := [IsV (.str "insert"), ExP (fun m => b ≤ m ∧ m < b + 8) IsI, IsI 1]) (ea3 ev_c (ev_iX (f := fun i j => i + j) (fun _ _ => rfl) (ev_v rfl) (ev_draw (n := 8) (by decide) (by decide) (ev_var rfl ((PoolP scr).kp e5 hp)) (ev_v rfl)) fun j hj => by have := hj.1; have := hj.2; omega) ev_c) (by simp)) fun v H6 _ hv => ?_) fun H6 h => h
      obtain ⟨p, ys, rfl, hp, w1, _, rfl, k1, w2, _, rfl, ⟨m, hm, k2⟩, w3, _, rfl, k3, rfl⟩ := hv
      exact ⟨some m, fun m' h' => by have h' : m' = m := by simpa using h'
                                     rw [h']; exact hm, p, _, rfl, hp, w1, _, rfl, k1, w2, _, rfl, k2, w3, _, rfl, k3, rfl⟩
    · exact add _ _ H5 e5 ((ev_tup (Ps := [IsV (.str "remove"), IsI 1]) (ea2 ev_c ev_c) (by simp)).imp fun v H6 _ hv => ⟨none, (fun m h => by simp at h), hv⟩) fun H6 h => h
  · rintro σ' H4 ⟨x6, ss, ys, rfl, eH, hL, hys, hss, hb⟩
    exact s_ret (P := LstP (ss.map stepP)) (ev_var rfl ⟨l, ys, rfl, hL, hys⟩) fun v H5 e5 p => q v H5 (eH.trans e5) ⟨ss, ⟨hss, b, hb⟩, p⟩
end
end K79
end
section
set_option Elab.async false
set_option linter.all false
set_option maxRecDepth 100000
set_option maxHeartbeats 4000000
namespace K79
open PySem PySem.Spec L2
theorem ev_var' {σ : St} {H : Hp} {x : V} {P : Pr} (h : P.h x H) : EvP (tC x) σ H P := fun H1 e _ q => q x H1 (Same.refl H1) (P.kp e h)
section
variable {K : PySem.W.Frag} {σ : St} {H : Hp} {te ta tb tl to : TE} {tr : TA} {Ps : List Pr}
/-- ns.count(k) -/
theorem ev_count {ns : List Int} {k : Int} (ho : EvP to σ H (LstP (ns.map IsI))) (hk : EvP te σ H (IsI k)) : EvP (tBM K "list" (rCntI K) to (tCons te tNil)) σ H (IsI (ns.count k : Nat)) := fun H1 e Q q => ho H1 e _ fun x H2 e2 hx => by
  obtain ⟨p, ys, rfl, hp, hy⟩ := hx
  have ey : ys = ns.map V.int := AllP.is (f := V.int) hy
  subst ey
  refine ⟨.inl ⟨rfl, _, SqL.of hp⟩, hk H2 (e.trans e2) _ fun v H3 e3 (pv : v = _) => ?_⟩
  subst pv
  exact ⟨p, ns, k, rfl, rfl, SqL.of (e3 _ _ hp), q _ H3 (e2.trans e3) rfl⟩
/-- sorted(ns) -/
theorem ev_sortI {ns : List Int} (h : EvP te σ H (LstP (ns.map IsI))) : EvP (tCB (rSortedI K) (tCons te tNil)) σ H (ExP (fun ns' => List.Perm ns' ns) fun ns' => LstP (ns'.map IsI)) := ev_cb (ea1 h) fun vs H1 _ hv k q => by
  obtain ⟨v, _, rfl, ⟨p, ys, rfl, hp, hy⟩, rfl⟩ := hv
  have ey : ys = ns.map V.int := AllP.is (f := V.int) hy
  subst ey
  exact ⟨p, ns, rfl, SqL.of hp, fun ns' l hpm _ hl => q _ _ (Same.ext (Same.refl H1) hl) ⟨ns', hpm, l, _, rfl, upd_same, AllP.of_is⟩⟩
/-- ns[1:] -/
theorem ev_cut1 {ns : List Int} (h : EvP te σ H (LstP (ns.map IsI))) : EvP (tSl (rSlL K) te (tPart (tC (.int 1))) tNoPart) σ H (LstP ((ns.drop 1).map IsI)) := fun H1 e Q q => h H1 e _ fun v H2 e2 hv => by
  obtain ⟨p, ys, rfl, hp, hy⟩ := hv
  have ey : ys = ns.map V.int := AllP.is (f := V.int) hy
  subst ey
  refine ⟨1, rfl, p, _, rfl, SqL.of hp, fun l hl => q _ _ (e2.trans (Same.ext (Same.refl H2) hl)) ⟨l, _, rfl, upd_same, ?_⟩⟩
  have e : cutV (ns.map V.int) (some 1) none = (ns.drop 1).map V.int := by
    unfold cutV
    rw [HT.sIx_none, show (some (1 : Int)) = some ((1 : Nat) : Int) from rfl, HT.sIx_nat, List.map_drop]
    cases ns with
    | nil => rfl
    | cons a r =>
      simp only [List.map_cons, List.length_cons, List.drop_succ_cons, List.drop_zero]
      rw [show min 1 ((r.map V.int).length + 1) = 1 by omega]
      simp only [List.drop_succ_cons, List.drop_zero]
      rw [List.take_of_length_le (by omega)]
  rw [e]
  exact AllP.of_is
/-- t * k, k nought or one -/
theorem ev_rep01X (ha : EvP ta σ H (SolP Ps)) (hb : EvP tb σ H (ExP (fun k => k = 0 ∨ k = 1) IsI)) (hne : Ps ≠ []) : EvP (tOp (rRep01 K) ta tb) σ H (ExP (fun _ : Int => True) fun k => SolP (if k = 1 then Ps else [])) := fun H1 e Q q =>
  ha H1 e _ fun x H2 e2 hx => hb H2 (e.trans e2) _ fun y H3 e3 ⟨k, hk, (hy : y = _)⟩ => by
    subst hy
    obtain ⟨p, ys, o, rfl, hd, hp, hP⟩ := (SolP Ps).kp e3 hx
    have hy : ys ≠ [] := fun z => by
      subst z
      exact hne (List.eq_nil_of_length_eq_zero hP.len.symm)
    refine ⟨p, k, ys, rfl, rfl, .inl (.inr ⟨o, hp⟩), hy, ?_⟩
    rcases hk with rfl | rfl
    · exact .inr ⟨rfl, fun l u hn hu => q _ _ ((e2.trans e3).trans (Same.ext (Same.refl H3) hn)) ⟨0, trivial, l, [], u, rfl, hu, upd_same, rfl⟩⟩
    · exact .inl ⟨rfl, q _ _ (e2.trans e3) ⟨1, trivial, p, ys, o, rfl, hd, hp, hP⟩⟩
/-- int(a draw == 0) -/
theorem ev_intEq {φ : Int → Prop} {r : List V → Hp → VK → Prop} (hr : r = fun xs H Q => (∃ i, xs = [.int i] ∧ Q (.int i) H) ∨ ∃ k, xs = [.bl k] ∧ Q (.int (if k then 1 else 0)) H) (h : EvP te σ H (ExP φ IsI)) :
    EvP (tCB r (tCons (tOp rEq te (tC (.int 0))) tNil)) σ H (ExP (fun k => k = 0 ∨ k = 1) IsI) := by
  subst hr
  refine ev_cb (Ps := [ExP (fun _ : Bool => True) IsB]) (ea1 (ev_opP h (ev_c (v := .int 0)) fun x y H1 e ⟨i, _, (hx : x = _)⟩ (hy : y = _) Q q => ?_)) fun vs H1 _ hv Q q => ?_
  · subst hx hy
    exact ⟨rfl, q _ H1 (Same.refl H1) ⟨_, trivial, rfl⟩⟩
  · obtain ⟨v, _, rfl, ⟨b, _, (pv : v = _)⟩, rfl⟩ := hv
    subst pv
    refine .inr ⟨b, rfl, q _ H1 (Same.refl H1) ⟨if b then 1 else 0, ?_, rfl⟩⟩
    cases b
    · exact .inl rfl
    · exact .inr rfl
theorem ev_catX {α β : Type} {f : α → List Pr} {g : β → List Pr} {φ : α → Prop} {ψ : β → Prop} (ha : EvP ta σ H (ExP φ fun a => SolP (f a))) (hb : EvP tb σ H (ExP ψ fun b => SolP (g b))) (hl : ∀ a b, φ a → ψ b → (f a).length + (g b).length ≤ 100000) : EvP (tOp (rCatF K) ta tb) σ H (ExP (fun p : α × β => φ p.1 ∧ ψ p.2) fun p => SolP (f p.1 ++ g p.2)) := fun H1 e Q q =>
  ha H1 e _ fun x H2 e2 ⟨a, hφ, hx⟩ => hb H2 (e.trans e2) _ fun y H3 e3 ⟨b, hψ, hy⟩ => by
    refine ev_catF (K := K) (ta := tC x) (tb := tC y) (σ := σ) (H := H3) (ev_var' ((SolP _).kp e3 hx)) (ev_var' hy) (hl a b hφ hψ) H3 (Same.refl H3) _ fun v H4 e4 p => q v H4 ((e2.trans e3).trans e4) ⟨(a, b), ⟨hφ, hψ⟩, p⟩
end
section
variable {P : Program} {w : World} {K : PySem.W.Frag} {mg : Str → Option Value} {base : Heap}
/-! ### _law_bag -/
abbrev N_l_bag : List Str := ["_law_numbers", "_law_number"]
theorem sc_l_bag : FnScope N_l_bag ["_law_numbers"] (defScope st_l_bag) := ⟨rfl, rfl, rfl, by decide +kernel, rfl, by decide +kernel, by decide +kernel⟩
abbrev Sp_l_bag : Sp := SpG (γ := List Int) (fun ns => [LstP (ns.map IsI)]) (fun ns => ns.length < 64) (fun ns => BagP (bagL ns))
theorem ok_l_bag (T : Fx K mg) : Glob P w K mg base 1 "_law_bag" (He.ga K "_law_bag") ["_law_numbers"] Sp_l_bag := by
  refine mkG T.f_l_bag T.g_l_bag sc_l_bag (fun _ => rfl) (fun _ _ _ _ _ _ us hl => match us, hl with | [_], _ => rfl) fun cdv A outer s H E hr => ?_
  have nd := sc_l_bag.nd
  refine ⟨_, (pss_one (ps_ret (pe_callTy call_tupleF (by rfl) T.n_tuple (by decide +kernel) (pa_cons (pe_lc (own := [("_law_number", 1)]) (g := gName 1) (tt := tYes) rfl nd (pi_list (pe_callB (cr_sortedSet rfl) (by rfl) T.n_sorted (by decide +kernel) (pa_cons (pe_callTy (call_setI rfl) (by rfl) T.n_set (by decide +kernel) (pa_cons (pv 0) pa_nil)) pa_nil))) (blkOk_by (N := N_l_bag) (sc := defScope st_l_bag) (by decide +kernel)) (fun _ _ _ _ _ => (pg_name (i := 1) nd rfl (Or.inl rfl))) (fun _ _ _ _ _ => pts_nil) (fun _ _ _ _ _ => (pe_tup (pa_cons (pv 1) (pa_cons (pe_bmK (K := K) rfl PySem.F.plainAttrs_list PySem.F.slot_list_count PySem.F.type_list_count (mt_lcountK (K := K) rfl) (pv 0) (pa_cons (pv 1) pa_nil)) pa_nil))))) pa_nil)))), ?_⟩
  rintro ns vs Q hl ⟨v, _, rfl, hv, rfl⟩ q
  have hl : ns.length < 64 := hl
  have hv : (LstP (ns.map IsI)).h v H := hv
  refine s_ret (P := SolP ((bagL ns).map entP)) (ev_tupleF ?_) fun v H1 e p => q v H1 e ⟨Nat.le_trans (nf_len _) (by rw [List.length_map]; omega), p⟩
  refine EvP.imp (ev_lcX (φ := srtOf ns) (fun z => entP (z, ((ns.count z : Nat) : Int))) (ev_srtSet (ev_var rfl hv) hl) (fun zs hz => ?_) (fun _ => rfl) fun a H1 e => ev_tup (Ps := [IsI a, IsI (ns.count a : Nat)]) (ea2 (ev_v rfl) (ev_count (ev_var rfl ((LstP _).kp e hv)) (ev_v rfl))) (by simp)) fun v H1 _ ⟨zs, hz, p⟩ => ?_
  · have := Nat.le_trans (Nat.le_of_eq (show zs.length = (bagL ns).length by rw [← bagL_of hz.1 hz.2, List.length_map])) (nf_len _)
    rw [List.length_map] at this
    omega
  · rw [← bagL_of hz.1 hz.2, List.map_map]
    exact NewL.lst p
/-! ### _law_triple -/
theorem ins_rem : (V.str "remove" = V.str "insert") = False := by
  rw [V.str.injEq]
  exact eq_false (by decide +kernel)
abbrev N_l_triple : List Str := ["_law_steps_here", "_law_inserted", "_law_step", "_law_present"]
theorem sc_l_triple : FnScope N_l_triple ["_law_steps_here"] (defScope st_l_triple) := ⟨rfl, rfl, rfl, by decide +kernel, rfl, by decide +kernel, by decide +kernel⟩
abbrev Sp_l_triple : Sp := SpG (γ := Nat × List (Option Int)) (fun g => [LstP (g.2.map stepP)]) (fun g => StepsOk g.1 g.2 ∧ g.1 ≤ 40) (fun _ => ExP (fun e : Eff => TripOk e.I e.R e.S) fun e => TupP [BagP e.I, IsI e.R, BagP e.S])
theorem ok_l_triple (T : Fx K mg) : Glob P w K mg base 2 "_law_triple" (He.ga K "_law_triple") ["_law_steps_here"] Sp_l_triple := by
  have G_l_bag := ok_l_bag (P := P) (w := w) (base := base) T
  refine mkG T.f_l_triple T.g_l_triple sc_l_triple (fun _ => rfl) (fun _ _ _ _ _ _ us hl => match us, hl with | [_], _ => rfl) fun cdv A outer s H E hr => ?_
  have nd := sc_l_triple.nd
  refine ⟨_, (pss_cons (ps_setLc (own := [("_law_step", 2)]) (g := gName 2) (i := 1) rfl nd rfl rfl (sw_true rfl rfl rfl (by decide +kernel)) (pi_list (pv 0)) (blkOk_by (N := N_l_triple) (sc := defScope st_l_triple) (by decide +kernel)) (fun _ _ _ _ _ => (pg_name (i := 2) nd rfl (Or.inl rfl))) (fun _ _ _ _ _ => (pts_one (pt_cmpR op_eq (pe_ix (ix_tupK (K := K) rfl) (pv 2) pe_int (fun _ _ => rfl)) pe_str (nomark _)))) (fun _ _ _ _ _ => (pe_ix (ix_tupK (K := K) rfl) (pv 2) pe_int (fun _ _ => rfl))))
    (pss_cons (ps_set (i := 3) nd rfl (Or.inl rfl) (pe_lst pa_nil))
    (pss_cons (ps_for PassesOwn.never rfl (pi_list (pv 0)) (pg_name (i := 2) nd rfl (Or.inl rfl)) (pss_one (ps_if (pt_cmpR op_eq (pe_ix ix_tup (pv 2) pe_int (fun _ _ => rfl)) pe_str (nomark _)) (pss_one (ps_set (i := 3) nd rfl (Or.inl rfl) (pe_callB cr_sortedI (by rfl) T.n_sorted (by decide +kernel) (pa_cons (pe_op op_cat (pv 3) (pe_lst (pa_cons (pe_ix ix_tup (pv 2) pe_int (fun _ _ => rfl)) pa_nil))) pa_nil)))) (pss_one (ps_set (i := 3) nd rfl (Or.inl rfl) (pe_slice sl_list (pv 3) (po_some pe_int) po_none))))))
    (pss_one (ps_ret (pe_tup (pa_cons (pe_callG G_l_bag (hr.mono (by decide)) (pa_cons (pv 1) pa_nil)) (pa_cons (pe_op op_sub (pe_callB call_len_seq (by rfl) T.n_len (by decide +kernel) (pa_cons (pv 0) pa_nil)) (pe_callB call_len_seq (by rfl) T.n_len (by decide +kernel) (pa_cons (pv 1) pa_nil))) (pa_cons (pe_callG G_l_bag (hr.mono (by decide)) (pa_cons (pv 3) pa_nil)) pa_nil))))))))), ?_⟩
  rintro ⟨n, ss⟩ vs Q ⟨hs, hn⟩ ⟨v, _, rfl, hv, rfl⟩ q
  have hs : StepsOk n ss := hs
  have hn : n ≤ 40 := hn
  have hv : (LstP (ss.map stepP)).h v H := hv
  have hl := hs.n
  have s0 : ∀ {σ : St} {H1 : Hp} {x : V} {o : Option Int}, σ[2]? = some (some x) → (stepP o).h x H1 → EvT (tTest (tOp rEq (tOp (rIxT K) (tVar 2) (tC (.int 0))) (tC (.str "insert")))) σ H1 o.isSome := fun {σ H1 x o} hσ hx => by
    cases o with
    | some m => exact EvT.is (et_test (ev_eq (ev_ixT (Ps := [IsV (.str "insert"), IsI m, IsI 1]) (i := 0) (ev_var hσ hx) ev_c rfl) ev_c rfl)) (by simp)
    | none => exact EvT.is (et_test (ev_eq (ev_ixT (Ps := [IsV (.str "remove"), IsI 1]) (i := 0) (ev_var hσ hx) ev_c rfl) ev_c rfl)) (decide_eq_false (by rw [ins_rem]; exact id))
  refine q_asg (P := LstP ((insOf ss).map IsI)) (EvP.imp (ev_lcL1 (xs := ss) (P1 := stepP) Option.isSome (fun o => IsI (o.getD 0)) (ev_var rfl hv) (by omega) (fun _ => rfl) (fun o _ v1 H1 _ h1 => s0 rfl h1) fun o _ v1 H1 _ h1 ho => ?_) fun v H1 _ p => ?_) fun v1 H1 e1 p1 => ?_
  · cases o with
    | some m => exact ev_ixT (Ps := [IsV (.str "insert"), IsI m, IsI 1]) (i := 1) (ev_var rfl h1) ev_c rfl
    | none => cases ho
  · rw [← insOf_filter, List.map_map]
    exact NewL.lst p
  refine q_asg (P := LstP (([] : List Int).map IsI)) (ev_lst' ea_nil (by decide)) fun v3 H2 e2 p3 => ?_
  have e12 := e1.trans e2
  refine q_forL (H0 := H) (Ps := ss.map stepP) (ev_v rfl) hv (fun i σ' H' => ∃ x2 v3 p, σ' = [some v, some v1, x2, some v3] ∧ Same H H' ∧ Same H1 H' ∧ (LstP (p.map IsI)).h v3 H' ∧ Left (ss.take i) p)
    (fun H3 e3 => ⟨none, v3, [], rfl, e12.trans e3, e2.trans e3, (LstP _).kp e3 p3, Left.nil⟩) (fun i σ' H' ⟨_, _, _, _, e, _⟩ => e) ?_ ?_
  · rintro i P' y σ' H' hi hy ⟨x2, v3, p, rfl, eH, eH1, hp, hL⟩
    rw [List.getElem?_map] at hi
    obtain ⟨o, ho, rfl⟩ := Option.map_eq_some_iff.mp hi
    have et : ss.take (i + 1) = ss.take i ++ [o] := by rw [List.take_succ, ho] <;> rfl
    have hlt : i < ss.length := (List.getElem?_eq_some_iff.mp ho).1
    show tIfS _ _ _ _ [some v, some v1, some y, some v3] H'
    refine s_if (b := o.isSome) (s0 rfl hy) (fun z H3 e3 => ?_) fun z H3 e3 => ?_
    · cases o with
      | none => cases z
      | some m =>
        have hpl : p.length ≤ 1000 := by
          have := hL.s
          have := insOf_len (ss.take i)
          rw [List.length_take] at this
          omega
        refine s_asg (ev_sortI (ns := p ++ [m]) ((EvP.imp (ev_catL (Ps := p.map IsI) (Qs := [IsI m]) (ev_var rfl ((LstP _).kp e3 hp)) (ev_lst' (ea1 (ev_ixT (Ps := [IsV (.str "insert"), IsI m, IsI 1]) (i := 1) (ev_var rfl ((stepP (some m)).kp e3 hy)) ev_c rfl)) (by simp)) (by rw [List.length_map]; simp; omega)) fun v H4 _ p4 => by
          rw [List.map_append]
          exact NewL.lst p4))) fun v4 H4 e4 ⟨p', hp', h4⟩ => ⟨_, v4, p', rfl, (eH.trans e3).trans e4, (eH1.trans e3).trans e4, h4, by rw [et]; exact hL.ins hp'⟩
    · cases o with
      | some m => cases z
      | none =>
        refine s_asg (ev_cut1 (ev_var rfl ((LstP _).kp e3 hp))) fun v4 H4 e4 h4 => ⟨_, v4, p.drop 1, rfl, (eH.trans e3).trans e4, (eH1.trans e3).trans e4, h4, by rw [et]; exact hL.rem⟩
  · rintro σ' H' ⟨x2, v3, p, rfl, eH, eH1, hp, hL⟩
    rw [List.length_map, List.take_of_length_le (Nat.le_refl _)] at hL
    have hpl : p.length ≤ (insOf ss).length := hL.s
    have il := insOf_len ss
    have p1' := (LstP ((insOf ss).map IsI)).kp eH1 p1
    refine s_ret (P := TupP [BagP (bagL (insOf ss)), IsI ((ss.length : Int) - ((insOf ss).length : Int)), BagP (bagL p)]) (ev_tup (ea3 (ev_call (insOf ss) (by show (insOf ss).length < 64; omega) (ea1 (ev_var rfl p1'))) (ev_i (i := (ss.length : Nat)) (j := ((insOf ss).length : Nat)) ?_ ?_ rfl) (ev_call p (by show p.length < 64; omega) (ea1 (ev_var rfl hp)))) (by simp)) fun v H1 e pv => q v H1 (eH.trans e) ⟨⟨_, _, _⟩, tripOk hs hn hL, pv⟩
    · rw [show ((ss.length : Nat) : Int) = ((ss.map stepP).length : Nat) by rw [List.length_map]]
      exact ev_lenL (ev_var rfl ((LstP _).kp eH hv)) rfl
    · rw [show (((insOf ss).length : Nat) : Int) = (((insOf ss).map IsI).length : Nat) by rw [List.length_map]]
      exact ev_lenL (ev_var rfl p1') rfl
/-! ### _law_moved_heap -/
abbrev N_l_moved_heap : List Str := ["_law_pool", "_law_effect", "_law_base_here", "_law_heap", "_law_k", "_law_great", "_law_low"]
theorem sc_l_moved_heap : FnScope N_l_moved_heap ["_law_pool", "_law_effect", "_law_base_here"] (defScope st_l_moved_heap) := ⟨rfl, rfl, rfl, by decide +kernel, rfl, by decide +kernel, by decide +kernel⟩
abbrev Sp_l_moved_heap (K : PySem.W.Frag) : Sp := SpG (γ := List Int × Eff × Int) (fun g => [PoolP g.1, EffP K g.2.1, IsI g.2.2]) (fun g => 0 ≤ g.2.1.R - tot g.2.1.I + tot g.2.1.S ∧ g.2.1.R - tot g.2.1.I + tot g.2.1.S ≤ 40) (fun g => ExP (HeapOk g.2.2 (g.2.1.R - tot g.2.1.I + tot g.2.1.S)) BagP)
theorem ok_l_moved_heap (T : Fx K mg) : Glob P w K mg base 4 "_law_moved_heap" (He.ga K "_law_moved_heap") ["_law_pool", "_law_effect", "_law_base_here"] (Sp_l_moved_heap K) := by
  have G_l_draw := ok_l_draw (P := P) (w := w) (base := base) T
  have G_l_bag := ok_l_bag (P := P) (w := w) (base := base) T
  have G_Eneeded := ok_Eneeded (P := P) (w := w) (base := base) T
  refine mkG T.f_l_moved_heap T.g_l_moved_heap sc_l_moved_heap (fun _ => rfl) (fun _ _ _ _ _ _ us hl => match us, hl with | [_, _, _], _ => rfl) fun cdv A outer s H E hr => ?_
  have nd := sc_l_moved_heap.nd
  refine ⟨_, (pss_cons (ps_setLc (own := [("_law_k", 4)]) (g := gName 4) (tt := tYes) (i := 3) rfl nd rfl rfl (sw_true rfl rfl rfl (by decide +kernel)) (pi_range1 (by rfl) T.n_range (pa_cons (pe_op op_add (pe_propG T.cls_E T.p_needed G_Eneeded (hr.mono (by decide)) (pv 1)) (pe_callG G_l_draw (hr.mono (by decide)) (pa_cons (pv 0) (pa_cons pe_int pa_nil)))) pa_nil)) (blkOk_by (N := N_l_moved_heap) (sc := defScope st_l_moved_heap) (by decide +kernel)) (fun _ _ _ _ _ => (pg_name (i := 4) nd rfl (Or.inl rfl))) (fun _ _ _ _ _ => pts_nil) (fun _ _ _ _ _ => (pe_op op_add (pe_op op_sub (pv 2) pe_int) (pe_callG G_l_draw (hr.mono (by decide)) (pa_cons (pv 0) (pa_cons pe_int pa_nil))))))
    (pss_cons (ps_set (i := 5) nd rfl (Or.inl rfl) (pe_op op_add pe_int (pe_callG G_l_draw (hr.mono (by decide)) (pa_cons (pv 0) (pa_cons (pe_op op_pow pe_int pe_int) pa_nil)))))
    (pss_cons (ps_set (i := 6) nd rfl (Or.inl rfl) (pe_op op_rep01 (pe_tupF (pa_cons (pe_tup (pa_cons (pe_op op_sub (pv 2) pe_int) (pa_cons (pv 5) pa_nil))) pa_nil)) (pe_callTy call_int1 (by rfl) T.n_int (by decide +kernel) (pa_cons (pe_cmpR op_eq (pe_callG G_l_draw (hr.mono (by decide)) (pa_cons (pv 0) (pa_cons pe_int pa_nil))) pe_int (nomark _)) pa_nil))))
    (pss_one (ps_ret (pe_op op_catF (pe_op op_catF (pv 6) (pe_callG G_l_bag (hr.mono (by decide)) (pa_cons (pv 3) pa_nil))) (pe_op op_rep01 (pe_tupF (pa_cons (pe_tup (pa_cons (pe_op op_add (pv 2) pe_int) (pa_cons (pv 5) pa_nil))) pa_nil)) (pe_callTy call_int1 (by rfl) T.n_int (by decide +kernel) (pa_cons (pe_cmpR op_eq (pe_callG G_l_draw (hr.mono (by decide)) (pa_cons (pv 0) (pa_cons pe_int pa_nil))) pe_int (nomark _)) pa_nil))))))))), ?_⟩
  rintro ⟨scr, e, b⟩ vs Q ⟨hn0, hn1⟩ ⟨v1, _, rfl, h1, v2, _, rfl, h2, v3, _, rfl, (h3 : v3 = _), rfl⟩ q
  subst h3
  generalize hnd : e.R - tot e.I + tot e.S = need at *
  have hn0 : 0 ≤ need := by rw [← hnd]; first | exact hn0 | (rw [hnd]; exact hn0)
  have hn1 : need ≤ 40 := by rw [← hnd]; first | exact hn1 | (rw [hnd]; exact hn1)
  have h1 : (PoolP scr).h v1 H := h1
  have h2 : (EffP K e).h v2 H := h2
  refine q_asg (P := ExP (lenOf (fun m => need ≤ m ∧ m < need + 20) fun n => b - 2 ≤ n ∧ n < b + 10) fun ns => NewL H (ns.map IsI)) (ev_lcR (ea1 (ev_iX (f := fun i j => i + j) (i := need) (fun _ _ => rfl) (EvP.is (ev_prop e rfl trivial (ev_var rfl h2) eff_ins) (by rw [hnd])) (ev_draw (n := 20) (by decide) (by decide) (ev_var rfl h1) ev_c) fun j hj => by have := hj.1; have := hj.2; omega)) (fun m hm => by omega) (fun _ => rfl) fun x H1 e1 => ev_iX (f := fun i j => i + j) (i := b - 2) (fun _ _ => rfl) (ev_i (ev_v rfl) ev_c rfl) (ev_draw (n := 12) (by decide) (by decide) (ev_var rfl ((PoolP scr).kp e1 h1)) ev_c) fun j hj => by have := hj.1; have := hj.2; omega) fun v4 H1 e1 p4 => ?_
  obtain ⟨ns, ⟨⟨m, hm, hml⟩, hw⟩, p4⟩ := p4
  have p4 := NewL.lst p4
  refine q_asg (P := ExP (fun g => 1 ≤ g) IsI) (ev_iX (f := fun i j => i + j) (i := 1) (fun _ _ => rfl) ev_c (ev_draw (n := 10 ^ (30 : Int).toNat) (by decide) (by decide) (ev_var rfl ((PoolP scr).kp e1 h1)) (ev_pow ⟨by decide, by decide, by decide⟩)) fun j hj => by have := hj.1; omega) fun v5 H2 e2 p5 => ?_
  obtain ⟨g, hg, (p5 : v5 = _)⟩ := p5
  subst p5
  have e12 := e1.trans e2
  refine q_asg (ev_rep01X (Ps := [entP (b - 3, g)]) (ev_tupF (ea1 (ev_tup (Ps := [IsI (b - 3), IsI g]) (ea2 (ev_i (ev_v rfl) ev_c rfl) (ev_v rfl)) (by simp))) (by simp)) (ev_intEq rfl (ev_draw (n := 3) (by decide) (by decide) (ev_var rfl ((PoolP scr).kp e12 h1)) ev_c)) (by simp)) fun v6 H3 e3 p6 => ?_
  obtain ⟨i, _, p6⟩ := p6
  have e13 := e12.trans e3
  have hz : ns.length < 64 := by omega
  have hbl : (bagL ns).length ≤ 64 := by
    have := nf_len (ns.map fun n => (n, (1 : Int)))
    rw [List.length_map] at this
    exact Nat.le_trans this (by omega)
  have l1 : (if i = 1 then [entP (b - 3, g)] else []).length ≤ 1 := by split <;> simp
  refine s_ret (P := ExP (fun _ : Unit × Int => True) fun p => SolP (((if i = 1 then [entP (b - 3, g)] else []) ++ (bagL ns).map entP) ++ (if p.2 = 1 then [entP (b + 40, g)] else []))) (EvP.imp (ev_catX (φ := fun _ : Unit => True) (f := fun _ => (if i = 1 then [entP (b - 3, g)] else []) ++ (bagL ns).map entP) (ψ := fun _ : Int => True) (g := fun j => if j = 1 then [entP (b + 40, g)] else [])
    ((ev_catF (ev_var rfl p6) ((ev_call ns hz (ea1 (ev_var rfl ((LstP _).kp (e2.trans e3) p4)))).imp fun v H4 _ (p : (BagP (bagL ns)).h v H4) => p.2) (by rw [List.length_map]; omega)).imp fun v H4 _ p => ⟨(), trivial, p⟩)
    (ev_rep01X (Ps := [entP (b + 40, g)]) (ev_tupF (ea1 (ev_tup (Ps := [IsI (b + 40), IsI g]) (ea2 (ev_i (ev_v rfl) ev_c rfl) (ev_v rfl)) (by simp))) (by simp)) (ev_intEq rfl (ev_draw (n := 3) (by decide) (by decide) (ev_var rfl ((PoolP scr).kp e13 h1)) ev_c)) (by simp)) fun a j _ _ => ?_) fun v H4 _ ⟨p, _, h⟩ => ⟨p, trivial, h⟩) fun v H4 e4 ⟨⟨_, j⟩, _, p⟩ => ?_
  · have l2 : (if j = 1 then [entP (b + 40, g)] else []).length ≤ 1 := by split <;> simp
    rw [List.length_append, List.length_map]
    omega
  · have ok := heapOk (i := i) (j := j) hg (need := need) (base := b) (ns := ns) (by omega) hw
    refine q v H4 (e13.trans e4) ⟨_, ok, Nat.le_trans ok.l (by decide), ?_⟩
    have em : ((if i = 1 then [(b - 3, g)] else []) ++ bagL ns ++ (if j = 1 then [(b + 40, g)] else [])).map entP = ((if i = 1 then [entP (b - 3, g)] else []) ++ (bagL ns).map entP) ++ (if j = 1 then [entP (b + 40, g)] else []) := by
      rw [List.map_append, List.map_append]
      split <;> split <;> rfl
    rw [em]
    exact p
end
end K79
end
section
set_option Elab.async false
set_option linter.all false
set_option maxRecDepth 100000
set_option maxHeartbeats 4000000
namespace K79
open PySem PySem.Spec L2
section
variable {P : Program} {w : World} {K : PySem.W.Frag} {mg : Str → Option Value} {base : Heap}
/-! ### agrees -/
abbrev N_agrees : List Str := ["effect", "observations", "before", "after"]
theorem sc_agrees : FnScope N_agrees ["effect", "observations"] (defScope st_agrees) := ⟨rfl, rfl, rfl, by decide +kernel, rfl, by decide +kernel, by decide +kernel⟩
structure AgrOk (e : Eff) (obs : List (Bag × Bag)) : Prop where
  v : Val e
  n : obs.length ≤ 20
  o : ∀ o ∈ obs, IsBag o.1 ∧ IsBag o.2 ∧ e.R - tot e.I + tot e.S ≤ tot o.1 ∧ applyB e o.1 = o.2 ∧ o.1.length + (e.I.length + e.S.length) + e.S.length ≤ 1000
abbrev Sp_agrees (K : PySem.W.Frag) : Sp := SpG (γ := Eff × List (Bag × Bag)) (fun g => [EffP K g.1, ObsP g.2]) (fun g => AgrOk g.1 g.2) (fun _ => IsB true)
theorem ok_agrees (T : Fx K mg) : Glob P w K mg base 7 "agrees" (He.ga K "agrees") ["effect", "observations"] (Sp_agrees K) := by
  have G_check_effects := ok_check_effects (P := P) (w := w) (base := base) T
  have G_check_observations := ok_check_observations (P := P) (w := w) (base := base) T
  have G_total := ok_total (P := P) (w := w) (base := base) T
  have G_Eneeded := ok_Eneeded (P := P) (w := w) (base := base) T
  have G_Eapply := ok_Eapply (P := P) (w := w) (base := base) T
  refine mkG T.f_agrees T.g_agrees sc_agrees (fun _ => rfl) (fun _ _ _ _ _ _ us hl => match us, hl with | [_, _], _ => rfl) fun cdv A outer s H E hr => ?_
  have nd := sc_agrees.nd
  refine ⟨_, (pss_cons (ps_expr (pe_callG G_check_effects (hr.mono (by decide)) (pa_cons (pe_lst (pa_cons (pv 0) pa_nil)) pa_nil)))
    (pss_cons (ps_expr (pe_callG G_check_observations (hr.mono (by decide)) (pa_cons (pv 1) pa_nil)))
    (pss_one (ps_ret (pe_callB (cr_all rfl) (by rfl) T.n_all (by decide +kernel) (pa_cons (pe_lc (own := [("before", 2), ("after", 3)]) (g := gTup K 2 (gCons (gName 2) (gCons (gName 3) gNil))) (tt := tYes) rfl nd (pi_list (pv 1)) (blkOk_by (N := N_agrees) (sc := defScope st_agrees) (by decide +kernel)) (fun _ _ _ _ _ => (pg_tup rfl (pgs_cons (pg_name (i := 2) nd rfl (Or.inl rfl)) (pgs_cons (pg_name (i := 3) nd rfl (Or.inl rfl)) pgs_nil)))) (fun _ _ _ _ _ => pts_nil) (fun _ _ _ _ _ => (pe_and (pe_cmpR op_ge (pe_callG G_total (hr.mono (by decide)) (pa_cons (pv 2) pa_nil)) (pe_propG T.cls_E T.p_needed G_Eneeded (hr.mono (by decide)) (pv 0)) (nomark _)) (pe_one (pe_cmpR (op_eqDK (K := K) rfl hr.units) (pe_methG T.cls_E T.m_Eapply G_Eapply (hr.mono (by decide)) (pv 0) (pa_cons (pv 2) pa_nil)) (pv 3) (nomark _)))))) pa_nil)))))), ?_⟩
  rintro ⟨e, obs⟩ vs Q ok ⟨v1, _, rfl, h1, v2, _, rfl, h2, rfl⟩ q
  have ok : AgrOk e obs := ok
  have h1 : (EffP K e).h v1 H := h1
  have h2 : (LstP (obs.map obP)).h v2 H := h2
  refine q_drop (ev_call e trivial (ea1 (ev_lst' (ea1 (ev_var rfl h1)) (by simp)))) fun H1 e1 => ?_
  refine q_drop (ev_call obs ⟨ok.n, fun o ho => ⟨(ok.o o ho).1, (ok.o o ho).2.1⟩⟩ (ea1 (ev_var rfl ((ObsP obs).kp e1 h2)))) fun H2 e2 => ?_
  have e12 := e1.trans e2
  have h1 := (EffP K e).kp e12 h1
  have h2 := (LstP (obs.map obP)).kp e12 h2
  refine s_ret (P := IsB (obs.all fun _ => true)) (ev_all (xs := obs) (f := fun _ => true) ?_) fun v H3 e3 (pv : v = _) => by subst pv; exact q _ H3 (e12.trans e3) (by show V.bl _ = V.bl true; rw [List.all_eq_true.mpr fun _ _ => rfl])
  refine EvP.imp (ev_lcL2 (xs := obs) (P1 := fun o => BagP o.1) (P2 := fun o => BagP o.2) (fun _ => true) (fun _ => IsB true) (ev_var rfl h2) (by have := ok.n; omega) (fun _ _ => rfl) (fun _ _ _ _ _ _ _ _ => et_yes) fun o ho w1 w2 H3 e3 k1 k2 _ => ?_) fun v H3 _ p => by rw [kept_all] at p; exact NewL.lst p
  obtain ⟨o1, o2, o3, o4, o5⟩ := ok.o o ho
  refine ev_and (a := true) (b := true) (ev_i (i := tot o.1) (j := e.R - tot e.I + tot e.S) (ev_call o.1 trivial (ea1 (ev_var rfl k1))) (ev_prop e rfl trivial (ev_var rfl ((EffP K e).kp e3 h1)) eff_ins) (by rw [decide_eq_true (show tot o.1 ≥ _ from o3)])) fun _ => ?_
  exact ev_eqD (P := BagP (applyB e o.1)) (Q := BagP o.2) (ev_meth (e, o.1) rfl ⟨ok.v, o1, o3, o5⟩ (ev_var rfl ((EffP K e).kp e3 h1)) (ea1 (ev_var rfl k1)) (eff_meth (by decide +kernel))) (ev_var rfl k2) dp_bag dp_bag (sh_bag _) (sh_bag _) (by rw [eqv_bag, decide_eq_true o4])
/-! ### _law_at_most -/
abbrev N_l_at_most : List Str := ["_law_bag_here", "_law_number", "_law_one", "_law_many"]
theorem sc_l_at_most : FnScope N_l_at_most ["_law_bag_here", "_law_number"] (defScope st_l_at_most) := ⟨rfl, rfl, rfl, by decide +kernel, rfl, by decide +kernel, by decide +kernel⟩
abbrev Sp_l_at_most : Sp := SpG (γ := Bag × Int) (fun g => [BagP g.1, IsI g.2]) (fun _ => True) (fun g => IsI (lev g.1 g.2))
theorem ok_l_at_most (T : Fx K mg) : Glob P w K mg base 1 "_law_at_most" (He.ga K "_law_at_most") ["_law_bag_here", "_law_number"] Sp_l_at_most := by
  refine mkG T.f_l_at_most T.g_l_at_most sc_l_at_most (fun _ => rfl) (fun _ _ _ _ _ _ us hl => match us, hl with | [_, _], _ => rfl) fun cdv A outer s H E hr => ?_
  have nd := sc_l_at_most.nd
  refine ⟨_, (pss_one (ps_ret (pe_callB (cr_sum rfl) (by rfl) T.n_sum (by decide +kernel) (pa_cons (pe_lc (own := [("_law_one", 2), ("_law_many", 3)]) (g := gTup K 2 (gCons (gName 2) (gCons (gName 3) gNil))) rfl nd (pi_tup (pv 0)) (blkOk_by (N := N_l_at_most) (sc := defScope st_l_at_most) (by decide +kernel)) (fun _ _ _ _ _ => (pg_tup rfl (pgs_cons (pg_name (i := 2) nd rfl (Or.inl rfl)) (pgs_cons (pg_name (i := 3) nd rfl (Or.inl rfl)) pgs_nil)))) (fun _ _ _ _ _ => (pts_one (pt_cmpR op_le (pv 2) (pv 1) (nomark _)))) (fun _ _ _ _ _ => (pv 3))) pa_nil)))), ?_⟩
  rintro ⟨b, x⟩ vs Q - ⟨v, _, rfl, hv, v', _, rfl, hv', rfl⟩ q
  refine s_ret (P := IsI (lev b x)) ?_ fun v H1 e p => q v H1 e p
  refine ev_sum (xs := b.filter fun e => decide (e.1 ≤ x)) (f := fun e => e.2) ?_
  refine EvP.imp (ev_lcT2 (xs := b) (P1 := fun e => IsI e.1) (P2 := fun e => IsI e.2) (fun e => decide (e.1 ≤ x)) (fun e => IsI e.2) (ev_var rfl (BagP.tup hv)) (Nat.lt_of_le_of_lt hv.1 (by decide)) (fun _ _ => rfl) (fun e _ v1 v2 H1 _ h1 _ => ?_) fun e _ v1 v2 H1 _ _ h2 _ => ev_var rfl h2) fun v H1 _ p => NewL.lst p
  exact et_test (ev_I0 (ev_var rfl h1) (ev_var (P := IsI x) rfl hv'))
/-! ### _law_fits -/
abbrev N_l_fits : List Str := ["_law_effect", "_law_observed", "_law_number", "_law_following", "_law_wanted_level", "_law_before", "_law_after", "_law_point", "_law_one", "_law_many", "_law_shift"]
theorem sc_l_fits : FnScope N_l_fits ["_law_effect", "_law_observed", "_law_number", "_law_following", "_law_wanted_level"] (defScope st_l_fits) := ⟨rfl, rfl, rfl, by decide +kernel, rfl, by decide +kernel, by decide +kernel⟩
open Classical in
noncomputable def fitB (I : Bag) (R : Int) (obs : List (Bag × Bag)) (n : Int) (fo : Option Int) (u : Int) : Bool := decide (FitsP I R obs n fo u)
theorem fitB_f {I : Bag} {R : Int} {obs : List (Bag × Bag)} {n : Int} {fo : Option Int} {u : Int} (h : ¬ FitsP I R obs n fo u) : fitB I R obs n fo u = false := by
  classical
  unfold fitB
  exact decide_eq_false h
theorem fitB_t {I : Bag} {R : Int} {obs : List (Bag × Bag)} {n : Int} {fo : Option Int} {u : Int} (h : FitsP I R obs n fo u) : fitB I R obs n fo u = true := by
  classical
  unfold fitB
  exact decide_eq_true h
theorem fitB_Q {I : Bag} {R : Int} {obs : List (Bag × Bag)} {i : Nat} {u : Int} : fitB I R obs (numI I i) (nextI I i) u = fitQ I R obs i u := rfl
def ptOk (I : Bag) (R : Int) (o : Bag × Bag) (n : Int) (fo : Option Int) (u p : Int) : Prop := n ≤ p → below fo p → lev o.2 p = max (lev o.1 p + (lev I p - R)) u
abbrev Sp_l_fits (K : PySem.W.Frag) : Sp := SpG (γ := Eff × List (Bag × Bag) × Int × Option Int × Int) (fun g => [EffP K g.1, ObsP g.2.1, IsI g.2.2.1, IsV (optV g.2.2.2.1), IsI g.2.2.2.2]) (fun g => ∀ o ∈ g.2.1, o.1.length + o.2.length < 63) (fun g => IsB (fitB g.1.I g.1.R g.2.1 g.2.2.1 g.2.2.2.1 g.2.2.2.2))
theorem ok_l_fits (T : Fx K mg) : Glob P w K mg base 3 "_law_fits" (He.ga K "_law_fits") ["_law_effect", "_law_observed", "_law_number", "_law_following", "_law_wanted_level"] (Sp_l_fits K) := by
  have G_l_at_most := ok_l_at_most (P := P) (w := w) (base := base) T
  have G_Einserted := ok_Einserted (P := P) (w := w) (base := base) T
  have G_Eremovals := ok_Eremovals (P := P) (w := w) (base := base) T
  refine mkG T.f_l_fits T.g_l_fits sc_l_fits (fun _ => rfl) (fun _ _ _ _ _ _ us hl => match us, hl with | [_, _, _, _, _], _ => rfl) fun cdv A outer s H E hr => ?_
  have nd := sc_l_fits.nd
  refine ⟨_, (pss_cons (ps_for PassesOwn.never rfl (pi_list (pv 1)) (pg_tup rfl (pgs_cons (pg_name (i := 5) nd rfl (Or.inl rfl)) (pgs_cons (pg_name (i := 6) nd rfl (Or.inl rfl)) pgs_nil))) (pss_one (ps_for PassesOwn.never rfl (pi_list (pe_callB (cr_sortedSet rfl) (by rfl) T.n_sorted (by decide +kernel) (pa_cons (pe_callTy (call_setI rfl) (by rfl) T.n_set (by decide +kernel) (pa_cons (pe_op op_cat (pe_lst (pa_cons (pv 2) pa_nil)) (pe_lc (own := [("_law_one", 8), ("_law_many", 9)]) (g := gTup K 2 (gCons (gName 8) (gCons (gName 9) gNil))) (tt := tYes) rfl nd (pi_tup (pe_op op_catF (pv 5) (pv 6))) (blkOk_by (N := N_l_fits) (sc := defScope st_l_fits) (by decide +kernel)) (fun _ _ _ _ _ => (pg_tup rfl (pgs_cons (pg_name (i := 8) nd rfl (Or.inl rfl)) (pgs_cons (pg_name (i := 9) nd rfl (Or.inl rfl)) pgs_nil)))) (fun _ _ _ _ _ => pts_nil) (fun _ _ _ _ _ => (pv 8)))) pa_nil)) pa_nil))) (pg_name (i := 7) nd rfl (Or.inl rfl)) (pss_one (ps_if (PW.pt (pw_and (pt_cmpR op_le (pv 2) (pv 7) (nomark _)) (pw_and1 (PW.pt (pw_or (pt_cmpR op_isN (pv 3) pe_non (nomark _)) (pw_or1 (pt_cmpR op_lt (pv 7) (pv 3) (nomark _)))))))) (pss_cons (ps_set (i := 10) nd rfl (Or.inl rfl) (pe_op op_sub (pe_callG G_l_at_most (hr.mono (by decide)) (pa_cons (pe_propG T.cls_E T.p_inserted G_Einserted (hr.mono (by decide)) (pv 0)) (pa_cons (pv 7) pa_nil))) (pe_propG T.cls_E T.p_removals G_Eremovals (hr.mono (by decide)) (pv 0))))
    (pss_one (ps_if (pt_cmpR op_ne (pe_callG G_l_at_most (hr.mono (by decide)) (pa_cons (pv 6) (pa_cons (pv 7) pa_nil))) (pe_callB (call_max2 rfl) (by rfl) T.n_max (by decide +kernel) (pa_cons (pe_op op_add (pe_callG G_l_at_most (hr.mono (by decide)) (pa_cons (pv 5) (pa_cons (pv 7) pa_nil))) (pv 10)) (pa_cons (pv 4) pa_nil))) (nomark _)) (pss_one (ps_ret pe_bl)) pss_nil))) pss_nil)))))
    (pss_one (ps_ret pe_bl))), ?_⟩
  rintro ⟨e, obs, n, fo, u⟩ vs Q hz ⟨v1, _, rfl, h1, v2, _, rfl, h2, v3, _, rfl, (h3 : v3 = _), v4, _, rfl, (h4 : v4 = _), v5, _, rfl, (h5 : v5 = _), rfl⟩ q
  subst h3 h4 h5
  have hz : ∀ o ∈ obs, o.1.length + o.2.length < 63 := hz
  have h1 : (EffP K e).h v1 H := h1
  have h2 : (LstP (obs.map obP)).h v2 H := h2
  have qF : ∀ H', Same H H' → ¬ FitsP e.I e.R obs n fo u → Q (.bl false) H' := fun H' s' h => q _ H' s' (by
    show V.bl false = V.bl (fitB e.I e.R obs n fo u)
    rw [fitB_f h])
  have qT : ∀ H', Same H H' → FitsP e.I e.R obs n fo u → Q (.bl true) H' := fun H' s' h => q _ H' s' (by
    show V.bl true = V.bl (fitB e.I e.R obs n fo u)
    rw [fitB_t h])
  refine q_forL0 (H0 := H) (Ps := obs.map obP) (ev_v rfl) h2 (fun i σ' H' => ∃ x5 x6 x7 x10, σ' = [some v1, some v2, some (.int n), some (optV fo), some (.int u), x5, x6, x7, none, none, x10] ∧ Same H H' ∧ FitsP e.I e.R (obs.take i) n fo u)
    (fun H3 e3 => ⟨none, none, none, none, rfl, e3, fun o ho => by cases ho⟩) (fun i σ' H' ⟨_, _, _, _, _, s', _⟩ => s') ?_ ?_
  · rintro i P' y σ' H' hi hy ⟨x5, x6, x7, x10, rfl, eH, hF⟩
    rw [List.getElem?_map] at hi
    obtain ⟨o, ho, rfl⟩ := Option.map_eq_some_iff.mp hi
    have hom := List.mem_of_getElem? ho
    have hzo := hz o hom
    obtain ⟨pp, ys, rfl, hpp, vb, _, rfl, hb, va, _, rfl, ha, rfl⟩ := hy
    refine ⟨pp, _, rfl, .inl (Same.rd eH hpp), rfl, vb, _, rfl, va, _, rfl, rfl, ?_⟩
    show tFor _ _ _ _ [some v1, some v2, some (.int n), some (optV fo), some (.int u), some vb, some va, x7, none, none, x10] H'
    have hb' : ∀ {H'}, Same H H' → (BagP o.1).h vb H' := fun e => (BagP o.1).kp e hb
    have ha' : ∀ {H'}, Same H H' → (BagP o.2).h va H' := fun e => (BagP o.2).kp e ha
    have lsz : (n :: (o.1 ++ o.2).map (·.1)).length < 64 := by
      rw [List.length_cons, List.length_map, List.length_append]
      omega
    refine s_forX (ev_srtSet (ns := n :: (o.1 ++ o.2).map (·.1)) ((ev_catL (Ps := [IsI n]) (Qs := (o.1 ++ o.2).map fun e => IsI e.1) (ev_lst' (ea1 (ev_v rfl)) (by simp)) (EvP.imp (ev_lcT2 (xs := o.1 ++ o.2) (P1 := fun e => IsI e.1) (P2 := fun e => IsI e.2) (fun _ => true) (fun e => IsI e.1) ((ev_catF (Ps := o.1.map entP) (Qs := o.2.map entP) ((ev_var rfl (hb' eH)).imp fun v H4 _ (p : (BagP o.1).h v H4) => p.2) ((ev_var rfl (ha' eH)).imp fun v H4 _ (p : (BagP o.2).h v H4) => p.2) (by rw [List.length_map, List.length_map]; omega)).imp fun v H4 _ p => by rw [← List.map_append] at p; exact SolP.tup p) (by rw [List.length_append]; omega) (fun _ _ => rfl) (fun _ _ _ _ _ _ _ _ => et_yes) fun e _ w1 w2 H4 _ k1 _ _ => ev_var rfl k1) fun v H4 _ p => by rw [kept_all] at p; exact NewL.lst p) (by rw [List.length_map, List.length_append]; simp; omega)).imp fun v H4 _ p => by
      rw [List.map_cons, List.map_map]
      exact NewL.lst p) lsz) fun ns p H4 hφ e4 hnp hp => ?_
    refine ⟨fun j σ' H' => ∃ x7 x10, σ' = [some v1, some v2, some (.int n), some (optV fo), some (.int u), some vb, some va, x7, none, none, x10] ∧ Same H4 H' ∧ ∀ m ∈ ns.take j, ptOk e.I e.R o n fo u m,
      ⟨x7, x10, rfl, Same.refl _, fun m hm => by cases hm⟩, fun j σ' H' ⟨_, _, _, s', _⟩ => s' _ _ hp, ?_, ?_⟩
    · rintro j m σ' H5 hm ⟨x7, x10, rfl, s5, hall⟩
      have sH : Same H H5 := (eH.trans e4).trans s5
      have tk : ns.take (j + 1) = ns.take j ++ [m] := by rw [List.take_succ, hm] <;> rfl
      have hmn := List.mem_of_getElem? hm
      have more : ptOk e.I e.R o n fo u m → ∀ k ∈ ns.take (j + 1), ptOk e.I e.R o n fo u k := fun h k hk => by
        rw [tk] at hk
        rcases List.mem_append.mp hk with hk | hk
        · exact hall k hk
        · have hk : k = m := by simpa using hk
          rw [hk]; exact h
      have inPt : m = n ∨ (∃ q ∈ o.1, q.1 = m) ∨ ∃ q ∈ o.2, q.1 = m := by
        have := (hφ.2 m).mp hmn
        rcases List.mem_cons.mp this with z | z
        · exact .inl z
        · obtain ⟨q, hq, e⟩ := List.mem_map.mp z
          rcases List.mem_append.mp hq with hq | hq
          · exact .inr (.inl ⟨q, hq, e⟩)
          · exact .inr (.inr ⟨q, hq, e⟩)
      show tIfS _ _ _ _ [some v1, some v2, some (.int n), some (optV fo), some (.int u), some vb, some va, some (.int m), none, none, x10] H5
      have tst : EvT (tAnd (tTest (tOp (rI0 fun i j => .bl (decide (i ≤ j))) (tVar 2) (tVar 7))) (tOr (tTest (tOp (fun x y H Q => y = .non ∧ Q (.bl (decide (x = .non))) H) (tVar 3) (tC .non))) (tTest (tOp (rI0 fun i j => .bl (decide (i < j))) (tVar 7) (tVar 3))))) [some v1, some v2, some (.int n), some (optV fo), some (.int u), some vb, some va, some (.int m), none, none, x10] H5 (decide (n ≤ m) && (match fo with | none => true | some f => decide (m < f))) := by
        refine et_and (et_test (ev_I0 (ev_v rfl) (ev_v rfl))) fun _ => ?_
        cases fo with
        | none => exact EvT.is (et_or (a := true) (b := true) (EvT.is (et_test (ev_isN (x := .non) (ev_v rfl) rfl)) (by decide)) (fun z => by cases z)) rfl
        | some f => exact EvT.is (et_or (a := false) (b := decide (m < f)) (EvT.is (et_test (ev_isN (x := .int f) (ev_v rfl) rfl)) (by simp)) (fun _ => et_test (ev_I0 (ev_v rfl) (ev_v rfl)))) (by simp)
      refine s_if tst (fun z H6 e6 => ?_) fun z H6 e6 => ?_
      · rw [Bool.and_eq_true, decide_eq_true_eq] at z
        have bl : below fo m := fun f hf => by
          subst hf
          exact of_decide_eq_true z.2
        have sH6 := sH.trans e6
        refine q_asg (P := IsI (lev e.I m - e.R)) (ev_i (i := lev e.I m) (j := e.R) (ev_call (e.I, m) trivial (ea2 (ev_prop e rfl trivial (ev_var rfl ((EffP K e).kp sH6 h1)) eff_ins) (ev_v rfl))) (ev_prop e rfl trivial (ev_var rfl ((EffP K e).kp sH6 h1)) eff_ins) rfl) fun v10 H7 e7 (p10 : v10 = _) => ?_
        subst p10
        have sH7 := sH6.trans e7
        refine s_if (b := !decide (V.int (lev o.2 m) = .int (max (lev o.1 m + (lev e.I m - e.R)) u))) (et_test (ev_ne (ev_call (o.2, m) trivial (ea2 (ev_var rfl (ha' sH7)) (ev_v rfl))) (ev_max2 (ev_i (i := lev o.1 m) (j := lev e.I m - e.R) (ev_call (o.1, m) trivial (ea2 (ev_var rfl (hb' sH7)) (ev_v rfl))) (ev_v rfl) rfl) (ev_v rfl) rfl) rfl)) (fun z2 H8 e8 => ?_) fun z2 H8 e8 => ?_
        · refine s_ret (P := IsB false) ev_c fun v H9 e9 (pv : v = _) => ?_
          subst pv
          refine qF H9 ((sH7.trans e8).trans e9) fun hf => ?_
          have := hf o hom m inPt z.1 bl
          rw [this] at z2
          simp at z2
        · refine ⟨_, _, rfl, ((s5.trans e6).trans e7).trans e8, more fun _ _ => ?_⟩
          simpa using z2
      · refine ⟨_, _, rfl, s5.trans e6, more fun h1 h2 => ?_⟩
        exfalso
        rw [decide_eq_true h1, Bool.true_and] at z
        cases fo with
        | none => cases z
        | some f => exact of_decide_eq_false z (h2 f rfl)
    · rintro σ' H5 ⟨x7, x10, rfl, s5, hall⟩
      rw [List.take_of_length_le (Nat.le_refl _)] at hall
      refine ⟨_, _, _, _, rfl, (eH.trans e4).trans s5, fun o' ho' m hm h1 h2 => ?_⟩
      rw [List.take_succ, ho] at ho'
      rcases List.mem_append.mp ho' with z | z
      · exact hF o' z m hm h1 h2
      · have z : o' = o := by simpa using z
        subst z
        refine hall m ((hφ.2 m).mpr ?_) h1 h2
        rcases hm with hm | ⟨q, hq, e⟩ | ⟨q, hq, e⟩
        · rw [hm]; exact List.mem_cons_self
        · exact List.mem_cons_of_mem _ (List.mem_map.mpr ⟨q, List.mem_append_left _ hq, e⟩)
        · exact List.mem_cons_of_mem _ (List.mem_map.mpr ⟨q, List.mem_append_right _ hq, e⟩)
  · rintro σ' H' ⟨x5, x6, x7, x10, rfl, eH, hF⟩
    rw [List.length_map, List.take_of_length_le (Nat.le_refl _)] at hF
    exact s_ret (P := IsB true) ev_c fun v H9 e9 (pv : v = _) => by subst pv; exact qT H9 (eH.trans e9) hF
end
end K79
end
section
set_option Elab.async false
set_option linter.all false
set_option maxRecDepth 100000
set_option maxHeartbeats 4000000
namespace K79
open PySem PySem.Spec L2
section
variable {P : Program} {w : World} {K : PySem.W.Frag} {mg : Str → Option Value} {base : Heap}
/-! ### _law_count -/
structure CntOk (e : Eff) (obs : List (Bag × Bag)) : Prop where
  f : Feas e.I e.R obs
  z : ∀ o ∈ obs, o.1.length + o.2.length < 63
  t : tot e.I ≤ 200
abbrev N_l_count : List Str := ["_law_effect", "_law_observed", "_law_ways", "_law_highest", "_law_place", "_law_number", "_law_many", "_law_following", "_law_more", "_law_after", "_law_before"]
theorem sc_l_count : FnScope N_l_count ["_law_effect", "_law_observed"] (defScope st_l_count) := ⟨rfl, rfl, rfl, by decide +kernel, rfl, by decide +kernel, by decide +kernel⟩
noncomputable abbrev Sp_l_count (K : PySem.W.Frag) : Sp := SpG (γ := Eff × List (Bag × Bag)) (fun g => [EffP K g.1, ObsP g.2]) (fun g => CntOk g.1 g.2) (fun g => IsI (cntS g.1.I g.1.R g.2))
theorem ok_l_count (T : Fx K mg) : Glob P w K mg base 4 "_law_count" (He.ga K "_law_count") ["_law_effect", "_law_observed"] (Sp_l_count K) := by
  have G_l_fits := ok_l_fits (P := P) (w := w) (base := base) T
  have G_Einserted := ok_Einserted (P := P) (w := w) (base := base) T
  have G_Eremovals := ok_Eremovals (P := P) (w := w) (base := base) T
  refine mkG T.f_l_count T.g_l_count sc_l_count (fun _ => rfl) (fun _ _ _ _ _ _ us hl => match us, hl with | [_, _], _ => rfl) fun cdv A outer s H E hr => ?_
  have nd := sc_l_count.nd
  refine ⟨_, (pss_cons (ps_asg (pe_tup (pa_cons (pe_disp (pps_cons pe_int pe_int pps_nil) (by rfl) (by rfl) (fun z => by cases z) (by decide)) (pa_cons pe_int pa_nil))) (pg_tup rfl (pgs_cons (pg_name (i := 2) nd rfl (Or.inr rfl)) (pgs_cons (pg_name (i := 3) nd rfl (Or.inr rfl)) pgs_nil))))
    (pss_cons (ps_for PassesOwn.never rfl (pi_range1 (by rfl) T.n_range (pa_cons (pe_callB call_len_seq (by rfl) T.n_len (by decide +kernel) (pa_cons (pe_propG T.cls_E T.p_inserted G_Einserted (hr.mono (by decide)) (pv 0)) pa_nil)) pa_nil)) (pg_name (i := 4) nd rfl (Or.inl rfl)) (pss_cons (ps_asg (pe_ix ix_tup (pe_propG T.cls_E T.p_inserted G_Einserted (hr.mono (by decide)) (pv 0)) (pv 4) (fun _ _ => rfl)) (pg_tup rfl (pgs_cons (pg_name (i := 5) nd rfl (Or.inl rfl)) (pgs_cons (pg_name (i := 6) nd rfl (Or.inr rfl)) pgs_nil))))
    (pss_cons (ps_set (i := 7) nd rfl (Or.inl rfl) (pe_ifExp (pt_cmpR op_lt (pe_op op_add (pv 4) pe_int) (pe_callB call_len_seq (by rfl) T.n_len (by decide +kernel) (pa_cons (pe_propG T.cls_E T.p_inserted G_Einserted (hr.mono (by decide)) (pv 0)) pa_nil)) (nomark _)) (pe_ix ix_tup (pe_ix ix_tup (pe_propG T.cls_E T.p_inserted G_Einserted (hr.mono (by decide)) (pv 0)) (pe_op op_add (pv 4) pe_int) (fun _ _ => rfl)) pe_int (fun _ _ => rfl)) pe_non))
    (pss_cons (ps_set (i := 3) nd rfl (Or.inr rfl) (pe_op op_add (pv 3) (pv 6)))
    (pss_cons (ps_set (i := 8) nd rfl (Or.inl rfl) pe_dnewK)
    (pss_cons (ps_for PassesOwn.never rfl (pi_range1 (by rfl) T.n_range (pa_cons (pe_op op_add (pv 3) pe_int) pa_nil)) (pg_name (i := 9) nd rfl (Or.inr rfl)) (pss_one (ps_if (pt_val (pe_callG G_l_fits (hr.mono (by decide)) (pa_cons (pv 0) (pa_cons (pv 1) (pa_cons (pv 5) (pa_cons (pv 7) (pa_cons (pv 9) pa_nil))))))) (pss_one (ps_dput (hu_of hr) (pv 8) (pv 9) (pe_callB (cr_sum rfl) (by rfl) T.n_sum (by decide +kernel) (pa_cons (pe_lock (pe_lc (own := [("_law_before", 10)]) (g := gName 10) rfl nd (pi_keys (pv 2)) (blkOk_by (N := N_l_count) (sc := defScope st_l_count) (by decide +kernel)) (fun _ _ _ _ _ => (pg_name (i := 10) nd rfl (Or.inl rfl))) (fun _ _ _ _ _ => (pts_one (pt_chain op_le op_le (pe_op op_sub (pv 9) (pv 6)) (pv 10) (pv 9)))) (fun _ _ _ _ _ => (pe_dget (hu_of hr) (pv 2) (pv 10) (fun _ _ => rfl))))) pa_nil)) rfl)) pss_nil)))
    (pss_one (ps_set (i := 2) nd rfl (Or.inr rfl) (pv 8)))))))))
    (pss_one (ps_ret (pe_callB (cr_sum rfl) (by rfl) T.n_sum (by decide +kernel) (pa_cons (pe_lock (pe_lc (own := [("_law_after", 9)]) (g := gName 9) rfl nd (pi_keys (pv 2)) (blkOk_by (N := N_l_count) (sc := defScope st_l_count) (by decide +kernel)) (fun _ _ _ _ _ => (pg_name (i := 9) nd rfl (Or.inl rfl))) (fun _ _ _ _ _ => (pts_one (pt_cmpR op_ge (pv 9) (pe_op op_sub (pv 3) (pe_propG T.cls_E T.p_removals G_Eremovals (hr.mono (by decide)) (pv 0))) (nomark _)))) (fun _ _ _ _ _ => (pe_dget (hu_of hr) (pv 2) (pv 9) (fun _ _ => rfl))))) pa_nil)))))), ?_⟩
  rintro ⟨e, obs⟩ vs Q ok ⟨v1, _, rfl, h1, v2, _, rfl, h2, rfl⟩ q
  have ok : CntOk e obs := ok
  have h1 : (EffP K e).h v1 H := h1
  have h2 : (ObsP obs).h v2 H := h2
  have hI := ok.f.i
  have hlen : e.I.length ≤ 1000 := by
    have : ∀ {b : Bag}, IsBag b → (b.length : Int) ≤ tot b := by
      intro b
      induction b with
      | nil => intro _; exact Int.le_refl _
      | cons a r ih =>
        intro h
        have := ih h.tail
        have := h.2 a List.mem_cons_self
        rw [tot_cons, List.length_cons]
        omega
    have := this hI
    have := ok.t
    omega
  have ins : ∀ {σ : St} {H1 : Hp}, Same H H1 → σ[0]? = some (some v1) → EvP (tProp (cE K) (Sp_Einserted K) [] E0 (tVar 0)) σ H1 (TupP (e.I.map entP)) := fun {σ H1} s' hσ => (ev_prop (post := fun e => BagP e.I) e rfl trivial (ev_var hσ ((EffP K e).kp s' h1)) eff_ins).imp fun v H2 _ (p : (BagP e.I).h v H2) => BagP.tup p
  have rem : ∀ {σ : St} {H1 : Hp}, Same H H1 → σ[0]? = some (some v1) → EvP (tProp (cE K) (Sp_Eremovals K) [] E0 (tVar 0)) σ H1 (IsI e.R) := fun {σ H1} s' hσ => ev_prop (post := fun e => IsI e.R) e rfl trivial (ev_var hσ ((EffP K e).kp s' h1)) eff_ins
  have lenI : ((e.I.length : Nat) : Int) = ((e.I.map entP).length : Nat) := by rw [List.length_map]
  refine q_unpair (P1 := NewD H [(0, 1)]) (P2 := IsI 0) (ev_tup (ea2 ev_disp1 (ev_c (v := .int 0))) (by simp)) fun vd v3 H1 e1 pd (p3 : v3 = _) => ?_
  subst p3
  obtain ⟨d, rfl, nd0, hd⟩ := pd
  refine q_forR1 (hi := e.I.length) (ea1 (by rw [lenI]; exact ev_lenT (ins e1 rfl) rfl)) (by omega)
    (fun i σ' H' => ∃ (d : Addr) (W : Bag) (a4 a5 a6 a7 a8 a9 : Option V), σ' = [some v1, some v2, some (.ref d), some (.int (tot (e.I.take i))), a4, a5, a6, a7, a8, a9, none] ∧ Same H H' ∧ H d = none ∧ H' d = some (.dK (dictOf W)) ∧ Wok (tot (e.I.take i) + 1) W ∧ ∀ f, wsum f W = numW ((qsOf (fitQ e.I e.R obs) e.I 0).take i) f 0)
    (fun H2 e2 => ⟨d, [(0, 1)], none, none, none, none, none, none, rfl, e1.trans e2, nd0, e2 _ _ hd, ⟨by simp [Dist], fun q hq => by rw [List.mem_singleton.mp hq, List.take_zero, tot_nil]; decide⟩, fun f => by simp [wsum, numW]⟩) ?_ ?_
  · rintro i σ' H2 hi ⟨d, W, a4, a5, a6, a7, a8, a9, rfl, s2, nd0, hd2, wk, ww⟩
    have hlt : i < e.I.length := by omega
    have hI2 : ∀ j, j < e.I.length → e.I[j]? = some (e.I.getD j (0, 0)) := fun j hj => by rw [List.getD_eq_getElem?_getD, List.getElem?_eq_getElem hj] <;> rfl
    generalize hg : e.I.getD i (0, 0) = en
    have hem : en ∈ e.I := by
      have := List.mem_of_getElem? (hI2 i hlt)
      rwa [hg] at this
    have c1 := hI.2 en hem
    have tk : tot (e.I.take (i + 1)) = tot (e.I.take i) + en.2 := by
      rw [List.take_succ, hI2 i hlt, hg, tot_append]
      show _ + tot [en] = _
      simp [tot]
    have tnn : 0 ≤ tot (e.I.take i) := by
      have hb : IsBag (e.I.take i) := ⟨hI.1.sublist (List.take_sublist _ _), fun p hp => hI.2 p (List.mem_of_mem_take hp)⟩
      exact tot_nonneg hb
    have tle : tot (e.I.take (i + 1)) ≤ tot e.I := by
      have : tot e.I = tot (e.I.take (i + 1)) + tot (e.I.drop (i + 1)) := by rw [← tot_append, List.take_append_drop]
      have hb : IsBag (e.I.drop (i + 1)) := ⟨hI.1.sublist (List.drop_sublist _ _), fun p hp => hI.2 p (List.mem_of_mem_drop hp)⟩
      have := tot_nonneg hb
      omega
    have ot := ok.t
    have hWl : W.length ≤ 300 := by
      have := Wok.len (b := (tot (e.I.take i) + 1).toNat) (M := W) (by rw [show (((tot (e.I.take i) + 1).toNat : Nat) : Int) = tot (e.I.take i) + 1 by omega]; exact wk)
      omega
    have hq : (qsOf (fitQ e.I e.R obs) e.I 0)[i]? = some (en.2, fitQ e.I e.R obs i) := by rw [qsOf_at hlt, hg, Nat.zero_add]
    have hn : en.1 = numI e.I i := by unfold numI; rw [hg]
    show tSeq _ _ _ [some v1, some v2, some (.ref d), some (.int (tot (e.I.take i))), some (.int i), a5, a6, a7, a8, a9, none] H2
    refine q_unpair (P1 := IsI en.1) (P2 := IsI en.2) (ev_ixT (P := entP en) (i := i) (ins s2 rfl) (ev_v rfl) (by rw [List.getElem?_map, hI2 i hlt, hg] <;> rfl)) fun x5 x6 H3 e3 (p5 : x5 = _) (p6 : x6 = _) => ?_
    subst p5 p6
    have s3 := s2.trans e3
    refine q_asg (P := IsV (optV (nextI e.I i))) (ev_if (b := decide (((i : Int) + 1) < ((e.I.map entP).length : Nat))) (et_test (ev_I0 (g := fun i j => .bl (decide (i < j))) (i := (i : Int) + 1) (j := ((e.I.map entP).length : Nat)) (ev_i (i := (i : Int)) (j := 1) (ev_v rfl) ev_c rfl) (ev_lenT (ins s3 rfl) rfl))) (fun z => ?_) fun z => ?_) fun x7 H4 e4 (p7 : x7 = _) => ?_
    · have z := of_decide_eq_true z
      rw [← lenI] at z
      have hlt2 : i + 1 < e.I.length := by omega
      have en2 : nextI e.I i = some (e.I.getD (i + 1) (0, 0)).1 := by unfold nextI numI; rw [if_pos hlt2]
      rw [en2]
      refine ev_ixT (Ps := [IsI (e.I.getD (i + 1) (0, 0)).1, IsI (e.I.getD (i + 1) (0, 0)).2]) (i := 0) (ev_ixT (P := entP (e.I.getD (i + 1) (0, 0))) (i := i + 1) (ins s3 rfl) (ev_i (i := (i : Int)) (j := 1) (ev_v rfl) ev_c (by congr 1)) (by rw [List.getElem?_map, hI2 _ hlt2] <;> rfl)) ev_c rfl
    · have z := of_decide_eq_false z
      rw [← lenI] at z
      have en2 : nextI e.I i = none := by unfold nextI; rw [if_neg (by omega)]
      rw [en2]
      exact ev_c
    subst p7
    have s4 := s3.trans e4
    refine q_asg (P := IsI (tot (e.I.take (i + 1)))) (by rw [tk]; exact ev_i (i := tot (e.I.take i)) (j := en.2) (ev_v rfl) (ev_v rfl) rfl) fun x3 H5 e5 (p3 : x3 = _) => ?_
    subst p3
    have s5 := s4.trans e5
    refine q_asg ev_dnew fun vm H6 e6 pm => ?_
    obtain ⟨m, rfl, nm, hm⟩ := pm
    have s6 := s5.trans e6
    have nm0 : H m = none := free_back s5 nm
    have d5 : H5 d = some (.dK (dictOf W)) := e5 _ _ (e4 _ _ (e3 _ _ hd2))
    have dm : d ≠ m := fun z => by rw [z] at d5; rw [d5] at nm; cases nm
    show tSeq _ _ _ [some v1, some v2, some (.ref d), some (.int (tot (e.I.take (i + 1)))), some (.int i), some (.int en.1), some (.int en.2), some (optV (nextI e.I i)), some (.ref m), a9, none] H6
    let S : Int → Int := fun u => (W.map fun x => if u - en.2 ≤ x.1 ∧ x.1 ≤ u then x.2 else 0).sum
    refine q_forR1 (hi := tot (e.I.take (i + 1)) + 1) (ea1 (ev_i (i := tot (e.I.take (i + 1))) (j := 1) (ev_v rfl) ev_c rfl)) (by omega)
      (fun j σ' H' => ∃ (M : Bag) (a9 : Option V), σ' = [some v1, some v2, some (.ref d), some (.int (tot (e.I.take (i + 1)))), some (.int i), some (.int en.1), some (.int en.2), some (optV (nextI e.I i)), some (.ref m), a9, none] ∧ Same H H' ∧ H' d = some (.dK (dictOf W)) ∧ H' m = some (.dK (dictOf M)) ∧ Wok (j : Int) M ∧ ∀ f, wsum f M = isum (fun u => if fitQ e.I e.R obs i u = true then f u * S u else 0) 0 j)
      (fun H7 e7 => ⟨[], a9, rfl, s6.trans e7, e7 _ _ (e6 _ _ d5), e7 _ _ hm, ⟨by simp [Dist], fun _ h => by cases h⟩, fun f => rfl⟩) ?_ ?_
    · rintro j σ' H7 hj ⟨M, a9, rfl, s7, d7, m7, wM, sM⟩
      show tIfS _ _ _ _ [some v1, some v2, some (.ref d), some (.int (tot (e.I.take (i + 1)))), some (.int i), some (.int en.1), some (.int en.2), some (optV (nextI e.I i)), some (.ref m), some (.int j), none] H7
      have sj : ∀ f, isum (fun u => if fitQ e.I e.R obs i u = true then f u * S u else 0) 0 (j + 1) = wsum f M + if fitQ e.I e.R obs i j = true then f j * S j else 0 := fun f => by
        rw [sM]
        show _ + (if fitQ e.I e.R obs i (0 + (j : Int)) = true then f (0 + (j : Int)) * S (0 + (j : Int)) else 0) = _
        rw [Int.zero_add]
      refine s_if (b := fitQ e.I e.R obs i j) (et_B (by
        rw [show fitQ e.I e.R obs i j = fitB e.I e.R obs en.1 (nextI e.I i) j by rw [hn]; exact fitB_Q.symm]
        exact ev_call (e, obs, en.1, nextI e.I i, (j : Int)) ok.z (ea_cons (ev_var rfl ((EffP K e).kp s7 h1)) (ea_cons (ev_var rfl ((ObsP obs).kp s7 h2)) (ea3 (ev_v rfl) (ev_v rfl) (ev_v rfl)))))) (fun z H8 e8 => ?_) fun z H8 e8 => ?_
      · have s8 := s7.trans e8
        have d8 := e8 _ _ d7
        have m8 := e8 _ _ m7
        obtain ⟨w1, w2⟩ := wM.put (v := S j) (by omega)
        refine s_put (L := M) (n := j) (x := S j) m8 wM.d (by have := wM.len; omega) ?_ (ev_v rfl) (ev_v rfl) fun H9 e9 => ?_
        · have hS : S j = ((W.filter fun x => decide ((j : Int) - en.2 ≤ x.1) && decide (x.1 ≤ (j : Int))).map (·.2)).sum := by
            rw [sum_filter]
            show (W.map _).sum = _
            congr 1
            refine List.map_congr_left fun x _ => ?_
            by_cases q : (j : Int) - en.2 ≤ x.1 ∧ x.1 ≤ (j : Int)
            · rw [if_pos q, if_pos (by simp [q.1, q.2])]
            · rw [if_neg q, if_neg (by simp; omega)]
          rw [hS]
          refine ev_sum (xs := W.filter fun x => decide ((j : Int) - en.2 ≤ x.1) && decide (x.1 ≤ (j : Int))) (f := fun x => x.2) ?_
          refine EvP.imp (ev_lock d8 (Ps := (W.filter fun x => decide ((j : Int) - en.2 ≤ x.1) && decide (x.1 ≤ (j : Int))).map fun x => IsI x.2) (fun P hP => by obtain ⟨x, _, rfl⟩ := List.mem_map.mp hP; infer_instance) fun od H9 sm h9 => ?_) fun v H9 _ p => NewL.lst p
          refine ev_lcK (fun x => decide ((j : Int) - en.2 ≤ x.1) && decide (x.1 ≤ (j : Int))) (fun x => IsI x.2) h9 (ev_v rfl) (by omega) (fun _ => rfl) (fun x _ HA _ => et_test (ev_chain (p := fun i j => i ≤ j) (q := fun i j => i ≤ j) (ev_i (i := (j : Int)) (j := en.2) (ev_v rfl) (ev_v rfl) rfl) (ev_v rfl) (ev_v rfl))) fun x hx HA eA _ => ?_
          refine ev_dget (z := x.2) (.inr ⟨od, eA _ _ h9⟩) (ev_v rfl) (ev_v rfl) ?_
          rw [getL_key wk.d ⟨x, hx, rfl⟩, mem_cntD wk.d hx]
        · refine ⟨putL M j (S j), _, rfl, Same.chg (s8.trans e9) nm0, by rw [upd_ne dm]; exact e9 _ _ d8, upd_same, by exact_mod_cast w1, fun f => ?_⟩
          rw [w2, sj, if_pos z]
      · refine ⟨M, _, rfl, s7.trans e8, e8 _ _ d7, e8 _ _ m7, ⟨wM.d, fun q hq => by have := wM.g q hq; omega⟩, fun f => ?_⟩
        rw [sj, if_neg (by rw [z]; decide)]
        omega
    · rintro σ' H7 ⟨M, a9, rfl, s7, d7, m7, wM, sM⟩
      refine s_asg (P := IsV (.ref m)) (ev_v rfl) fun v H8 e8 (pv : v = _) => ?_
      subst pv
      refine ⟨m, M, _, _, _, _, _, _, rfl, s7.trans e8, nm0, e8 _ _ m7, ?_, fun f => ?_⟩
      · rw [show (((tot (e.I.take (i + 1)) + 1).toNat : Nat) : Int) = tot (e.I.take (i + 1)) + 1 by omega] at wM
        exact wM
      · rw [sM, numW_next hq, ← ww]
        exact wsum_swap (fitQ e.I e.R obs i) en.2 (tot (e.I.take (i + 1))) f (by omega) W fun x hx => by have := wk.g x hx; omega
  · rintro σ' H2 ⟨d, W, a4, a5, a6, a7, a8, a9, rfl, s2, nd0, hd2, wk, ww⟩
    rw [Int.toNat_natCast] at wk ww
    rw [List.take_of_length_le (Nat.le_refl _)] at wk
    have ot := ok.t
    have hWl : W.length ≤ 300 := by
      have := tot_nonneg hI
      have := Wok.len (b := (tot e.I + 1).toNat) (M := W) (by rw [show (((tot e.I + 1).toNat : Nat) : Int) = tot e.I + 1 by omega]; exact wk)
      omega
    rw [List.take_of_length_le (by rw [qsOf_len]; exact Nat.le_refl _)] at ww
    rw [Int.toNat_natCast, List.take_of_length_le (Nat.le_refl _)]
    have hc : cntS e.I e.R obs = ((W.filter fun x => decide (x.1 ≥ tot e.I - e.R)).map (·.2)).sum := by rw [sum_ind, ww, numW_cnt ok.f]
    refine s_ret (P := IsI (cntS e.I e.R obs)) ?_ fun v H3 e3 p => q v H3 (s2.trans e3) p
    rw [hc]
    refine ev_sum (xs := W.filter fun x => decide (x.1 ≥ tot e.I - e.R)) (f := fun x => x.2) ?_
    refine EvP.imp (ev_lock hd2 (Ps := (W.filter fun x => decide (x.1 ≥ tot e.I - e.R)).map fun x => IsI x.2) (fun P hP => by obtain ⟨x, _, rfl⟩ := List.mem_map.mp hP; infer_instance) fun od H9 sm h9 => ?_) fun v H9 _ p => NewL.lst p
    have eff9 : (EffP K e).h v1 H9 := (inferInstance : Fixd (EffP K e)).fx sm ((EffP K e).kp s2 h1)
    refine ev_lcK (fun x => decide (x.1 ≥ tot e.I - e.R)) (fun x => IsI x.2) h9 (ev_v rfl) (by omega) (fun _ => rfl) (fun x _ HA eA => et_test (ev_I0 (g := fun i j => .bl (decide (i ≥ j))) (ev_v rfl) (ev_i (i := tot e.I) (j := e.R) (ev_v rfl) (ev_prop (post := fun e => IsI e.R) e rfl trivial (ev_var rfl ((EffP K e).kp eA eff9)) eff_ins) rfl))) fun x hx HA eA _ => ?_
    refine ev_dget (z := x.2) (.inr ⟨od, eA _ _ h9⟩) (ev_v rfl) (ev_v rfl) ?_
    rw [getL_key wk.d ⟨x, hx, rfl⟩, mem_cntD wk.d hx]
end
end K79
end
section
set_option Elab.async false
set_option linter.all false
set_option maxRecDepth 100000
set_option maxHeartbeats 4000000
namespace K79
open PySem PySem.Spec L2
section
variable {K : PySem.W.Frag} {σ : St} {H : Hp} {tl te : TE} {tg : TG} {ts tz : TS} {D : Ends} {Ps : List Pr}
/-- for over a list as it is evaluated -/
theorem q_forLB (h : EvP tl σ H (LstP Ps)) (Pv : Nat → St → Hp → Prop) (h0 : ∀ H1, Same H H1 → Pv 0 σ H1) (hk : ∀ i σ' H', Pv i σ' H' → Same H H')
    (hs : ∀ i P y σ' H' H1 (D2 : Ends), Ps[i]? = some P → P.h y H' → Pv i σ' H' → Same H1 H' → (∀ σ2 H2, Pv (i + 1) σ2 H2 → Same H' H2 → D2.nx σ2 H2) → tg y σ' H' fun σ2 H2 => ts D2 σ2 H2) (hd : ∀ σ' H', Pv Ps.length σ' H' → tz D σ' H') : tSeq (tFor (iList K tl) tg ts) tz D σ H :=
  h H (Same.refl H) _ fun v H1 e1 hv => by
    obtain ⟨p, ys, rfl, hp, hy⟩ := hv
    refine ⟨p, rfl, ⟨ys, SqL.of hp⟩, for_list (D := { D with nx := tz D }) (xs := ys) (fun i σ' H' => Pv i σ' H' ∧ Same H1 H') ⟨h0 H1 e1, Same.refl _⟩ (fun i σ' H' _ q => SqL.of (q.2 _ _ hp)) (fun i y σ' H' hi q => ?_) fun σ' H' q => ?_⟩
    · obtain ⟨P, hP, hh⟩ := hy.get hi
      exact hs i P y σ' H' H1 _ hP (P.kp q.2 hh) q.1 q.2 fun σ2 H2 p e => ⟨p, q.2.trans e⟩
    · rw [hy.len] at q
      exact hd σ' H' q.1
theorem q_forTB (h : EvP tl σ H (TupP Ps)) (Pv : Nat → St → Hp → Prop) (h0 : ∀ H1, Same H H1 → Pv 0 σ H1)
    (hs : ∀ i P y σ' H' H1 (D2 : Ends), Ps[i]? = some P → P.h y H' → Pv i σ' H' → Same H1 H' → (∀ σ2 H2, Pv (i + 1) σ2 H2 → Same H' H2 → D2.nx σ2 H2) → tg y σ' H' fun σ2 H2 => ts D2 σ2 H2) (hd : ∀ σ' H', Pv Ps.length σ' H' → tz D σ' H') : tSeq (tFor (iTup K tl) tg ts) tz D σ H :=
  h H (Same.refl H) _ fun v H1 e1 hv => by
    obtain ⟨p, ys, rfl, hp, hy⟩ := hv
    refine ⟨p, rfl, ⟨ys, .inl hp⟩, for_tup (D := { D with nx := tz D }) (xs := ys) (fun i σ' H' => Pv i σ' H' ∧ Same H1 H') ⟨h0 H1 e1, Same.refl _⟩ (fun i σ' H' _ q => .inl (Same.rd q.2 hp)) (fun i y σ' H' hi q => ?_) fun σ' H' q => ?_⟩
    · obtain ⟨P, hP, hh⟩ := hy.get hi
      exact hs i P y σ' H' H1 _ hP (P.kp q.2 hh) q.1 q.2 fun σ2 H2 p e => ⟨p, q.2.trans e⟩
    · rw [hy.len] at q
      exact hd σ' H' q.1
/-- a, b, c = e -/
theorem q_unpair3 {i j k : Nat} {P1 P2 P3 : Pr} (h : EvP te σ H (TupP [P1, P2, P3])) (kk : ∀ v w u H1, Same H H1 → P1.h v H1 → P2.h w H1 → P3.h u H1 → tz D (((σ.set i (some v)).set j (some w)).set k (some u)) H1) : tSeq (tAsg te (gTup K 3 (gCons (gName i) (gCons (gName j) (gCons (gName k) gNil))))) tz D σ H :=
  h H (Same.refl H) _ fun v H1 e hv => by
    obtain ⟨p, ys, rfl, hp, v1, _, rfl, h1, v2, _, rfl, h2, v3, _, rfl, h3, rfl⟩ := hv
    exact ⟨p, _, rfl, .inl hp, rfl, v1, _, rfl, v2, _, rfl, v3, _, rfl, rfl, kk v1 v2 v3 H1 e h1 h2 h3⟩
/-- sum([c for n, c in b if n <= x]) in slots 10, 3, the bound in slot 7 -/
theorem ev_levC {b : Bag} {x : Int} {te : TE} (h : EvP te σ H (BagP b)) (hx : (wipe σ [10, 3])[7]? = some (some (.int x))) (h10 : ∀ u v, (((wipe σ [10, 3]).set 10 (some u)).set 3 (some v))[10]? = some (some u) ∧ (((wipe σ [10, 3]).set 10 (some u)).set 3 (some v))[3]? = some (some v) ∧ (((wipe σ [10, 3]).set 10 (some u)).set 3 (some v))[7]? = some (some (.int x))) (hw : ∀ u v, wipe (((wipe σ [10, 3]).set 10 (some u)).set 3 (some v)) [10, 3] = wipe σ [10, 3]) (hb : b.length ≤ 1000) :
    EvP (tCB (rSum K) (tCons (tLc (iTup K te) (gTup K 2 (gCons (gName 10) (gCons (gName 3) gNil))) (tTest (tOp (rI0 fun i j => .bl (decide (i ≤ j))) (tVar 10) (tVar 7))) (tVar 3) [10, 3]) tNil)) σ H (IsI (lev b x)) := by
  refine ev_sum (xs := b.filter fun e => decide (e.1 ≤ x)) (f := fun e => e.2) ?_
  refine EvP.imp (ev_lcT2 (xs := b) (P1 := fun e => IsI e.1) (P2 := fun e => IsI e.2) (fun e => decide (e.1 ≤ x)) (fun e => IsI e.2) (h.imp fun v H1 _ p => BagP.tup p) (by omega) hw (fun e _ v1 v2 H1 _ h1 _ => ?_) fun e _ v1 v2 H1 _ _ h2 _ => ev_var (h10 v1 v2).2.1 h2) fun v H1 _ p => NewL.lst p
  exact et_test (ev_I0 (ev_var (P := IsI e.1) (h10 v1 v2).1 h1) (ev_v (h10 v1 v2).2.2))
end
/-- what the checks at each turn ask -/
structure EndOk (e : Eff) (obs : List (Bag × Bag)) (a b : List Int) : Prop where
  w : Own e.I e.R e.S
  ok : ObsOk e.I e.R obs
  x : Ext e.I e.R obs a b
  o : Sol e.I e.R obs (sl e.I e.S)
  l : e.I.length ≤ 8
  z : ∀ o ∈ obs, o.1.length ≤ 500
theorem EndOk.val {e : Eff} {obs : List (Bag × Bag)} {a b c : List Int} (h : EndOk e obs a b) (hc : Sol e.I e.R obs c) : Val ⟨e.I, e.R, bagOf e.I c⟩ := by
  refine ⟨h.w.i, bagOf_bag _ _, bagOf_has h.w.i hc.chn, ?_, ?_, h.w.r⟩
  · have := bagOf_len e.I c
    have := h.l
    show e.I.length + (bagOf e.I c).length ≤ 900
    omega
  · show tot e.I - tot (bagOf e.I c) ≤ e.R
    rw [bagOf_tot h.w.i hc.chn]
    have := hc.last
    omega
theorem EndOk.agr {e : Eff} {obs : List (Bag × Bag)} {a b c : List Int} (h : EndOk e obs a b) (hc : Sol e.I e.R obs c) : AgrOk ⟨e.I, e.R, bagOf e.I c⟩ obs := by
  refine ⟨h.val hc, h.ok.n, fun o ho => ?_⟩
  obtain ⟨o1, o2, _⟩ := h.ok.f.ok o ho
  obtain ⟨s1, s2⟩ := sol_apply h.ok.f hc ho
  refine ⟨o1, o2, s1, s2, ?_⟩
  have := bagOf_len e.I c
  have := h.l
  have := h.z o ho
  show o.1.length + (e.I.length + (bagOf e.I c).length) + (bagOf e.I c).length ≤ 1000
  omega
section
variable {P : Program} {w : World} {K : PySem.W.Frag} {mg : Str → Option Value} {base : Heap}
abbrev N_l_ends_right : List Str := ["_law_effect", "_law_observed", "_law_shown", "_law_count_here", "_law_least", "_law_greatest", "_law_survivors", "_law_number", "_law_many", "_law_own", "_law_one", "_law_low", "_law_high"]
theorem sc_l_ends_right : FnScope N_l_ends_right ["_law_effect", "_law_observed", "_law_shown"] (defScope st_l_ends_right) := ⟨rfl, rfl, rfl, by decide +kernel, rfl, by decide +kernel, by decide +kernel⟩
noncomputable abbrev Sp_l_ends_right (K : PySem.W.Frag) : Sp := SpG (γ := Eff × List (Bag × Bag) × List Int × List Int) (fun g => [EffP K g.1, ObsP g.2.1, TupP [IsI (cntS g.1.I g.1.R g.2.1), BagP (bagOf g.1.I g.2.2.1), BagP (bagOf g.1.I g.2.2.2)]]) (fun g => EndOk g.1 g.2.1 g.2.2.1 g.2.2.2) (fun _ => IsB true)
theorem ok_l_ends_right (T : Fx K mg) : Glob P w K mg base 8 "_law_ends_right" (He.ga K "_law_ends_right") ["_law_effect", "_law_observed", "_law_shown"] (Sp_l_ends_right K) := by
  have G_agrees := ok_agrees (P := P) (w := w) (base := base) T
  have G_Eis_valid := ok_Eis_valid (P := P) (w := w) (base := base) T
  have G_Einit := ok_Einit (P := P) (w := w) (base := base) T
  have G_Einserted := ok_Einserted (P := P) (w := w) (base := base) T
  have G_Eremovals := ok_Eremovals (P := P) (w := w) (base := base) T
  have G_Esurvivors := ok_Esurvivors (P := P) (w := w) (base := base) T
  refine mkG T.f_l_ends_right T.g_l_ends_right sc_l_ends_right (fun _ => rfl) (fun _ _ _ _ _ _ us hl => match us, hl with | [_, _, _], _ => rfl) fun cdv A outer s H E hr => ?_
  have nd := sc_l_ends_right.nd
  refine ⟨_, (pss_cons (ps_asg (pv 2) (pg_tup rfl (pgs_cons (pg_name (i := 3) nd rfl (Or.inl rfl)) (pgs_cons (pg_name (i := 4) nd rfl (Or.inl rfl)) (pgs_cons (pg_name (i := 5) nd rfl (Or.inl rfl)) pgs_nil)))))
    (pss_cons (ps_if (PW.pt (pw_or (pt_not (pt_val (pe_callB call_isi (by rfl) T.n_isinstance (by decide +kernel) (pa_cons (pv 3) (pa_cons (pe_bltn (v := .ty "int") (by rfl) T.n_int (by decide +kernel) rfl) pa_nil))))) (pw_or1 (pt_val (pe_callB call_isi (by rfl) T.n_isinstance (by decide +kernel) (pa_cons (pv 3) (pa_cons (pe_bltn (v := .ty "bool") (by rfl) T.n_bool (by decide +kernel) rfl) pa_nil))))))) (pss_one (ps_ret pe_bl)) pss_nil)
    (pss_cons (ps_if (PW.pt (pw_or (pt_cmpR op_lt (pv 3) pe_int (nomark _)) (pw_or1 (pt_cmpR op_ne (pe_cmpR op_eq (pv 3) pe_int (nomark _)) (pe_cmpR (op_eqD hr.units) (pv 4) (pv 5) (nomark _)) (nomark _))))) (pss_one (ps_ret pe_bl)) pss_nil)
    (pss_cons (ps_for PassesOwn.never rfl (pi_list (pe_lst (pa_cons (pv 4) (pa_cons (pv 5) pa_nil)))) (pg_name (i := 6) nd rfl (Or.inl rfl)) (pss_cons (ps_if (pt_not (pt_val (pe_stat (statF_of T.stat (T.f_Eis_valid.elim fun _ h => h.kp)) G_Eis_valid (hr.mono (by decide)) (pe_glob (v := .ref (cE K)) rfl T.g_Effect rfl) (pa_cons (pe_propG T.cls_E T.p_inserted G_Einserted (hr.mono (by decide)) (pv 0)) (pa_cons (pe_propG T.cls_E T.p_removals G_Eremovals (hr.mono (by decide)) (pv 0)) (pa_cons (pv 6) pa_nil)))))) (pss_one (ps_ret pe_bl)) pss_nil)
    (pss_one (ps_if (pt_not (pt_val (pe_callG G_agrees (hr.mono (by decide)) (pa_cons (pe_makeG T.mk_E T.g_Effect G_Einit (hr.mono (by decide)) (pa_cons (pe_propG T.cls_E T.p_inserted G_Einserted (hr.mono (by decide)) (pv 0)) (pa_cons (pe_propG T.cls_E T.p_removals G_Eremovals (hr.mono (by decide)) (pv 0)) (pa_cons (pv 6) pa_nil)))) (pa_cons (pv 1) pa_nil))))) (pss_one (ps_ret pe_bl)) pss_nil))))
    (pss_cons (ps_for PassesOwn.never rfl (pi_tup (pe_propG T.cls_E T.p_inserted G_Einserted (hr.mono (by decide)) (pv 0))) (pg_tup rfl (pgs_cons (pg_name (i := 7) nd rfl (Or.inr rfl)) (pgs_cons (pg_name (i := 8) nd rfl (Or.inl rfl)) pgs_nil))) (pss_cons (ps_set (i := 9) nd rfl (Or.inl rfl) (pe_callB (cr_sum rfl) (by rfl) T.n_sum (by decide +kernel) (pa_cons (pe_lc (own := [("_law_one", 10), ("_law_count_here", 3)]) (g := gTup K 2 (gCons (gName 10) (gCons (gName 3) gNil))) rfl nd (pi_tup (pe_propG T.cls_E T.p_survivors G_Esurvivors (hr.mono (by decide)) (pv 0))) (blkOk_by (N := N_l_ends_right) (sc := defScope st_l_ends_right) (by decide +kernel)) (fun _ _ _ _ _ => (pg_tup rfl (pgs_cons (pg_name (i := 10) nd rfl (Or.inl rfl)) (pgs_cons (pg_name (i := 3) nd rfl (Or.inl rfl)) pgs_nil)))) (fun _ _ _ _ _ => (pts_one (pt_cmpR op_le (pv 10) (pv 7) (nomark _)))) (fun _ _ _ _ _ => (pv 3))) pa_nil)))
    (pss_cons (ps_set (i := 11) nd rfl (Or.inl rfl) (pe_callB (cr_sum rfl) (by rfl) T.n_sum (by decide +kernel) (pa_cons (pe_lc (own := [("_law_one", 10), ("_law_count_here", 3)]) (g := gTup K 2 (gCons (gName 10) (gCons (gName 3) gNil))) rfl nd (pi_tup (pv 4)) (blkOk_by (N := N_l_ends_right) (sc := defScope st_l_ends_right) (by decide +kernel)) (fun _ _ _ _ _ => (pg_tup rfl (pgs_cons (pg_name (i := 10) nd rfl (Or.inl rfl)) (pgs_cons (pg_name (i := 3) nd rfl (Or.inl rfl)) pgs_nil)))) (fun _ _ _ _ _ => (pts_one (pt_cmpR op_le (pv 10) (pv 7) (nomark _)))) (fun _ _ _ _ _ => (pv 3))) pa_nil)))
    (pss_cons (ps_set (i := 12) nd rfl (Or.inl rfl) (pe_callB (cr_sum rfl) (by rfl) T.n_sum (by decide +kernel) (pa_cons (pe_lc (own := [("_law_one", 10), ("_law_count_here", 3)]) (g := gTup K 2 (gCons (gName 10) (gCons (gName 3) gNil))) rfl nd (pi_tup (pv 5)) (blkOk_by (N := N_l_ends_right) (sc := defScope st_l_ends_right) (by decide +kernel)) (fun _ _ _ _ _ => (pg_tup rfl (pgs_cons (pg_name (i := 10) nd rfl (Or.inl rfl)) (pgs_cons (pg_name (i := 3) nd rfl (Or.inl rfl)) pgs_nil)))) (fun _ _ _ _ _ => (pts_one (pt_cmpR op_le (pv 10) (pv 7) (nomark _)))) (fun _ _ _ _ _ => (pv 3))) pa_nil)))
    (pss_one (ps_if (pt_not (pt_chain op_le op_le (pv 11) (pv 9) (pv 12))) (pss_one (ps_ret pe_bl)) pss_nil))))))
    (pss_one (ps_ret pe_bl))))))), ?_⟩
  rintro ⟨e, obs, a, b⟩ vs Q ok ⟨v1, _, rfl, h1, v2, _, rfl, h2, v3, _, rfl, h3, rfl⟩ q
  have ok : EndOk e obs a b := ok
  have h1 : (EffP K e).h v1 H := h1
  have h2 : (ObsP obs).h v2 H := h2
  have h3 : (TupP [IsI (cntS e.I e.R obs), BagP (bagOf e.I a), BagP (bagOf e.I b)]).h v3 H := h3
  have g1 := cnt_ge_one ok.ok.f
  have ins : ∀ {σ : St} {H1 : Hp}, Same H H1 → σ[0]? = some (some v1) → EvP (tProp (cE K) (Sp_Einserted K) [] E0 (tVar 0)) σ H1 (BagP e.I) := fun {σ H1} s' hσ => ev_prop (post := fun e => BagP e.I) e rfl trivial (ev_var hσ ((EffP K e).kp s' h1)) eff_ins
  have rem : ∀ {σ : St} {H1 : Hp}, Same H H1 → σ[0]? = some (some v1) → EvP (tProp (cE K) (Sp_Eremovals K) [] E0 (tVar 0)) σ H1 (IsI e.R) := fun {σ H1} s' hσ => ev_prop (post := fun e => IsI e.R) e rfl trivial (ev_var hσ ((EffP K e).kp s' h1)) eff_ins
  have sur : ∀ {σ : St} {H1 : Hp}, Same H H1 → σ[0]? = some (some v1) → EvP (tProp (cE K) (Sp_Esurvivors K) [] E0 (tVar 0)) σ H1 (BagP e.S) := fun {σ H1} s' hσ => ev_prop (post := fun e => BagP e.S) e rfl trivial (ev_var hσ ((EffP K e).kp s' h1)) eff_ins
  refine q_unpair3 (ev_var rfl h3) fun w1 w2 w3 H1 e1 (p1 : w1 = _) p2 p3 => ?_
  subst p1
  refine q_no (et_or (a := false) (b := false) (et_not (a := true) (et_B (ev_isi (ev_v rfl) tyInt (.ty "int") (kit_ty (by decide +kernel))))) fun _ => et_B (ev_isi (ev_v rfl) tyInt (.ty "bool") (kit_ty (by decide +kernel)))) fun H2 e2 => ?_
  have e12 := e1.trans e2
  have p2 := (BagP _).kp e2 p2
  have p3 := (BagP _).kp e2 p3
  refine q_no (et_or (a := false) (b := false) (et_test (ev_i (i := cntS e.I e.R obs) (j := 1) (ev_v rfl) ev_c (by rw [decide_eq_false (by omega)]))) fun _ => EvT.is (et_test (ev_ne (x := .bl (decide (V.int (cntS e.I e.R obs) = .int 1))) (y := .bl (decide (bagOf e.I a = bagOf e.I b))) (ev_eq (ev_v rfl) ev_c rfl) (ev_eqD (P := BagP (bagOf e.I a)) (Q := BagP (bagOf e.I b)) (ev_var rfl p2) (ev_var rfl p3) dp_bag dp_bag (sh_bag _) (sh_bag _) (eqv_bag _ _)) rfl)) (by
      have := cnt_one_iff ok.ok.f ok.x
      by_cases z : bagOf e.I a = bagOf e.I b
      · simp [z, this.mpr z]
      · have : ¬ cntS e.I e.R obs = 1 := fun h => z (this.mp h)
        simp [z, this])) fun H3 e3 => ?_
  have e13 := e12.trans e3
  have p2 := (BagP _).kp e3 p2
  have p3 := (BagP _).kp e3 p3
  refine q_forLB (Ps := [BagP (bagOf e.I a), BagP (bagOf e.I b)]) (ev_lst' (ea2 (ev_var rfl p2) (ev_var rfl p3)) (by simp)) (fun i σ' H' => ∃ x6, σ' = [some v1, some v2, some v3, some (.int (cntS e.I e.R obs)), some w2, some w3, x6, none, none, none, none, none, none] ∧ Same H3 H') (fun H4 e4 => ⟨none, rfl, e4⟩) (fun i σ' H' ⟨_, _, s'⟩ => s') ?_ ?_
  · rintro i P' y σ' H4 HB D2 hi hy ⟨x6, rfl, s4⟩ sB hD
    have hc : ∃ c, Sol e.I e.R obs c ∧ P' = BagP (bagOf e.I c) := by
      rcases i with _ | _ | i
      · exact ⟨a, ok.x.la, (Option.some.inj hi).symm⟩
      · exact ⟨b, ok.x.lb, (Option.some.inj hi).symm⟩
      · simp at hi
    obtain ⟨c, hc, rfl⟩ := hc
    have sH := e13.trans s4
    show tSeq _ _ _ [some v1, some v2, some v3, some (.int (cntS e.I e.R obs)), some w2, some w3, some y, none, none, none, none, none, none] H4
    refine q_no (et_not (a := true) (et_B (ev_stat (post := fun _ => IsB true) ⟨e.I, e.R, bagOf e.I c⟩ (ok.val hc) ev_c (ea3 (ins sH rfl) (rem sH rfl) (ev_var rfl hy))))) fun H5 e5 => ?_
    have sH5 := sH.trans e5
    refine s_no (et_not (a := true) (et_B (ev_call (⟨e.I, e.R, bagOf e.I c⟩, obs) (ok.agr hc) (ea2 (ev_makeE (ok.val hc) (ea3 (ins sH5 rfl) (rem sH5 rfl) (ev_var rfl ((BagP _).kp e5 hy)))) (ev_var rfl ((ObsP obs).kp sH5 h2)))))) fun H6 e6 => hD _ _ ⟨_, rfl, (s4.trans e5).trans e6⟩ (e5.trans e6)
  · rintro σ' H4 ⟨x6, rfl, s4⟩
    have s14 := e13.trans s4
    have p2 := (BagP _).kp s4 p2
    have p3 := (BagP _).kp s4 p3
    refine q_forTB (Ps := e.I.map entP) ((ins s14 rfl).imp fun v H5 _ p => BagP.tup p) (fun i σ' H' => ∃ x7 x8 x9 x11 x12, σ' = [some v1, some v2, some v3, some (.int (cntS e.I e.R obs)), some w2, some w3, x6, x7, x8, x9, none, x11, x12] ∧ Same H4 H') (fun H5 e5 => ⟨none, none, none, none, none, rfl, e5⟩) ?_ ?_
    · rintro i P' y σ' H5 HB D2 hi hy ⟨x7, x8, x9, x11, x12, rfl, s5⟩ sB hD
      rw [List.getElem?_map] at hi
      obtain ⟨en, he, rfl⟩ := Option.map_eq_some_iff.mp hi
      refine g_pair hy fun y1 y2 (k1 : y1 = _) k2 => ?_
      subst k1
      have s15 := s14.trans s5
      obtain ⟨l1, l2⟩ := ends_lev ok.w.i ok.x ok.o en.1
      rw [bagOf_sl ok.w.i ok.w.s ok.w.h] at l1 l2
      show tSeq _ _ _ [some v1, some v2, some v3, some (.int (cntS e.I e.R obs)), some w2, some w3, x6, some (.int en.1), some y2, x9, none, x11, x12] H5
      have bl : ∀ c, (bagOf e.I c).length ≤ 1000 := fun c => by have := bagOf_len e.I c; have := ok.l; omega
      refine q_asg (P := IsI (lev e.S en.1)) (ev_levC (sur s15 rfl) rfl (fun _ _ => ⟨rfl, rfl, rfl⟩) (fun _ _ => rfl) (by rw [← bagOf_sl ok.w.i ok.w.s ok.w.h]; exact bl _)) fun u1 H6 e6 (q1 : u1 = _) => ?_
      subst q1
      refine q_asg (P := IsI (lev (bagOf e.I a) en.1)) (ev_levC (ev_var rfl ((BagP _).kp (s5.trans e6) p2)) rfl (fun _ _ => ⟨rfl, rfl, rfl⟩) (fun _ _ => rfl) (bl a)) fun u2 H7 e7 (q2 : u2 = _) => ?_
      subst q2
      refine q_asg (P := IsI (lev (bagOf e.I b) en.1)) (ev_levC (ev_var rfl ((BagP _).kp ((s5.trans e6).trans e7) p3)) rfl (fun _ _ => ⟨rfl, rfl, rfl⟩) (fun _ _ => rfl) (bl b)) fun u3 H8 e8 (q3 : u3 = _) => ?_
      subst q3
      refine s_no (et_not (a := true) (EvT.is (et_test (ev_chain (p := fun i j => i ≤ j) (q := fun i j => i ≤ j) (i := lev (bagOf e.I a) en.1) (j := lev e.S en.1) (k := lev (bagOf e.I b) en.1) (ev_v rfl) (ev_v rfl) (ev_v rfl))) (by rw [decide_eq_true l1, decide_eq_true l2] <;> rfl))) fun H9 e9 => ?_
      have s59 := ((e6.trans e7).trans e8).trans e9
      exact hD _ _ ⟨_, _, _, _, _, rfl, s5.trans s59⟩ s59
    · rintro σ' H5 ⟨x7, x8, x9, x11, x12, rfl, s5⟩
      exact s_ret (P := IsB true) ev_c fun v H6 e6 p => q v H6 ((s14.trans s5).trans e6) p
end
end K79
end
section
set_option Elab.async false
set_option linter.all false
set_option maxRecDepth 100000
set_option maxHeartbeats 4000000
namespace K79
open PySem PySem.Spec L2
def tripD (c : Int) (a b : Bag) : PyData := .tuple [.int c, bagD a, bagD b]
theorem sh_trip (c : Int) (a b : Bag) : SeqAt.shaped (tripD c a b) = true := by
  obtain ⟨h1, h2⟩ := lay_bag a
  obtain ⟨h3, h4⟩ := lay_bag b
  show ((true && (PyData.canLayAll0 (a.map pairD) && (PyData.canLayAll0 (b.map pairD) && true))) && decide (max 0 (max (PyData.depthAll (a.map pairD) + 1) (max (PyData.depthAll (b.map pairD) + 1) 0)) + 1 ≤ 64)) = true
  rw [h1, h3, decide_eq_true (by omega)] <;> rfl
theorem eqv_trip (c c' : Int) (a a' b b' : Bag) : PyData.eqv (tripD c a b) (tripD c' a' b') = decide (c = c' ∧ a = a' ∧ b = b') := by
  show ((c == c') && (PyData.eqv (bagD a) (bagD a') && (PyData.eqv (bagD b) (bagD b') && true))) = _
  rw [eqv_bag, eqv_bag, Bool.and_true]
  by_cases h1 : c = c' <;> by_cases h2 : a = a' <;> by_cases h3 : b = b' <;> simp [h1, h2, h3]
theorem dp_trip {K : PySem.W.Frag} {c : Int} {a b : Bag} : ∀ v (H1 : Hp), (TupP [IsI c, BagP a, BagP b]).h v H1 → Dp K H1 v (tripD c a b) := fun v H1 ⟨p, ys, e, hp, v1, _, e1, (h1 : v1 = _), v2, _, e2, h2, v3, _, e3, h3, e4⟩ => by
  subst h1 e4 e3 e2 e1 e
  exact .tup (.inl hp) (.cons (.int _) (.cons (dp_bag _ _ h2) (.cons (dp_bag _ _ h3) .nil)))
/-- the answers to the question are one -/
theorem QOk.uniq {I : Bag} {R R' m : Int} {obs obs' : List (Bag × Bag)} {o o' : Option Int} (hs : ∀ c, Sol I R' obs' c ↔ Sol I R obs c) (hR : R' = R + m) (h : QOk I R obs o) (h' : QOk I R' obs' o') : o' = o.map (· + m) := by
  have hc : cntS I R' obs' = cntS I R obs := solF_congr hs _
  have ht : ∀ k, tailS I R' obs' k = tailS I R obs k := fun k => solF_congr hs _
  rcases h with ⟨a, rfl⟩ | ⟨a, z, rfl, z1, z2⟩
  · rcases h' with ⟨_, rfl⟩ | ⟨b, _⟩
    · rfl
    · omega
  · rcases h' with ⟨b, _⟩ | ⟨b, z', rfl, y1, y2⟩
    · omega
    · rw [ht] at y1
      have e : z = z' := by
        rcases Int.lt_trichotomy z z' with q | q | q
        · have := z2 z' q; omega
        · exact q
        · have := y2 z q
          rw [ht] at this
          omega
      subst e
      show some (R' - tot I + z) = some (R - tot I + z + m)
      congr 1
      omega
structure DeepOk (e : Eff) (obs : List (Bag × Bag)) (b : Int) : Prop where
  w : Own e.I e.R e.S
  f : Feas e.I e.R obs
  n : obs.length ≤ 20
  t : tot e.I ≤ 200
  h : High e.I obs (b - 10)
  l : e.I.length ≤ 8
  ls : e.S.length ≤ 8
  z : ∀ o ∈ obs, o.1.length ≤ 14 ∧ o.2.length ≤ 38
theorem DeepOk.ok {e : Eff} {obs : List (Bag × Bag)} {b : Int} (h : DeepOk e obs b) : ObsOk e.I e.R obs := ⟨h.f, h.n, fun o ho => by
  have := h.z o ho
  have := h.l
  simp only [sumLen, List.map_cons, List.map_nil, List.sum_cons, List.sum_nil]
  omega, h.t⟩
theorem DeepOk.deep {e : Eff} {obs : List (Bag × Bag)} {b m : Int} (h : DeepOk e obs b) (hm : 1 ≤ m) : ObsOk e.I (e.R + m) (obs.map (deepO (b - 10) m)) := ⟨deep_feas h.f hm h.h, by rw [List.length_map]; exact h.n, fun o' ho' => by
  obtain ⟨o, ho, rfl⟩ := List.mem_map.mp ho'
  have := h.z o ho
  have := h.l
  simp only [sumLen, deepO, List.map_cons, List.map_nil, List.sum_cons, List.sum_nil, List.length_cons]
  omega, h.t⟩
section
variable {P : Program} {w : World} {K : PySem.W.Frag} {mg : Str → Option Value} {base : Heap}
abbrev N_l_deeper_right : List Str := ["_law_pool", "_law_effect", "_law_observed", "_law_base_here", "_law_more", "_law_deeper", "_law_seen", "_law_before", "_law_after", "_law_shown", "_law_number", "_law_many", "_law_wanted", "_law_found"]
theorem sc_l_deeper_right : FnScope N_l_deeper_right ["_law_pool", "_law_effect", "_law_observed", "_law_base_here"] (defScope st_l_deeper_right) := ⟨rfl, rfl, rfl, by decide +kernel, rfl, by decide +kernel, by decide +kernel⟩
abbrev Sp_l_deeper_right (K : PySem.W.Frag) : Sp := SpG (γ := List Int × Eff × List (Bag × Bag) × Int) (fun g => [PoolP g.1, EffP K g.2.1, ObsP g.2.2.1, IsI g.2.2.2]) (fun g => DeepOk g.2.1 g.2.2.1 g.2.2.2) (fun _ => IsB true)
theorem ok_l_deeper_right (T : Fx K mg) : Glob P w K mg base 7 "_law_deeper_right" (He.ga K "_law_deeper_right") ["_law_pool", "_law_effect", "_law_observed", "_law_base_here"] (Sp_l_deeper_right K) := by
  have G_l_draw := ok_l_draw (P := P) (w := w) (base := base) T
  have G_l_count := ok_l_count (P := P) (w := w) (base := base) T
  have G_possible_survivors := ok_possible_survivors (P := P) (w := w) (base := base) T
  have G_question_size := ok_question_size (P := P) (w := w) (base := base) T
  have G_Einit := ok_Einit (P := P) (w := w) (base := base) T
  have G_Einserted := ok_Einserted (P := P) (w := w) (base := base) T
  have G_Eremovals := ok_Eremovals (P := P) (w := w) (base := base) T
  have G_Esurvivors := ok_Esurvivors (P := P) (w := w) (base := base) T
  refine mkG T.f_l_deeper_right T.g_l_deeper_right sc_l_deeper_right (fun _ => rfl) (fun _ _ _ _ _ _ us hl => match us, hl with | [_, _, _, _], _ => rfl) fun cdv A outer s H E hr => ?_
  have nd := sc_l_deeper_right.nd
  refine ⟨_, (pss_cons (ps_set (i := 4) nd rfl (Or.inr rfl) (pe_op op_add pe_int (pe_callG G_l_draw (hr.mono (by decide)) (pa_cons (pv 0) (pa_cons (pe_op op_pow pe_int pe_int) pa_nil)))))
    (pss_cons (ps_set (i := 5) nd rfl (Or.inl rfl) (pe_makeG T.mk_E T.g_Effect G_Einit (hr.mono (by decide)) (pa_cons (pe_propG T.cls_E T.p_inserted G_Einserted (hr.mono (by decide)) (pv 1)) (pa_cons (pe_op op_add (pe_propG T.cls_E T.p_removals G_Eremovals (hr.mono (by decide)) (pv 1)) (pv 4)) (pa_cons (pe_propG T.cls_E T.p_survivors G_Esurvivors (hr.mono (by decide)) (pv 1)) pa_nil)))))
    (pss_cons (ps_setLc (own := [("_law_before", 7), ("_law_after", 8)]) (g := gTup K 2 (gCons (gName 7) (gCons (gName 8) gNil))) (tt := tYes) (i := 6) rfl nd rfl rfl (sw_true rfl rfl rfl (by decide +kernel)) (pi_list (pv 2)) (blkOk_by (N := N_l_deeper_right) (sc := defScope st_l_deeper_right) (by decide +kernel)) (fun _ _ _ _ _ => (pg_tup rfl (pgs_cons (pg_name (i := 7) nd rfl (Or.inl rfl)) (pgs_cons (pg_name (i := 8) nd rfl (Or.inl rfl)) pgs_nil)))) (fun _ _ _ _ _ => pts_nil) (fun _ _ _ _ _ => (pe_tup (pa_cons (pe_op (op_catFK (K := K) rfl) (pe_tupF (pa_cons (pe_tup (pa_cons (pe_op op_sub (pv 3) pe_int) (pa_cons (pv 4) pa_nil))) pa_nil)) (pv 7)) (pa_cons (pv 8) pa_nil)))))
    (pss_cons (ps_set (i := 9) nd rfl (Or.inl rfl) (pe_callG G_possible_survivors (hr.mono (by decide)) (pa_cons (pe_propG T.cls_E T.p_inserted G_Einserted (hr.mono (by decide)) (pv 5)) (pa_cons (pe_propG T.cls_E T.p_removals G_Eremovals (hr.mono (by decide)) (pv 5)) (pa_cons (pv 6) pa_nil)))))
    (pss_cons (ps_if (pt_cmpR op_ne (pe_ix ix_tup (pv 9) pe_int (fun _ _ => rfl)) (pe_callG G_l_count (hr.mono (by decide)) (pa_cons (pv 5) (pa_cons (pv 6) pa_nil))) (nomark _)) (pss_one (ps_ret pe_bl)) pss_nil)
    (pss_cons (ps_if (pt_cmpR op_lt (pe_propG T.cls_E T.p_removals G_Eremovals (hr.mono (by decide)) (pv 1)) (pe_callB (cr_sum rfl) (by rfl) T.n_sum (by decide +kernel) (pa_cons (pe_lc (own := [("_law_number", 10), ("_law_many", 11)]) (g := gTup K 2 (gCons (gName 10) (gCons (gName 11) gNil))) (tt := tYes) rfl nd (pi_tup (pe_propG T.cls_E T.p_inserted G_Einserted (hr.mono (by decide)) (pv 1))) (blkOk_by (N := N_l_deeper_right) (sc := defScope st_l_deeper_right) (by decide +kernel)) (fun _ _ _ _ _ => (pg_tup rfl (pgs_cons (pg_name (i := 10) nd rfl (Or.inl rfl)) (pgs_cons (pg_name (i := 11) nd rfl (Or.inl rfl)) pgs_nil)))) (fun _ _ _ _ _ => pts_nil) (fun _ _ _ _ _ => (pv 11))) pa_nil)) (nomark _)) (pss_one (ps_ret pe_bl)) pss_nil)
    (pss_cons (ps_if (pt_cmpR (op_neD hr.units) (pv 9) (pe_callG G_possible_survivors (hr.mono (by decide)) (pa_cons (pe_propG T.cls_E T.p_inserted G_Einserted (hr.mono (by decide)) (pv 1)) (pa_cons (pe_propG T.cls_E T.p_removals G_Eremovals (hr.mono (by decide)) (pv 1)) (pa_cons (pv 2) pa_nil)))) (nomark _)) (pss_one (ps_ret pe_bl)) pss_nil)
    (pss_cons (ps_set (i := 12) nd rfl (Or.inl rfl) (pe_callG G_question_size (hr.mono (by decide)) (pa_cons (pe_propG T.cls_E T.p_inserted G_Einserted (hr.mono (by decide)) (pv 1)) (pa_cons (pe_propG T.cls_E T.p_removals G_Eremovals (hr.mono (by decide)) (pv 1)) (pa_cons (pv 2) pa_nil)))))
    (pss_cons (ps_set (i := 13) nd rfl (Or.inl rfl) (pe_callG G_question_size (hr.mono (by decide)) (pa_cons (pe_propG T.cls_E T.p_inserted G_Einserted (hr.mono (by decide)) (pv 5)) (pa_cons (pe_propG T.cls_E T.p_removals G_Eremovals (hr.mono (by decide)) (pv 5)) (pa_cons (pv 6) pa_nil)))))
    (pss_one (ps_ret (pe_cmpR op_eq (pv 13) (pe_ifExp (pt_cmpR op_isN (pv 12) pe_non (nomark _)) pe_non (pe_op op_add (pv 12) (pv 4))) (nomark _))))))))))))), ?_⟩
  rintro ⟨scr, e, obs, b⟩ vs Q ok ⟨v1, _, rfl, h1, v2, _, rfl, h2, v3, _, rfl, h3, v4, _, rfl, (h4 : v4 = _), rfl⟩ q
  subst h4
  have ok : DeepOk e obs b := ok
  have h1 : (PoolP scr).h v1 H := h1
  have h2 : (EffP K e).h v2 H := h2
  have h3 : (LstP (obs.map obP)).h v3 H := h3
  refine q_asg (P := ExP (fun m => 1 ≤ m) IsI) (ev_iX (f := fun i j => i + j) (i := 1) (fun _ _ => rfl) ev_c (ev_draw (n := 10 ^ (30 : Int).toNat) (by decide) (by decide) (ev_var rfl h1) (ev_pow ⟨by decide, by decide, by decide⟩)) fun j hj => by have := hj.1; omega) fun x5 H1 e1 p5 => ?_
  obtain ⟨m, hm, (p5 : x5 = _)⟩ := p5
  subst p5
  have ins : ∀ {σ : St} {H1 : Hp} {i : Nat} {v : V} {e : Eff}, σ[i]? = some (some v) → (EffP K e).h v H1 → EvP (tProp (cE K) (Sp_Einserted K) [] E0 (tVar i)) σ H1 (BagP e.I) := fun {σ H1 i v e} hσ h => ev_prop (post := fun e => BagP e.I) e rfl trivial (ev_var hσ h) eff_ins
  have rem : ∀ {σ : St} {H1 : Hp} {i : Nat} {v : V} {e : Eff}, σ[i]? = some (some v) → (EffP K e).h v H1 → EvP (tProp (cE K) (Sp_Eremovals K) [] E0 (tVar i)) σ H1 (IsI e.R) := fun {σ H1 i v e} hσ h => ev_prop (post := fun e => IsI e.R) e rfl trivial (ev_var hσ h) eff_ins
  have sur : ∀ {σ : St} {H1 : Hp} {i : Nat} {v : V} {e : Eff}, σ[i]? = some (some v) → (EffP K e).h v H1 → EvP (tProp (cE K) (Sp_Esurvivors K) [] E0 (tVar i)) σ H1 (BagP e.S) := fun {σ H1 i v e} hσ h => ev_prop (post := fun e => BagP e.S) e rfl trivial (ev_var hσ h) eff_ins
  have val : Val ⟨e.I, e.R + m, e.S⟩ := ⟨ok.w.i, ok.w.s, ok.w.h, by have := ok.l; have := ok.ls; show e.I.length + e.S.length ≤ 900; omega, by have := ok.w.t; show tot e.I - tot e.S ≤ e.R + m; omega, by have := ok.w.r; show 0 ≤ e.R + m; omega⟩
  have h21 := (EffP K e).kp e1 h2
  refine q_asg (ev_makeE val (ea3 (ins (e := e) rfl h21) (ev_i (i := e.R) (j := m) (rem (e := e) rfl h21) (ev_v rfl) rfl) (sur (e := e) rfl h21))) fun x6 H2 e2 h6 => ?_
  have e12 := e1.trans e2
  refine q_asg (P := ObsP (obs.map (deepO (b - 10) m))) (EvP.imp (ev_lcL2 (xs := obs) (P1 := fun o => BagP o.1) (P2 := fun o => BagP o.2) (fun _ => true) (fun o => obP (deepO (b - 10) m o)) (ev_var rfl ((LstP _).kp e12 h3)) (by have := ok.n; omega) (fun _ _ => rfl) (fun _ _ _ _ _ _ _ _ => et_yes) fun o ho y1 y2 H3 e3 k1 k2 _ => ev_tup (Ps := [BagP (deepO (b - 10) m o).1, BagP o.2]) (ea2 ?_ (ev_var rfl k2)) (by simp)) fun v H3 _ p => ?_) fun x7 H3 e3 h7 => ?_
  · have := (ok.z o ho).1
    refine (ev_catF (Ps := [entP (b - 10, m)]) (Qs := o.1.map entP) (ev_tupF (ea1 (ev_tup (Ps := [IsI (b - 10), IsI m]) (ea2 (ev_i (ev_v rfl) ev_c rfl) (ev_v rfl)) (by simp))) (by simp)) ((ev_var rfl k1).imp fun v H4 _ (p : (BagP o.1).h v H4) => p.2) (by rw [List.length_map]; simp; omega)).imp fun v H4 _ p => ⟨?_, p⟩
    show ((b - 10, m) :: o.1).length ≤ 1000
    rw [List.length_cons]
    omega
  · rw [kept_all] at p
    unfold ObsP
    rw [List.map_map]
    exact NewL.lst p
  have e13 := e12.trans e3
  have h63 := (EffP K _).kp e3 h6
  refine q_asg (ev_call (e.I, e.R + m, obs.map (deepO (b - 10) m)) (ok.deep hm) (ea3 (ins (e := ⟨e.I, e.R + m, e.S⟩) rfl h63) (rem (e := ⟨e.I, e.R + m, e.S⟩) rfl h63) (ev_var rfl h7))) fun x8 H4 e4 h8 => ?_
  obtain ⟨⟨a', b'⟩, hx', h8⟩ := h8
  have hx' : Ext e.I (e.R + m) (obs.map (deepO (b - 10) m)) a' b' := hx'
  have h8 : (TupP [IsI (cntS e.I (e.R + m) (obs.map (deepO (b - 10) m))), BagP (bagOf e.I a'), BagP (bagOf e.I b')]).h x8 H4 := h8
  have e14 := e13.trans e4
  have h64 := (EffP K _).kp e4 h63
  have h74 := (ObsP _).kp e4 h7
  have cok : CntOk ⟨e.I, e.R + m, e.S⟩ (obs.map (deepO (b - 10) m)) := ⟨deep_feas ok.f hm ok.h, fun o' ho' => by
    obtain ⟨o, ho, rfl⟩ := List.mem_map.mp ho'
    have := ok.z o ho
    show ((b - 10, m) :: o.1).length + o.2.length < 63
    rw [List.length_cons]
    omega, ok.t⟩
  refine q_no (EvT.is (et_test (ev_ne (x := .int (cntS e.I (e.R + m) (obs.map (deepO (b - 10) m)))) (y := .int (cntS e.I (e.R + m) (obs.map (deepO (b - 10) m)))) (ev_ixT (Ps := [IsI (cntS e.I (e.R + m) (obs.map (deepO (b - 10) m))), BagP (bagOf e.I a'), BagP (bagOf e.I b')]) (i := 0) (ev_var rfl h8) ev_c rfl) (ev_call ((⟨e.I, e.R + m, e.S⟩ : Eff), obs.map (deepO (b - 10) m)) cok (ea2 (ev_var rfl h64) (ev_var rfl h74))) rfl)) (by simp)) fun H5 e5 => ?_
  have e15 := e14.trans e5
  have h25 := (EffP K e).kp e15 h2
  refine q_if (b := decide (e.R < tot e.I)) (et_test (ev_I0 (g := fun i j => .bl (decide (i < j))) (i := e.R) (j := tot e.I) (rem rfl h25) (ev_sum (xs := e.I) (f := fun x => x.2) (EvP.imp (ev_lcT2 (xs := e.I) (P1 := fun x => IsI x.1) (P2 := fun x => IsI x.2) (fun _ => true) (fun x => IsI x.2) ((ins rfl h25).imp fun v H6 _ p => BagP.tup p) (by have := ok.l; omega) (fun _ _ => rfl) (fun _ _ _ _ _ _ _ _ => et_yes) fun x _ y1 y2 H6 _ _ k2 _ => ev_var rfl k2) fun v H6 _ p => by rw [kept_all] at p; exact NewL.lst p)))) (fun z H6 e6 => ?_) fun z H6 e6 => ?_
  · exact s_ret (P := IsB true) ev_c fun v H7 e7 p => q v H7 ((e15.trans e6).trans e7) p
  have z := of_decide_eq_false z
  have e16 := e15.trans e6
  have same := deep_same ok.f hm ok.h (by omega : tot e.I ≤ e.R)
  have h26 := (EffP K e).kp e16 h2
  have h36 := (ObsP obs).kp e16 h3
  have h86 := (TupP _).kp (e5.trans e6) h8
  unfold tNext
  dsimp only
  refine q_no (EvT.is (b := false) (et_test (ev_neD (P := TupP [IsI (cntS e.I e.R obs), BagP (bagOf e.I a'), BagP (bagOf e.I b')]) (Q := TupP [IsI (cntS e.I e.R obs), BagP (bagOf e.I a'), BagP (bagOf e.I b')]) (d := tripD (cntS e.I e.R obs) (bagOf e.I a') (bagOf e.I b')) (e := tripD (cntS e.I e.R obs) (bagOf e.I a') (bagOf e.I b')) ?_ ?_ dp_trip dp_trip (sh_trip _ _ _) (sh_trip _ _ _) (by rw [eqv_trip]; simp))) rfl) fun H7 e7 => ?_
  · refine ev_var rfl ?_
    rw [show cntS e.I e.R obs = cntS e.I (e.R + m) (obs.map (deepO (b - 10) m)) from (solF_congr same _).symm]
    exact h86
  · refine EvP.imp (ev_call (Ps := pars) (post := fun g : Bag × Int × List (Bag × Bag) => SurvP g.1 g.2.1 g.2.2) (e.I, e.R, obs) ok.ok (ea3 (ins rfl h26) (rem rfl h26) (ev_var rfl h36))) fun v H7 _ p => ?_
    obtain ⟨⟨a, bb⟩, hx, hv⟩ := p
    have hx : Ext e.I e.R obs a bb := hx
    obtain ⟨u1, u2⟩ := hx'.uniq hx same
    rw [u1, u2]
    exact hv
  have e17 := e16.trans e7
  have h27 := (EffP K e).kp e17 h2
  have h37 := (ObsP obs).kp e17 h3
  refine q_asg (ev_call (e.I, e.R, obs) ok.ok (ea3 (ins rfl h27) (rem rfl h27) (ev_var rfl h37))) fun x12 H8 e8 p12 => ?_
  obtain ⟨o, ho, (p12 : x12 = _)⟩ := p12
  subst p12
  have e18 := e17.trans e8
  have h48 := ((e5.trans e6).trans e7).trans e8
  have h68 := (EffP K _).kp h48 h64
  have h78 := (ObsP _).kp h48 h74
  refine q_asg (ev_call (e.I, e.R + m, obs.map (deepO (b - 10) m)) (ok.deep hm) (ea3 (ins (e := ⟨e.I, e.R + m, e.S⟩) rfl h68) (rem (e := ⟨e.I, e.R + m, e.S⟩) rfl h68) (ev_var rfl h78))) fun x13 H9 e9 p13 => ?_
  obtain ⟨o', ho', (p13 : x13 = _)⟩ := p13
  subst p13
  have ho : QOk e.I e.R obs o := ho
  have ho' : QOk e.I (e.R + m) (obs.map (deepO (b - 10) m)) o' := ho'
  have ee := QOk.uniq same rfl ho ho'
  subst ee
  refine s_ret (P := IsB true) (EvP.is (ev_eq (x := optV (o.map (· + m))) (y := optV (o.map (· + m))) (ev_v rfl) (ev_if (b := decide (optV o = .non)) (et_test (ev_isN (x := optV o) (ev_v rfl) rfl)) (fun z => ?_) fun z => ?_) ?_) (by simp)) fun v HA eA p => q v HA ((e18.trans e9).trans eA) p
  · cases o with
    | none => exact ev_c
    | some k => exact absurd (of_decide_eq_true z) (by simp [optV])
  · cases o with
    | none => exact absurd rfl (of_decide_eq_false z)
    | some k => exact ev_i (i := k) (j := m) (ev_v rfl) (ev_v rfl) rfl
  · cases o with
    | none => rfl
    | some k => rfl
end
end K79
end
section
set_option Elab.async false
set_option linter.all false
set_option maxRecDepth 100000
set_option maxHeartbeats 4000000
namespace K79
open PySem PySem.Spec L2
section
variable {X : Cx}
/-- from here on the pool is known by its shape -/
def tShut (t : TS) : TS := fun D σ H => ∃ p sc, Closed p sc H ∧ t D σ (upd H p (PoolO p sc))
theorem pss_shut {st : List Stmt} {t : TS} (h : PSs X st t) : PSs X st (tShut t) := ⟨fun pins s σ H D I ⟨p, sc, hc, hw⟩ => by
  have e := h.run pins s σ _ D (pool_close I hc) hw
  exact e⟩
end
section
variable {K : PySem.W.Frag} {σ : St} {H : Hp} {tr : TA} {te : TE} {tg : TG} {ts tz : TS} {D : Ends}
/-- a call whose ghost is found in the arguments -/
theorem ev_callX {γ : Type} {Ps : γ → List Pr} {C : γ → Prop} {post : γ → Pr} {E : XK} {Rs : List Pr} {R : Pr} (ha : EvA tr σ H Rs) (hx : ∀ vs H1, AllP Rs vs H1 → ∃ g, C g ∧ AllP (Ps g) vs H1 ∧ ∀ v H2, (post g).h v H2 → R.h v H2) : EvP (tCall (SpG Ps C post) [] E tr) σ H R := fun H1 e _ q =>
  ha H1 e _ fun vs H2 e2 ps => by
    obtain ⟨g, hc, hp, hr⟩ := hx vs H2 ps
    exact ⟨g, hc, by rw [List.append_nil]; exact hp, fun v H3 e3 p => q v H3 (e2.trans e3) (hr v H3 p)⟩
/-- for over a range whose end is told by a word only -/
theorem q_forR1X {φ : Int → Prop} (h : EvP te σ H (ExP φ IsI)) (hb : ∀ m, φ m → -(2 ^ 62) ≤ m ∧ m < 2 ^ 62) (Pv : Nat → St → Hp → Prop) (h0 : ∀ H1, Same H H1 → Pv 0 σ H1)
    (hs : ∀ (m : Int) (i : Nat) σ' H', φ m → (i : Int) < m → Pv i σ' H' → tg (.int (i : Int)) σ' H' fun σ2 H2 => ts { D with nx := Pv (i + 1), ct := Pv (i + 1), bk := tz D } σ2 H2) (hd : ∀ (m : Int) σ' H', φ m → Pv m.toNat σ' H' → tz D σ' H') : tSeq (tFor (iRng1 (tCons te tNil)) tg ts) tz D σ H :=
  h H (Same.refl H) _ fun v H1 e1 ⟨m, hm, (hv : v = _)⟩ => by
    subst hv
    refine ⟨m, rfl, (hb m hm).1, (hb m hm).2, for_range (D := { D with nx := tz D }) (lo := 0) (n := m.toNat) Pv (h0 H1 e1) (fun i σ' H' hi' p => ?_) fun σ' H' p => hd m σ' H' hm p⟩
    rw [Int.zero_add]
    exact hs m i σ' H' hm (by omega) p
end
section
variable {K : PySem.W.Frag} {e : Eff} {obs : List (Bag × Bag)}
abbrev Fit (e : Eff) (obs : List (Bag × Bag)) : Prop := ∀ o ∈ obs, Heap1 e.I e.R e.S o
theorem Fit.snoc {o : Bag × Bag} (h : Fit e obs) (k : Heap1 e.I e.R e.S o) : Fit e (obs ++ [o]) := fun x hx => by
  rcases List.mem_append.mp hx with z | z
  · exact h x z
  · rw [List.mem_singleton.mp z]
    exact k
theorem trip_val (t : TripOk e.I e.R e.S) : Val e := ⟨t.i, t.s, t.has, by have := t.l; have := t.ls; omega, t.tot, t.r⟩
theorem fit_obs (t : TripOk e.I e.R e.S) (h : Fit e obs) (n : obs.length ≤ 20) : ObsOk e.I e.R obs := ⟨own_feas t h, n, fun o m => by
  have := (h o m).l
  have := (h o m).len t
  have := t.l
  simp only [sumLen, List.map_cons, List.map_nil, List.sum_cons, List.sum_nil]
  omega, by have := t.t40; omega⟩
theorem fit_end (t : TripOk e.I e.R e.S) (h : Fit e obs) (n : obs.length ≤ 20) {a b : List Int} (x : Ext e.I e.R obs a b) : EndOk e obs a b := ⟨t.own, fit_obs t h n, x, own_sol t h, t.l, fun o m => by have := (h o m).l; omega⟩
theorem fit_deep (t : TripOk e.I e.R e.S) (h : Fit e obs) (n : obs.length ≤ 20) : DeepOk e obs (low e.I) := ⟨t.own, own_feas t h, n, by have := t.t40; omega, own_high t h, t.l, t.ls, fun o m => ⟨(h o m).l, (h o m).len t⟩⟩
theorem fit_cnt (t : TripOk e.I e.R e.S) (h : Fit e obs) : CntOk e obs := ⟨own_feas t h, fun o m => by have := (h o m).l; have := (h o m).len t; omega, by have := t.t40; omega⟩
theorem fix_obs : ∀ {obs : List (Bag × Bag)}, FixL (obs.map obP) := fun {obs} P hP => by
  obtain ⟨o, _, rfl⟩ := List.mem_map.mp hP
  infer_instance
end
section
variable {P : Program} {w : World} {K : PySem.W.Frag} {mg : Str → Option Value} {base : Heap}
theorem mkSF {k : Nat} {x qual : Str} {st : Stmt} {f : Addr} {fd : FuncData} {N ps : List Str} {sp : Sp} (F : Fun K x qual st f fd) (S : FnScope N ps (defScope st)) (hl : ∀ vs H Q E, sp vs H Q E → vs.length = ps.length)
    (body : ∀ (cdv : Value) (A : Around) (outer : List Env) (s : Shared) (H : Hp) (E : XK), Room k (A.deeper (PyProof.Rows.envOfC qual (defScope st) s.heap.objs.size f cdv)) →
      ∃ t, PSs (cxOf CX0 P w K mg base N qual (defScope st) f cdv A outer s H E).nox (defBody st) t ∧ ∀ (vs : List V) (Q : VK), sp vs H Q E → t { nx := fun _ H' => Q .non H', rt := Q } (start N vs) H) : FnOk P w K mg base CX0 (k + 1) f fd ps sp := by
  refine F.ok S hl fun cdv A outer s H vs Q E hr h => ?_
  obtain ⟨t, ht, hd⟩ := body cdv A outer s H E hr
  exact ⟨t, ht, hd vs Q h⟩
/-- the law's spec -/
def spLaw (K : PySem.W.Frag) : Sp := fun vs H Q _ => ∃ (a : Addr) (ns : List Int), vs = [.ref a] ∧ SqL K H a (ns.map V.int) ∧ ns.length ≤ 63 ∧ ∀ H', Q (.bl true) H'
abbrev N_law : List Str := ["_law_script", "_law_pool", "_law_inserted", "_law_removals", "_law_survivors", "_law_effect", "_law_base_here", "_law_observed", "_law_last", "_law_k", "_law_heap", "_law_after", "_law_wanted", "_law_high"]
theorem sc_law : FnScope N_law ["_law_script"] (defScope st_law) := ⟨rfl, rfl, rfl, by decide +kernel, rfl, by decide +kernel, by decide +kernel⟩
theorem ok_law (T : Fx K mg) {fd : FuncData} (F : Fun K "law" "law" st_law (He.ga K "law") fd) : FnOk P w K mg base CX0 9 (He.ga K "law") fd ["_law_script"] (spLaw K) := by
  have G_l_draw := ok_l_draw (P := P) (w := w) (base := base) T
  have G_l_steps := ok_l_steps (P := P) (w := w) (base := base) T
  have G_l_triple := ok_l_triple (P := P) (w := w) (base := base) T
  have G_l_moved_heap := ok_l_moved_heap (P := P) (w := w) (base := base) T
  have G_l_ends_right := ok_l_ends_right (P := P) (w := w) (base := base) T
  have G_l_count := ok_l_count (P := P) (w := w) (base := base) T
  have G_l_deeper_right := ok_l_deeper_right (P := P) (w := w) (base := base) T
  have G_possible_survivors := ok_possible_survivors (P := P) (w := w) (base := base) T
  have G_question_size := ok_question_size (P := P) (w := w) (base := base) T
  have G_Einit := ok_Einit (P := P) (w := w) (base := base) T
  have G_Eapply := ok_Eapply (P := P) (w := w) (base := base) T
  have G_Eneeded := ok_Eneeded (P := P) (w := w) (base := base) T
  refine mkSF F sc_law (fun vs H Q E ⟨a, ns, e, _⟩ => by rw [e] <;> rfl) fun cdv A outer s H E hr => ?_
  have nd := sc_law.nd
  refine ⟨_, (pss_cons (ps_set (i := 1) nd rfl (Or.inl rfl) (pe_lst (pa_cons (pe_callTy call_list_of (by rfl) T.n_list (by decide +kernel) (pa_cons (pv 0) pa_nil)) (pa_cons pe_int (pa_cons pe_int (pa_cons pe_int pa_nil))))))
    (pss_shut (pss_cons (ps_asg (pe_callG G_l_triple (hr.mono (by decide)) (pa_cons (pe_callG G_l_steps (hr.mono (by decide)) (pa_cons (pv 1) (pa_cons (pe_callG G_l_draw (hr.mono (by decide)) (pa_cons (pv 1) (pa_cons pe_int pa_nil))) (pa_cons pe_int pa_nil)))) pa_nil)) (pg_tup rfl (pgs_cons (pg_name (i := 2) nd rfl (Or.inl rfl)) (pgs_cons (pg_name (i := 3) nd rfl (Or.inl rfl)) (pgs_cons (pg_name (i := 4) nd rfl (Or.inl rfl)) pgs_nil)))))
    (pss_cons (ps_set (i := 5) nd rfl (Or.inl rfl) (pe_makeG T.mk_E T.g_Effect G_Einit (hr.mono (by decide)) (pa_cons (pv 2) (pa_cons (pv 3) (pa_cons (pv 4) pa_nil)))))
    (pss_cons (ps_set (i := 6) nd rfl (Or.inl rfl) (pe_ifExp (pt_cmpR (op_neD hr.units) (pv 2) (pe_tupF pa_nil) (nomark _)) (pe_ix ix_tup (pe_ix ix_tup (pv 2) pe_int (fun _ _ => rfl)) pe_int (fun _ _ => rfl)) pe_int))
    (pss_cons (ps_set (i := 7) nd rfl (Or.inl rfl) (pe_lst pa_nil))
    (pss_cons (ps_set (i := 8) nd rfl (Or.inl rfl) (pe_callG G_possible_survivors (hr.mono (by decide)) (pa_cons (pv 2) (pa_cons (pv 3) (pa_cons (pv 7) pa_nil)))))
    (pss_cons (ps_for PassesOwn.never rfl (pi_range1 (by rfl) T.n_range (pa_cons (pe_callG G_l_draw (hr.mono (by decide)) (pa_cons (pv 1) (pa_cons pe_int pa_nil))) pa_nil)) (pg_name (i := 9) nd rfl (Or.inl rfl)) (pss_cons (ps_if (pt_not (pt_val (pe_callG G_l_ends_right (hr.mono (by decide)) (pa_cons (pv 5) (pa_cons (pv 7) (pa_cons (pv 8) pa_nil)))))) (pss_one (ps_ret pe_bl)) pss_nil)
    (pss_cons (ps_set (i := 10) nd rfl (Or.inl rfl) (pe_callG G_l_moved_heap (hr.mono (by decide)) (pa_cons (pv 1) (pa_cons (pv 5) (pa_cons (pv 6) pa_nil)))))
    (pss_cons (ps_expr (pe_bm PySem.F.plainAttrs_list PySem.F.slot_list_append PySem.F.type_list_append mt_append (pv 7) (pa_cons (pe_tup (pa_cons (pv 10) (pa_cons (pe_methG T.cls_E T.m_Eapply G_Eapply (hr.mono (by decide)) (pv 5) (pa_cons (pv 10) pa_nil)) pa_nil))) pa_nil)))
    (pss_cons (ps_set (i := 11) nd rfl (Or.inl rfl) (pe_callG G_possible_survivors (hr.mono (by decide)) (pa_cons (pv 2) (pa_cons (pv 3) (pa_cons (pv 7) pa_nil)))))
    (pss_cons (ps_if (pt_cmpR op_gt (pe_ix ix_tup (pv 11) pe_int (fun _ _ => rfl)) (pe_ix ix_tup (pv 8) pe_int (fun _ _ => rfl)) (nomark _)) (pss_one (ps_ret pe_bl)) pss_nil)
    (pss_one (ps_set (i := 8) nd rfl (Or.inl rfl) (pv 11)))))))))
    (pss_cons (ps_if (pt_cmpR op_ne (pe_ix ix_tup (pv 8) pe_int (fun _ _ => rfl)) (pe_callG G_l_count (hr.mono (by decide)) (pa_cons (pv 5) (pa_cons (pv 7) pa_nil))) (nomark _)) (pss_one (ps_ret pe_bl)) pss_nil)
    (pss_cons (ps_if (pt_not (pt_val (pe_callG G_l_deeper_right (hr.mono (by decide)) (pa_cons (pv 1) (pa_cons (pv 5) (pa_cons (pv 7) (pa_cons (pv 6) pa_nil))))))) (pss_one (ps_ret pe_bl)) pss_nil)
    (pss_cons (ps_set (i := 12) nd rfl (Or.inl rfl) (pe_callG G_question_size (hr.mono (by decide)) (pa_cons (pv 2) (pa_cons (pv 3) (pa_cons (pv 7) pa_nil)))))
    (pss_cons (ps_if (PW.pt (pw_or (pt_cmpR op_ne (pe_cmpR op_isN (pv 12) pe_non (nomark _)) (pe_cmpR op_eq (pe_ix ix_tup (pv 8) pe_int (fun _ _ => rfl)) pe_int (nomark _)) (nomark _)) (pw_or1 (pt_not (pt_val (pe_callG G_l_ends_right (hr.mono (by decide)) (pa_cons (pv 5) (pa_cons (pv 7) (pa_cons (pv 8) pa_nil))))))))) (pss_one (ps_ret pe_bl)) pss_nil)
    (C8.pss_cut (ps_if (PW.pt (pw_and (pt_cmpR op_notN (pv 12) pe_non (nomark _)) (pw_and1 (pt_cmpR op_ge (pv 12) (pe_propG T.cls_E T.p_needed G_Eneeded (hr.mono (by decide)) (pv 5)) (nomark _))))) (pss_cons (ps_set (i := 13) nd rfl (Or.inl rfl) (pe_op op_add (pv 6) (pe_op op_pow pe_int pe_int)))
    (pss_cons (ps_set (i := 10) nd rfl (Or.inl rfl) (pe_ifExp (pt_cmpR op_gt (pv 12) pe_int (nomark _)) (pe_tupF (pa_cons (pe_tup (pa_cons (pv 13) (pa_cons (pv 12) pa_nil))) pa_nil)) (pe_tupF pa_nil)))
    (pss_one (ps_expr (pe_bm PySem.F.plainAttrs_list PySem.F.slot_list_append PySem.F.type_list_append mt_append (pv 7) (pa_cons (pe_tup (pa_cons (pv 10) (pa_cons (pe_methG T.cls_E T.m_Eapply G_Eapply (hr.mono (by decide)) (pv 5) (pa_cons (pv 10) pa_nil)) pa_nil))) pa_nil)))))) (pss_one (ps_if (pt_cmpR op_notN (pv 12) pe_non (nomark _)) (pss_one (ps_ret (pe_cmpR (op_eqD hr.units) (pv 4) (pe_ix ix_tup (pv 8) pe_int (fun _ _ => rfl)) (nomark _)))) pss_nil)))
    (pss_one (ps_ret (pe_cmpR (op_eqD hr.units) (pe_callG G_possible_survivors (hr.mono (by decide)) (pa_cons (pv 2) (pa_cons (pv 3) (pa_cons (pv 7) pa_nil)))) (pe_tup (pa_cons pe_int (pa_cons (pv 4) (pa_cons (pv 4) pa_nil)))) (nomark _))))))))))))))))), ?_⟩
  rintro vs Q ⟨a, ns, rfl, hs, hn, q⟩
  have hL : EvP (tCB (fun xs H Q => ∃ p ys, xs = [.ref p] ∧ (SqL K H p ys ∨ SqT K H p ys) ∧ ∀ l, H l = none → Q (.ref l) (upd H l (.lst ys))) (tCons (tVar 0) tNil)) (start N_law [.ref a]) H (LstP (ns.map IsI)) := ev_cb (ea1 (ev_v rfl)) fun vs H1 e hv k qq => by
    obtain ⟨x, _, rfl, (hx : x = _), rfl⟩ := hv
    subst hx
    exact ⟨a, _, rfl, .inl (hs.imp (Same.rd e) id), fun l hl => qq _ _ (Same.ext (Same.refl H1) hl) ⟨l, _, rfl, upd_same, AllP.of_is⟩⟩
  refine q_asg (ev_lst' (Ps := [LstP (ns.map IsI), IsI 0, IsI 0, IsI 1]) (ea_cons hL (ea3 ev_c ev_c ev_c)) (by simp)) fun vp H1 e1 hp => ?_
  obtain ⟨p, ys, rfl, hpp, x0, _, rfl, hx0, x1, _, rfl, (hx1 : x1 = _), x2, _, rfl, (hx2 : x2 = _), x3, _, rfl, (hx3 : x3 = _), rfl⟩ := hp
  subst hx1 hx2 hx3
  obtain ⟨sc, zs, rfl, hsc, hz⟩ := hx0
  have ez : zs = ns.map V.int := AllP.is hz
  subst ez
  have ne : sc ≠ p := fun z => by
    rw [z, hpp] at hsc
    have := HO.lst.inj (Option.some.inj hsc)
    cases ns with
    | nil => cases this
    | cons n r => cases this
  refine ⟨p, sc, ⟨0, 0, 1, Int.le_refl _, hpp⟩, ?_⟩
  have pool : (PoolP ns).h (.ref p) (upd H1 p (PoolO p sc)) := ⟨p, sc, rfl, upd_same, by rw [upd_ne ne]; exact hsc⟩
  generalize upd H1 p (PoolO p sc) = H0 at pool
  clear hpp hsc hz e1 hL
  have trip : EvP (tCall Sp_l_triple [] E (tCons (tCall Sp_l_steps [] E (tCons (tVar 1) (tCons (tCall Sp_l_draw [] E (tCons (tVar 1) (tCons (tC (.int 41)) tNil))) (tCons (tC (.int 8)) tNil)))) tNil)) ((start N_law [.ref a]).set 1 (some (.ref p))) H0 (ExP (fun e : Eff => TripOk e.I e.R e.S) fun e => TupP [BagP e.I, IsI e.R, BagP e.S]) := by
    refine ev_callX (R := ExP (fun e : Eff => TripOk e.I e.R e.S) fun e => TupP [BagP e.I, IsI e.R, BagP e.S]) (ea1 (P := ExP (fun g : Nat × List (Option Int) => StepsOk g.1 g.2 ∧ g.1 ≤ 40) fun g => LstP (g.2.map stepP)) (ev_callX (ea3 (ev_var rfl pool) (ev_draw (scr := ns) (n := 41) (by decide) (by decide) (ev_var rfl pool) ev_c) (ev_c (v := .int 8))) ?_)) ?_
    · rintro vs H2 ⟨v1, _, rfl, h1, v2, _, rfl, ⟨m, hm, h2⟩, v3, _, rfl, h3, rfl⟩
      refine ⟨(ns, m), ⟨hm.1, by have := hm.2; show m ≤ 40; omega⟩, ⟨_, _, rfl, h1, _, _, rfl, h2, _, _, rfl, h3, rfl⟩, fun v H3 ⟨ss, a, b⟩ => ⟨(m.toNat, ss), ⟨a, by have := hm.2; show m.toNat ≤ 40; omega⟩, b⟩⟩
    · rintro vs H2 ⟨v1, _, rfl, ⟨g, hg, h1⟩, rfl⟩
      exact ⟨g, hg, ⟨_, _, rfl, h1, rfl⟩, fun v H3 h => h⟩
  refine trip H0 (Same.refl H0) _ fun vt H2 e2 ht => ?_
  obtain ⟨e, ok, ht⟩ := ht
  obtain ⟨pt, yt, rfl, hpt, v2, _, rfl, h2, v3, _, rfl, (h3 : v3 = _), v4, _, rfl, h4, rfl⟩ := ht
  subst h3
  refine ⟨pt, _, rfl, .inl hpt, rfl, v2, _, rfl, _, _, rfl, v4, _, rfl, rfl, ?_⟩
  have val := trip_val ok
  have need := need_ok ok
  show tSeq _ _ _ [some (.ref a), some (.ref p), some v2, some (.int e.R), some v4, none, none, none, none, none, none, none, none, none] H2
  refine q_asg (ev_makeE val (ea3 (ev_var rfl h2) (ev_v rfl) (ev_var rfl h4))) fun v5 H3 e3 h5 => ?_
  have h23 := (BagP e.I).kp e3 h2
  refine q_asg (P := IsI (low e.I)) (ev_if (b := !decide (e.I = [])) (et_test (ev_neD (P := BagP e.I) (Q := BagP []) (ev_var rfl h23) ((ev_tupF (Ps := []) ea_nil (by simp)).imp fun v H4 _ p => ⟨by simp, p⟩) dp_bag dp_bag (sh_bag _) (sh_bag _) (by rw [eqv_bag]))) (fun z => ?_) fun z => ?_) fun x6 H4 e4 (p6 : x6 = _) => ?_
  · cases hI : e.I with
    | nil => rw [hI] at z; cases z
    | cons c r => exact ev_ixT (Ps := [IsI c.1, IsI c.2]) (i := 0) (ev_ixT (P := entP c) (i := 0) (ev_var rfl (BagP.tup h23)) ev_c (by rw [hI] <;> rfl)) ev_c rfl
  · cases hI : e.I with
    | nil => exact ev_c
    | cons c r => rw [hI] at z; cases z
  subst p6
  have pool := (PoolP ns).kp ((e2.trans e3).trans e4) pool
  have h2 := (BagP e.I).kp (e3.trans e4) h2
  have h4 := (BagP e.S).kp (e3.trans e4) h4
  have h5 := (EffP K e).kp e4 h5
  clear h23 hpt e2 e3 e4 trip
  refine q_asg (ev_lst (Ps := []) ea_nil (by simp)) fun v7 H5 e5 p7 => ?_
  obtain ⟨l, ys, rfl, hl0, hl, (hys : ys = [])⟩ := p7
  subst hys
  show tSeq _ _ _ [some (.ref a), some (.ref p), some v2, some (.int e.R), some v4, some v5, some (.int (low e.I)), some (.ref l), none, none, none, none, none, none] H5
  have surv : ∀ {σ : St} {H1 : Hp} {obs : List (Bag × Bag)}, Fit e obs → obs.length ≤ 20 → Same H4 H1 → σ[2]? = some (some v2) → σ[3]? = some (some (.int e.R)) → σ[7]? = some (some (.ref l)) → (ObsP obs).h (.ref l) H1 → EvP (tCall Sp_possible_survivors [] E (tCons (tVar 2) (tCons (tVar 3) (tCons (tVar 7) tNil)))) σ H1 (SurvP e.I e.R obs) := fun {σ H1 obs} hf hn s' e2 e3 e7 ho => ev_call (e.I, e.R, obs) (fit_obs ok hf hn) (ea3 (ev_var e2 ((BagP e.I).kp s' h2)) (ev_v e3) (ev_var e7 ho))
  have obsN : (ObsP []).h (.ref l) H5 := ⟨l, [], rfl, hl, rfl⟩
  refine q_asg (surv (obs := []) (fun o m => by cases m) (by simp) e5 rfl rfl rfl obsN) fun v8 H6 e6 h8 => ?_
  refine q_forR1X (φ := drawOf 6) (ev_draw (scr := ns) (n := 6) (by decide) (by decide) (ev_var rfl ((PoolP ns).kp (e5.trans e6) pool)) ev_c) (fun m hm => by have := hm.1; have := hm.2; omega)
    (fun i σ' H' => ∃ (obs : List (Bag × Bag)) (v8 : V) (a9 a10 a11 : Option V), σ' = [some (.ref a), some (.ref p), some v2, some (.int e.R), some v4, some v5, some (.int (low e.I)), some (.ref l), some v8, a9, a10, a11, none, none] ∧ Same H4 H' ∧ (ObsP obs).h (.ref l) H' ∧ obs.length = i ∧ Fit e obs ∧ (SurvP e.I e.R obs).h v8 H')
    (fun H7 e7 => ⟨[], v8, none, none, none, rfl, (e5.trans e6).trans e7, (ObsP []).kp (e6.trans e7) obsN, rfl, fun o m => (nomatch m), (SurvP _ _ _).kp e7 h8⟩) ?_ ?_
  · rintro m i σ' H7 hm hi ⟨obs, w8, a9, a10, a11, rfl, s7, ho, hlen, fit, h8⟩
    have hlen20 : obs.length ≤ 6 := by have := hm.2; omega
    obtain ⟨⟨ga, gb⟩, gx, gp⟩ := h8
    have gx : Ext e.I e.R obs ga gb := gx
    have gp : (TupP [IsI (cntS e.I e.R obs), BagP (bagOf e.I ga), BagP (bagOf e.I gb)]).h w8 H7 := gp
    show tSeq _ _ _ [some (.ref a), some (.ref p), some v2, some (.int e.R), some v4, some v5, some (.int (low e.I)), some (.ref l), some w8, some (.int (i : Int)), a10, a11, none, none] H7
    refine q_no (et_not (a := true) (et_B (ev_call (e, obs, ga, gb) (fit_end ok fit (by omega) gx) (ea3 (ev_var rfl ((EffP K e).kp s7 h5)) (ev_var rfl ho) (ev_var rfl gp))))) fun H8 e8 => ?_
    have s8 := s7.trans e8
    refine q_asg (ev_call (ns, e, low e.I) need (ea3 (ev_var rfl ((PoolP ns).kp s8 pool)) (ev_var rfl ((EffP K e).kp s8 h5)) (ev_v rfl))) fun v10 H9 e9 h10 => ?_
    obtain ⟨B, hB, h10⟩ := h10
    have hB : HeapOk (low e.I) (e.R - tot e.I + tot e.S) B := hB
    have h10 : (BagP B).h v10 H9 := h10
    have s9 := s8.trans e9
    have ho9 := (ObsP obs).kp (e8.trans e9) ho
    obtain ⟨l', ys, hll, hly, hya⟩ := ho9
    cases hll
    have one : Heap1 e.I e.R e.S (B, applyB e B) := ⟨hB.b, hB.n, rfl, hB.l, hB.a⟩
    show tSeq _ _ _ [some (.ref a), some (.ref p), some v2, some (.int e.R), some v4, some v5, some (.int (low e.I)), some (.ref l), some w8, some (.int (i : Int)), some v10, a11, none, none] H9
    refine q_app hly (ev_v rfl) (ev_tup (Ps := [BagP B, BagP (applyB e B)]) (ea2 (ev_var rfl h10) (ev_meth (e, B) rfl ⟨val, hB.b, hB.n, by have := hB.l; have := ok.l; have := ok.ls; show B.length + (e.I.length + e.S.length) + e.S.length ≤ 1000; omega⟩ (ev_var rfl ((EffP K e).kp s9 h5)) (ea1 (ev_var rfl h10)) (eff_meth (by decide +kernel)))) (by simp)) (by rw [hya.len, List.length_map]; omega) fun vo H10 e10 ho10 => ?_
    have s10 := s9.trans e10
    have sm : Sim H10 (upd H10 l (.lst (ys ++ [vo]))) := Sim.lst (e10 _ _ hly)
    have s11 : Same H4 (upd H10 l (.lst (ys ++ [vo]))) := Same.chg s10 hl0
    have ho11 : (ObsP (obs ++ [(B, applyB e B)])).h (.ref l) (upd H10 l (.lst (ys ++ [vo]))) := ⟨l, _, rfl, upd_same, by
      rw [List.map_append]
      exact AllP.snoc (AllP.fx fix_obs sm (AllP.kp e10 hya)) ((inferInstance : Fixd (obP (B, applyB e B))).fx sm ho10)⟩
    have gp11 := (inferInstance : Fixd (TupP [IsI (cntS e.I e.R obs), BagP (bagOf e.I ga), BagP (bagOf e.I gb)])).fx sm ((TupP _).kp ((e8.trans e9).trans e10) gp)
    have fit' := fit.snoc one
    have len' : (obs ++ [(B, applyB e B)]).length = i + 1 := by rw [List.length_append, hlen] <;> rfl
    generalize upd H10 l (.lst (ys ++ [vo])) = H11 at s11 ho11 gp11
    clear sm
    refine q_asg (surv fit' (by rw [len']; omega) s11 rfl rfl rfl ho11) fun v11 H12 e12 h11 => ?_
    have h11' := h11
    obtain ⟨⟨gc, gd⟩, gx', gp'⟩ := h11
    have gp' : (TupP [IsI (cntS e.I e.R (obs ++ [(B, applyB e B)])), BagP (bagOf e.I gc), BagP (bagOf e.I gd)]).h v11 H12 := gp'
    refine q_no (EvT.is (et_test (ev_I0 (g := fun i j => .bl (decide (i > j))) (i := cntS e.I e.R (obs ++ [(B, applyB e B)])) (j := cntS e.I e.R obs) (ev_ixT (i := 0) (ev_var rfl gp') ev_c rfl) (ev_ixT (i := 0) (ev_var rfl ((TupP _).kp e12 gp11)) ev_c rfl))) (decide_eq_false (by have := cnt_more (I := e.I) (R := e.R) (obs := obs) (o := (B, applyB e B)); omega))) fun H13 e13 => ?_
    exact s_asg (ev_var rfl ((SurvP _ _ _).kp e13 h11')) fun v12 H14 e14 h12 => ⟨_, v12, _, _, _, rfl, ((s11.trans e12).trans e13).trans e14, (ObsP _).kp ((e12.trans e13).trans e14) ho11, len', fit', h12⟩
  · rintro m σ' H7 hm ⟨obs, w8, a9, a10, a11, rfl, s7, ho, hlen, fit, h8⟩
    have hlen20 : obs.length ≤ 6 := by have := hm.2; omega
    obtain ⟨⟨ga, gb⟩, gx, gp⟩ := h8
    have gx : Ext e.I e.R obs ga gb := gx
    have gp : (TupP [IsI (cntS e.I e.R obs), BagP (bagOf e.I ga), BagP (bagOf e.I gb)]).h w8 H7 := gp
    have hn20 : obs.length ≤ 20 := by omega
    have F := own_feas ok fit
    have g1 := cnt_ge_one F
    refine q_no (EvT.is (et_test (ev_ne (x := .int (cntS e.I e.R obs)) (y := .int (cntS e.I e.R obs)) (ev_ixT (i := 0) (ev_var rfl gp) ev_c rfl) (ev_call (e, obs) (fit_cnt ok fit) (ea2 (ev_var rfl ((EffP K e).kp s7 h5)) (ev_var rfl ho))) rfl)) (by simp)) fun H8 e8 => ?_
    have s8 := s7.trans e8
    refine q_no (et_not (a := true) (et_B (ev_call (ns, e, obs, low e.I) (fit_deep ok fit hn20) (ea_cons (ev_var rfl ((PoolP ns).kp s8 pool)) (ea3 (ev_var rfl ((EffP K e).kp s8 h5)) (ev_var rfl ((ObsP obs).kp e8 ho)) (ev_v rfl)))))) fun H9 e9 => ?_
    have s9 := s8.trans e9
    have e89 := e8.trans e9
    refine q_asg (ev_call (e.I, e.R, obs) (fit_obs ok fit hn20) (ea3 (ev_var rfl ((BagP e.I).kp s9 h2)) (ev_v rfl) (ev_var rfl ((ObsP obs).kp e89 ho)))) fun v12 H10 e10 h12 => ?_
    obtain ⟨o, qo, (h12 : v12 = _)⟩ := h12
    subst h12
    have qo : QOk e.I e.R obs o := qo
    have s10 := s9.trans e10
    have e810 := e89.trans e10
    show tSeq _ _ _ [some (.ref a), some (.ref p), some v2, some (.int e.R), some v4, some v5, some (.int (low e.I)), some (.ref l), some w8, a9, a10, a11, some (optV o), none] H10
    have gp := (TupP _).kp e810 gp
    have ho := (ObsP obs).kp e810 ho
    refine q_no (et_or (a := false) (b := false) (EvT.is (et_test (ev_ne (x := .bl (decide (optV o = .non))) (y := .bl (decide (V.int (cntS e.I e.R obs) = .int 1))) (ev_isN (ev_v rfl) rfl) (ev_eq (x := .int (cntS e.I e.R obs)) (ev_ixT (i := 0) (ev_var rfl gp) ev_c rfl) ev_c rfl) rfl)) ?_) fun _ => et_not (a := true) (et_B (ev_call (e, obs, ga, gb) (fit_end ok fit (by omega) gx) (ea3 (ev_var rfl ((EffP K e).kp s10 h5)) (ev_var rfl ho) (ev_var rfl gp))))) fun H11 e11 => ?_
    · rcases qo with ⟨c, rfl⟩ | ⟨c, z, rfl, _⟩
      · have : cntS e.I e.R obs = 1 := by omega
        simp [this, optV]
      · have : ¬ cntS e.I e.R obs = 1 := by omega
        simp [this, optV]
    have s11 := s10.trans e11
    have gp := (TupP _).kp e11 gp
    have ho := (ObsP obs).kp e11 ho
    refine q_cut (fun σ' H' => ∃ (obs : List (Bag × Bag)) (a8 a9 a10 a11 a12 a13 : Option V), σ' = [some (.ref a), some (.ref p), some v2, some (.int e.R), some v4, some v5, some (.int (low e.I)), some (.ref l), a8, a9, a10, a11, a12, a13] ∧ Same H4 H' ∧ (ObsP obs).h (.ref l) H' ∧ obs.length ≤ 20 ∧ Fit e obs ∧ ∀ c, Sol e.I e.R obs c → c = sl e.I e.S) ?_ ?_
    · rcases qo with ⟨c, rfl⟩ | ⟨c, z, rfl, z1, z2⟩
      · refine s_if (b := false) (et_and (a := false) (b := false) (et_test (ev_notN (x := .non) (ev_v rfl) rfl)) fun h => by cases h) (fun h => by cases h) fun _ H12 e12 => ?_
        refine s_no (et_test (ev_notN (x := .non) (ev_v rfl) rfl)) fun H13 e13 => ?_
        refine ⟨obs, _, _, _, _, _, _, rfl, (s11.trans e12).trans e13, (ObsP obs).kp (e12.trans e13) ho, by omega, fit, fun c hc => ?_⟩
        have e1 : ga = gb := (bagOf_inj F.i gx.la.chn gx.lb.chn).mp ((cnt_one_iff F gx).mp (by omega))
        subst e1
        rw [gx.same hc, gx.same (own_sol ok fit)]
      · have nd : ∀ {H12 : Hp}, Same H11 H12 → EvP (tProp (cE K) (Sp_Eneeded K) [] E0 (tVar 5)) [some (.ref a), some (.ref p), some v2, some (.int e.R), some v4, some v5, some (.int (low e.I)), some (.ref l), some w8, a9, a10, a11, some (.int (e.R - tot e.I + z)), none] H12 (IsI (e.R - tot e.I + tot e.S)) := fun {H12} s' => ev_prop (post := fun e => IsI (e.R - tot e.I + tot e.S)) e rfl trivial (ev_var rfl ((EffP K e).kp (s11.trans s') h5)) eff_ins
        show tIfS _ _ _ _ [some (.ref a), some (.ref p), some v2, some (.int e.R), some v4, some v5, some (.int (low e.I)), some (.ref l), some w8, a9, a10, a11, some (.int (e.R - tot e.I + z)), none] H11
        have nn : (!decide (V.int (e.R - tot e.I + z) = V.non)) = true := by rw [decide_eq_false (fun h => by cases h)] <;> rfl
        refine s_if (b := decide (e.R - tot e.I + z ≥ e.R - tot e.I + tot e.S)) (EvT.is (et_and (a := true) (EvT.is (et_test (ev_notN (x := .int (e.R - tot e.I + z)) (ev_v rfl) rfl)) nn) fun _ => et_test (ev_I0 (g := fun i j => .bl (decide (i ≥ j))) (ev_v rfl) (nd (Same.refl _)))) (by rw [Bool.true_and])) (fun zz H12 e12 => ?_) fun zz H12 e12 => ?_
        · have zz := of_decide_eq_true zz
          have s12 := s11.trans e12
          have hh : low e.I + 8 ≤ low e.I + 10 ^ (20 : Int).toNat := by
            have : (8 : Int) ≤ 10 ^ (20 : Int).toNat := by decide
            omega
          refine q_asg (P := IsI (low e.I + 10 ^ (20 : Int).toNat)) (ev_i (i := low e.I) (j := 10 ^ (20 : Int).toNat) (ev_v rfl) (ev_pow (i := 10) (j := 20) ⟨by decide, by decide, by decide⟩) rfl) fun x13 H13 e13 (p13 : x13 = _) => ?_
          subst p13
          generalize hhi : low e.I + 10 ^ (20 : Int).toNat = hi at hh ⊢
          generalize hw : e.R - tot e.I + z = wn at zz ⊢
          have s13 := s12.trans e13
          refine q_asg (P := BagP (farB hi wn)) (ev_if (b := decide (wn > 0)) (et_test (ev_I0 (g := fun i j => .bl (decide (i > j))) (ev_v rfl) ev_c)) (fun y => ?_) fun y => ?_) fun v10 H14 e14 h10 => ?_
          · have y := of_decide_eq_true y
            rw [show farB hi wn = [(hi, wn)] by unfold farB; rw [if_pos y]]
            exact (ev_tupF (Ps := [entP (hi, wn)]) (ea1 (ev_tup (Ps := [IsI hi, IsI wn]) (ea2 (ev_v rfl) (ev_v rfl)) (by simp))) (by simp)).imp fun v H4 _ p => ⟨by simp, p⟩
          · have y := of_decide_eq_false y
            rw [show farB hi wn = [] by unfold farB; rw [if_neg y]]
            exact (ev_tupF (Ps := []) ea_nil (by simp)).imp fun v H4 _ p => ⟨by simp, p⟩
          have s14 := s13.trans e14
          have one := far_heap ok zz hh
          have ho14 := (ObsP obs).kp ((e12.trans e13).trans e14) ho
          obtain ⟨l', ys, hll, hly, hya⟩ := ho14
          cases hll
          refine s_app hly (ev_v rfl) (ev_tup (Ps := [BagP (farB hi wn), BagP (applyB e (farB hi wn))]) (ea2 (ev_var rfl h10) (ev_meth (e, farB hi wn) rfl ⟨val, one.b, one.n, by have : (farB hi wn).length ≤ 14 := one.l; have := ok.l; have := ok.ls; show (farB hi wn).length + (e.I.length + e.S.length) + e.S.length ≤ 1000; omega⟩ (ev_var rfl ((EffP K e).kp s14 h5)) (ea1 (ev_var rfl h10)) (eff_meth (by decide +kernel)))) (by simp)) (by rw [hya.len, List.length_map]; omega) fun vo H15 e15 ho15 => ?_
          have s15 := s14.trans e15
          have sm : Sim H15 (upd H15 l (.lst (ys ++ [vo]))) := Sim.lst (e15 _ _ hly)
          have fit' := fit.snoc one
          refine ⟨obs ++ [_], _, _, _, _, _, _, rfl, Same.chg s15 hl0, ⟨l, _, rfl, upd_same, ?_⟩, by rw [List.length_append]; show obs.length + 1 ≤ 20; omega, fit', far_uniq ok fit' (List.mem_append_right _ (List.mem_singleton.mpr rfl)) fun q hq => by rw [farB_mem q hq]; exact hh⟩
          rw [List.map_append]
          exact AllP.snoc (AllP.fx fix_obs sm (AllP.kp e15 hya)) ((inferInstance : Fixd (obP (farB hi wn, applyB e (farB hi wn)))).fx sm ho15)
        · have zz := of_decide_eq_false zz
          refine s_if (b := true) (EvT.is (et_test (ev_notN (x := .int (e.R - tot e.I + z)) (ev_v rfl) rfl)) nn) (fun _ H13 e13 => ?_) fun h => by cases h
          have eb : gb = sl e.I e.S := great_own gx (own_sol ok fit) (z := z) (by rw [sl_last ok.i ok.s ok.has]; omega) z2
          have s13 := (s11.trans e12).trans e13
          refine s_ret (P := IsB true) (ev_eqD (P := BagP e.S) (Q := BagP (bagOf e.I gb)) (ev_var rfl ((BagP e.S).kp s13 h4)) (ev_ixT (i := 2) (ev_var rfl ((TupP _).kp (e12.trans e13) gp)) ev_c rfl) dp_bag dp_bag (sh_bag _) (sh_bag _) (by rw [eqv_bag, eb, bagOf_sl ok.i ok.s ok.has]; simp)) fun v H14 e14 (p : v = _) => ?_
          subst p
          exact q H14
    · rintro σ' H12 ⟨obs, a8, a9, a10, a11, a12, a13, rfl, s12, ho, hn, fit, hu⟩
      refine s_ret (P := IsB true) (ev_eqD (P := TupP [IsI 1, BagP e.S, BagP e.S]) (Q := TupP [IsI 1, BagP e.S, BagP e.S]) ((surv fit hn s12 rfl rfl rfl ho).imp fun v H13 _ ⟨g, gx, gp⟩ => ?_) (ev_tup (ea3 ev_c (ev_var rfl ((BagP e.S).kp s12 h4)) (ev_var rfl ((BagP e.S).kp s12 h4))) (by simp)) dp_trip dp_trip (sh_trip _ _ _) (sh_trip _ _ _) (by rw [eqv_trip]; simp)) fun v H14 e14 (p : v = _) => ?_
      · obtain ⟨c1, c2, c3⟩ := told ok fit hu gx
        have gp : (TupP [IsI (cntS e.I e.R obs), BagP (bagOf e.I g.1), BagP (bagOf e.I g.2)]).h v H13 := gp
        rw [c1, c2, c3] at gp
        exact gp
      · subst p
        exact q H14
end
end K79
end
set_option Elab.async false
set_option linter.all false
set_option maxRecDepth 100000
set_option maxHeartbeats 0
open PySem PySem.W PySem.Calls PyProof.Rows
theorem PySem.Challenge.cw_heapeffects_k79_whole_observed_effects_holds : PySem.Challenge.rw_heapeffects_k79_whole_observed_effects.Holds := by
  w_on; o_law
  refine HandSHeadRun.head_any (r := OpenLaw.row PySem.Challenge.rw_heapeffects_k79_whole_observed_effects) (q := view (OpenLaw.row PySem.Challenge.rw_heapeffects_k79_whole_observed_effects).prog [62]) (H := K79.hookY) (ob := K79.ob) (M := 6000) (loose := K79.names) (d := HandSHeadRun.topDef (OpenLaw.row PySem.Challenge.rw_heapeffects_k79_whole_observed_effects).prog 62) (kwd := []) K79.ob_eq
    (by kernel_rfl) (fun s => by kernel_rfl) K79.run (by kernel_rfl) (by kernel_rfl) (by kernel_rfl) (by rfl) (by first | assumption | decide +kernel) (by decide +kernel) ⟨rfl, rfl, rfl, rfl, rfl, by decide +kernel⟩ ?hw ?hc
  case hw => w_witness2
  case hc =>
    refine L2.walk_ofE (l := PySem.Challenge.rw_heapeffects_k79_whole_observed_effects) (n := 63) (k := 9) (x := "_law_script") (CX := L2.CX0) rfl (by decide) (by kernel_rfl) ⟨rfl, by decide, by decide⟩ ?F (fun _ _ _ _ z => z)
    intro w mg fa h Y G hmg0
    obtain ⟨K, KX, c⟩ := Y
    have T := K79.fx_of KX G c
    have hmg : mg ("law" : PySem.Str) = some (.ref fa) := by
      have e : (HandSHeadRun.topDef (OpenLaw.row PySem.Challenge.rw_heapeffects_k79_whole_observed_effects).prog 62).name = ("law" : PySem.Str) := by kernel_rfl
      rw [← e]
      exact hmg0
    have e := hmg.symm.trans T.g_law
    cases e
    obtain ⟨fd, FD⟩ := c.a.def_ 30 (d := K79.d_law) rfl
    have b := L2.FunD.bindsA (ps := ["_law_script"]) FD fun _ _ _ _ _ _ us hl => match us, hl with | [_], _ => rfl
    exact ⟨K, fd, K79.spLaw K, KX, fun s v => b s [v] rfl, fun H a ns hl _ hS => ⟨a, ns, rfl, hS, hl, fun _ => rfl⟩, fun base _ _ => K79.ok_law T (He5.fun_of (st := K79.st_law) FD)⟩
