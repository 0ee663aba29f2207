import PyProof.Rows.All
import Wide.All
import OpenK.AllK
import Wide.FinOn
import KE.KStateDown
import HandS.Base
import HandS.Call
import HandS.Ends
import HandS.More
import HandS.Words
import HandS.Defaults
import HandS.IsInst
import HandS.ClsMeth
import HandS.Head0
import HandS.Head1
import HandS.Head2
import HandS.HeadEnd
import HandS.HeadHook1
import HandS.HeadHook2
import PySem.Challenge.RW_cycleready_k42_whole_readiness
import HandS.ForMost
import HandS.Conv
import HandS.SetKeys
import HandS.SetBool
import HandS.Codes
import HandS.SortOrd
import HandS.DictTup
import HandS.SortRule
import KE.KSortTupAny
import HandS.ListItems
import HandS.DictComp
import HandS.Walk
import HandS.WordsList
import HandS.Deep
import HandS.WideBits
import HandS.Small
import PyProof.Rows.StrMeet
import HandS.Style
set_option Elab.async false
set_option linter.all false
set_option maxRecDepth 100000
section
set_option maxHeartbeats 0
namespace Cy
open PySem PySem.Spec PyProof.Rows L2
/-! ### the text by places -/
def top (i : Nat) : Stmt := PySem.Challenge.pw_cycleready_k42_whole_readiness.main.body.getD i (.Pass ⟨0, 0, 0, 0⟩)
abbrev s_is_name : Stmt := top 14
abbrev s_is_integer : Stmt := top 15
abbrev s_want_names : Stmt := top 18
abbrev s_are_modules : Stmt := top 28
abbrev s__law_pot : Stmt := top 31
abbrev s__law_draw : Stmt := top 32
abbrev s__law_choice : Stmt := top 33
abbrev s__law_word : Stmt := top 34
abbrev s__law_words : Stmt := top 35
abbrev s__law_reach : Stmt := top 36
abbrev s__law_world : Stmt := top 37
abbrev s__law_answer : Stmt := top 38
abbrev s__law_finished : Stmt := top 39
abbrev s__law_asked : Stmt := top 40
abbrev s__law_taken : Stmt := top 41
abbrev s__law_groups_right : Stmt := top 42
abbrev s__law_stands : Stmt := top 43
abbrev s__law_needed : Stmt := top 44
abbrev s__law_ended : Stmt := top 45
abbrev s_law : Stmt := top 46
abbrev sN_init : Stmt := inClass (top 19) 0
abbrev sN_clone : Stmt := inClass (top 19) 6
abbrev sN_pairs : Stmt := inClass (top 19) 7
abbrev sN_record : Stmt := inClass (top 19) 8
abbrev sN_targets : Stmt := inClass (top 19) 9
abbrev sN_paths_from : Stmt := inClass (top 19) 13
abbrev sN_depends : Stmt := inClass (top 19) 14
abbrev sN_closure : Stmt := inClass (top 19) 15
abbrev sR_init : Stmt := inClass (top 29) 1
abbrev sR_want_module : Stmt := inClass (top 29) 8
abbrev sR_want_state : Stmt := inClass (top 29) 9
abbrev sR_state_of : Stmt := inClass (top 29) 11
abbrev sR_in_state : Stmt := inClass (top 29) 12
abbrev sR_needs : Stmt := inClass (top 29) 13
abbrev sR_early : Stmt := inClass (top 29) 15
abbrev sR_want_request : Stmt := inClass (top 29) 16
abbrev sR_request : Stmt := inClass (top 29) 17
abbrev sR_is_early : Stmt := inClass (top 29) 18
abbrev sR_answer : Stmt := inClass (top 29) 19
abbrev sR_access : Stmt := inClass (top 29) 20
abbrev sR_export : Stmt := inClass (top 29) 21
abbrev sR_exports : Stmt := inClass (top 29) 22
abbrev sR_is_complete : Stmt := inClass (top 29) 24
abbrev sR_finish : Stmt := inClass (top 29) 25
abbrev sR_forget_early : Stmt := inClass (top 29) 26
abbrev sR_is_state : Stmt := inClass (top 29) 6
/-! ### what the head tells -/
def d_is_name : He.DefD := ⟨("is_name", none), "is_name", "is_name", defArgs s_is_name, defBody s_is_name, defScope s_is_name, [], []⟩
def d_is_integer : He.DefD := ⟨("is_integer", none), "is_integer", "is_integer", defArgs s_is_integer, defBody s_is_integer, defScope s_is_integer, [], []⟩
def d_want_names : He.DefD := ⟨("want_names", none), "want_names", "want_names", defArgs s_want_names, defBody s_want_names, defScope s_want_names, [], []⟩
def d_are_modules : He.DefD := ⟨("are_modules", none), "are_modules", "are_modules", defArgs s_are_modules, defBody s_are_modules, defScope s_are_modules, [], []⟩
def d__law_pot : He.DefD := ⟨("_law_pot", none), "_law_pot", "_law_pot", defArgs s__law_pot, defBody s__law_pot, defScope s__law_pot, [], []⟩
def d__law_draw : He.DefD := ⟨("_law_draw", none), "_law_draw", "_law_draw", defArgs s__law_draw, defBody s__law_draw, defScope s__law_draw, [], []⟩
def d__law_choice : He.DefD := ⟨("_law_choice", none), "_law_choice", "_law_choice", defArgs s__law_choice, defBody s__law_choice, defScope s__law_choice, [], []⟩
def d__law_word : He.DefD := ⟨("_law_word", none), "_law_word", "_law_word", defArgs s__law_word, defBody s__law_word, defScope s__law_word, [], []⟩
def d__law_words : He.DefD := ⟨("_law_words", none), "_law_words", "_law_words", defArgs s__law_words, defBody s__law_words, defScope s__law_words, [], []⟩
def d__law_reach : He.DefD := ⟨("_law_reach", none), "_law_reach", "_law_reach", defArgs s__law_reach, defBody s__law_reach, defScope s__law_reach, [], []⟩
def d__law_world : He.DefD := ⟨("_law_world", none), "_law_world", "_law_world", defArgs s__law_world, defBody s__law_world, defScope s__law_world, [], []⟩
def d__law_answer : He.DefD := ⟨("_law_answer", none), "_law_answer", "_law_answer", defArgs s__law_answer, defBody s__law_answer, defScope s__law_answer, [], []⟩
def d__law_finished : He.DefD := ⟨("_law_finished", none), "_law_finished", "_law_finished", defArgs s__law_finished, defBody s__law_finished, defScope s__law_finished, [], []⟩
def d__law_asked : He.DefD := ⟨("_law_asked", none), "_law_asked", "_law_asked", defArgs s__law_asked, defBody s__law_asked, defScope s__law_asked, [], []⟩
def d__law_taken : He.DefD := ⟨("_law_taken", none), "_law_taken", "_law_taken", defArgs s__law_taken, defBody s__law_taken, defScope s__law_taken, [], []⟩
def d__law_groups_right : He.DefD := ⟨("_law_groups_right", none), "_law_groups_right", "_law_groups_right", defArgs s__law_groups_right, defBody s__law_groups_right, defScope s__law_groups_right, [], []⟩
def d__law_stands : He.DefD := ⟨("_law_stands", none), "_law_stands", "_law_stands", defArgs s__law_stands, defBody s__law_stands, defScope s__law_stands, [], []⟩
def d__law_needed : He.DefD := ⟨("_law_needed", none), "_law_needed", "_law_needed", defArgs s__law_needed, defBody s__law_needed, defScope s__law_needed, [], []⟩
def d__law_ended : He.DefD := ⟨("_law_ended", none), "_law_ended", "_law_ended", defArgs s__law_ended, defBody s__law_ended, defScope s__law_ended, [], []⟩
def d_law : He.DefD := ⟨("law", none), "law", "law", defArgs s_law, defBody s_law, defScope s_law, [], []⟩
def dN_init : He.DefD := ⟨("Needs", some "__init__"), "__init__", "Needs.__init__", defArgs sN_init, defBody sN_init, defScope sN_init, [], []⟩
def dN_clone : He.DefD := ⟨("Needs", some "clone"), "clone", "Needs.clone", defArgs sN_clone, defBody sN_clone, defScope sN_clone, [], []⟩
def dN_pairs : He.DefD := ⟨("Needs", some "pairs"), "pairs", "Needs.pairs", defArgs sN_pairs, defBody sN_pairs, defScope sN_pairs, [], []⟩
def dN_record : He.DefD := ⟨("Needs", some "record"), "record", "Needs.record", defArgs sN_record, defBody sN_record, defScope sN_record, [], []⟩
def dN_targets : He.DefD := ⟨("Needs", some "targets"), "targets", "Needs.targets", defArgs sN_targets, defBody sN_targets, defScope sN_targets, [], []⟩
def dN_paths_from : He.DefD := ⟨("Needs", some "paths_from"), "paths_from", "Needs.paths_from", defArgs sN_paths_from, defBody sN_paths_from, defScope sN_paths_from, [], []⟩
def dN_depends : He.DefD := ⟨("Needs", some "depends"), "depends", "Needs.depends", defArgs sN_depends, defBody sN_depends, defScope sN_depends, [], []⟩
def dN_closure : He.DefD := ⟨("Needs", some "closure"), "closure", "Needs.closure", defArgs sN_closure, defBody sN_closure, defScope sN_closure, [], []⟩
def dR_init : He.DefD := ⟨("Registry", some "__init__"), "__init__", "Registry.__init__", defArgs sR_init, defBody sR_init, defScope sR_init, [], []⟩
def dR_want_module : He.DefD := ⟨("Registry", some "want_module"), "want_module", "Registry.want_module", defArgs sR_want_module, defBody sR_want_module, defScope sR_want_module, [], []⟩
def dR_want_state : He.DefD := ⟨("Registry", some "want_state"), "want_state", "Registry.want_state", defArgs sR_want_state, defBody sR_want_state, defScope sR_want_state, [], []⟩
def dR_state_of : He.DefD := ⟨("Registry", some "state_of"), "state_of", "Registry.state_of", defArgs sR_state_of, defBody sR_state_of, defScope sR_state_of, [], []⟩
def dR_in_state : He.DefD := ⟨("Registry", some "in_state"), "in_state", "Registry.in_state", defArgs sR_in_state, defBody sR_in_state, defScope sR_in_state, [], []⟩
def dR_needs : He.DefD := ⟨("Registry", some "needs"), "needs", "Registry.needs", defArgs sR_needs, defBody sR_needs, defScope sR_needs, [], []⟩
def dR_early : He.DefD := ⟨("Registry", some "early"), "early", "Registry.early", defArgs sR_early, defBody sR_early, defScope sR_early, [], []⟩
def dR_want_request : He.DefD := ⟨("Registry", some "want_request"), "want_request", "Registry.want_request", defArgs sR_want_request, defBody sR_want_request, defScope sR_want_request, [], []⟩
def dR_request : He.DefD := ⟨("Registry", some "request"), "request", "Registry.request", defArgs sR_request, defBody sR_request, defScope sR_request, [], []⟩
def dR_is_early : He.DefD := ⟨("Registry", some "is_early"), "is_early", "Registry.is_early", defArgs sR_is_early, defBody sR_is_early, defScope sR_is_early, [], []⟩
def dR_answer : He.DefD := ⟨("Registry", some "answer"), "answer", "Registry.answer", defArgs sR_answer, defBody sR_answer, defScope sR_answer, [], []⟩
def dR_access : He.DefD := ⟨("Registry", some "access"), "access", "Registry.access", defArgs sR_access, defBody sR_access, defScope sR_access, [], []⟩
def dR_export : He.DefD := ⟨("Registry", some "export"), "export", "Registry.export", defArgs sR_export, defBody sR_export, defScope sR_export, [], []⟩
def dR_exports : He.DefD := ⟨("Registry", some "exports"), "exports", "Registry.exports", defArgs sR_exports, defBody sR_exports, defScope sR_exports, [], []⟩
def dR_is_complete : He.DefD := ⟨("Registry", some "is_complete"), "is_complete", "Registry.is_complete", defArgs sR_is_complete, defBody sR_is_complete, defScope sR_is_complete, [], []⟩
def dR_finish : He.DefD := ⟨("Registry", some "finish"), "finish", "Registry.finish", defArgs sR_finish, defBody sR_finish, defScope sR_finish, [], []⟩
def dR_forget_early : He.DefD := ⟨("Registry", some "forget_early"), "forget_early", "Registry.forget_early", defArgs sR_forget_early, defBody sR_forget_early, defScope sR_forget_early, [], []⟩
def fn : List He.DefD := [d_is_name, d_is_integer, d_want_names, d_are_modules, d__law_pot, d__law_draw, d__law_choice, d__law_word, d__law_words, d__law_reach, d__law_world, d__law_answer, d__law_finished, d__law_asked, d__law_taken, d__law_groups_right, d__law_stands, d__law_needed, d__law_ended, d_law, dN_init, dN_clone, dN_pairs, dN_record, dN_targets, dN_paths_from, dN_depends, dN_closure, dR_init, dR_want_module, dR_want_state, dR_state_of, dR_in_state, dR_needs, dR_early, dR_want_request, dR_request, dR_is_early, dR_answer, dR_access, dR_export, dR_exports, dR_is_complete, dR_finish, dR_forget_early]
def fa : List He.Fa := [.glo "is_name", .glo "is_integer", .glo "want_names", .glo "are_modules", .glo "_law_pot", .glo "_law_draw", .glo "_law_choice", .glo "_law_word", .glo "_law_words", .glo "_law_reach", .glo "_law_world", .glo "_law_answer", .glo "_law_finished", .glo "_law_asked", .glo "_law_taken", .glo "_law_groups_right", .glo "_law_stands", .glo "_law_needed", .glo "_law_ended", .glo "law", .glo "Needs", .cls "Needs", .mkr "Needs", .noat "Needs" "own_targets", .meth "Needs" "clone", .meth "Needs" "pairs", .meth "Needs" "record", .meth "Needs" "targets", .meth "Needs" "paths_from", .meth "Needs" "depends", .meth "Needs" "closure", .glo "Registry", .cls "Registry", .mkr "Registry", .noat "Registry" "own_states", .noat "Registry" "own_exports", .noat "Registry" "own_needs", .noat "Registry" "own_recorded", .noat "Registry" "own_early", .noat "Registry" "own_held", .noat "Registry" "own_chains", .meth "Registry" "want_module", .meth "Registry" "want_state", .meth "Registry" "state_of", .meth "Registry" "in_state", .meth "Registry" "needs", .meth "Registry" "early", .meth "Registry" "want_request", .meth "Registry" "request", .meth "Registry" "is_early", .meth "Registry" "answer", .meth "Registry" "access", .meth "Registry" "export", .meth "Registry" "exports", .meth "Registry" "is_complete", .meth "Registry" "finish", .meth "Registry" "forget_early", .str "NEW" "new", .str "RUNNING" "running", .str "DONE" "done", .str "READY" "ready", .str "FAILED" "failed", .str "EARLY" "early", .str "WAIT" "wait", .str "LETTERS" "abcdefghijklmnopqrstuvwxyz", .int "MOST_LETTERS" 8, .int "MOST_MODULES" 40, .free "isinstance", .free "len", .free "all", .free "sorted", .free "set", .free "str", .free "int", .free "bool", .free "list", .free "tuple", .free "dict", .free "abs", .free "max", .free "min", .free "divmod", .free "range", .free "repr"]
def ngl : List Str := ["is_name", "is_integer", "want_names", "are_modules", "_law_pot", "_law_draw", "_law_choice", "_law_word", "_law_words", "_law_reach", "_law_world", "_law_answer", "_law_finished", "_law_asked", "_law_taken", "_law_groups_right", "_law_stands", "_law_needed", "_law_ended", "law"]
def nme : List (Str × Str) := [("Needs", "__init__"), ("Needs", "clone"), ("Needs", "pairs"), ("Needs", "record"), ("Needs", "targets"), ("Needs", "paths_from"), ("Needs", "depends"), ("Needs", "closure"), ("Registry", "__init__"), ("Registry", "want_module"), ("Registry", "want_state"), ("Registry", "state_of"), ("Registry", "in_state"), ("Registry", "needs"), ("Registry", "early"), ("Registry", "want_request"), ("Registry", "request"), ("Registry", "is_early"), ("Registry", "answer"), ("Registry", "access"), ("Registry", "export"), ("Registry", "exports"), ("Registry", "is_complete"), ("Registry", "finish"), ("Registry", "forget_early")]
/-! ### the static method and the class constant, apart -/
/-- the record of Registry.is_state, its def -/
def smP (K : PySem.W.Frag) : Addr := He.ma K (He.ga K "Registry") "is_state"
def smF (K : PySem.W.Frag) : Addr := match PySem.W.recIn K (smP K) "staticmethod" with
  | some (.ref g :: _) => g
  | _ => 0
def smW (K : PySem.W.Frag) : He.FnW := match K.lookup (smF K) with
  | some ⟨_, _, .func z, _⟩ => some (z.name, z.qualname, z.params, z.body, z.scope, z.globals, z.closure, z.builtins)
  | _ => none
def smV : He.FnW := some ("is_state", "Registry.is_state", defArgs sR_is_state, .stmts (defBody sR_is_state), defScope sR_is_state, mainGlobals, [], builtinsNs)
def smB (K : PySem.W.Frag) : Bool := PySem.W.keepIn K (.ref (smF K)) && (match K.lookup (smF K) with
  | some ⟨_, _, .func z, _⟩ => PySem.W.codeIn K z.code "Registry.is_state" && (He.dflB K z.defaults [] && He.kwdB K z.kwdefaults [])
  | _ => false)
def stNames : List V := [.str "new", .str "running", .str "done", .str "ready", .str "failed"]
/-- the address of the tuple Registry.STATES -/
def stA (K : PySem.W.Frag) : Addr := match PySem.W.findCls K (.ref (He.ga K "Registry")) (.type "type") "STATES" with
  | some (.val (.ref a)) => a
  | _ => 0
def stB (K : PySem.W.Frag) : Bool := (match PySem.W.findCls K (.ref (He.ga K "Registry")) (.type "type") "STATES" with
  | some (.val (.ref a)) => (match K.lookup a with
    | some ⟨.type c, _, .seq its _, _⟩ => decide (c = "tuple") && (decide (its.size ≤ sizeLine) && He.relAll stNames its.toList)
    | _ => false)
  | _ => false)
def clB (K : PySem.W.Frag) : Bool := PySem.W.readsIn K (He.ga K "Registry") (.type "type") && He.eqO (PySem.W.specialIn K (.ref (He.ga K "Registry")) "__getattribute__") (some (some (.builtin "type.__getattribute__")))
def siB (K : PySem.W.Frag) : Bool := PySem.W.isClsIn K (He.ga K "Registry") && (He.eqO (PySem.W.findIn K (.ref (He.ga K "Registry")) "is_state") (some (some (.ref (smP K)))) && (decide (PySem.W.typeIn K (.ref (smP K)) = some (.type "staticmethod")) &&
  (He.eqO (PySem.W.specialIn K (.ref (smP K)) "__get__") (some (some (.builtin "staticmethod.__get__"))) && (decide (PySem.W.takesIn K (.ref (smP K)) = some false) &&
  (match PySem.W.recIn K (smP K) "staticmethod" with
    | some (.ref _ :: _) => true
    | _ => false)))))
abbrev Al : Type := (He.AlD × He.FnW) × Bool
def obsM (K : PySem.W.Frag) : Al := ((He.obsD fa fn K, smW K), smB K && (stB K && (clB K && siB K)))
def valM : Al := ((He.valD fn, smV), true)
def Says (K : PySem.W.Frag) : Prop := obsM K = valM
/-! the part of the heap that is looked at: the globals, the statics, the two classes with their dicts, the defs and their codes -/
def codeA (g : Addr → Option Obj) (f : Addr) : List Addr := match g f with
  | some ⟨_, _, .func z, _⟩ => He.refV z.code
  | _ => []
def nsA (g : Addr → Option Obj) (c : Addr) : List Addr := match g c with
  | some ⟨_, _, .cls z, _⟩ => [z.ns]
  | _ => []
def fstA (g : Addr → Option Obj) (c : Addr) : List Addr := match g c with
  | some ⟨_, _, .fields vs, _⟩ => vs.toList.flatMap He.refV
  | _ => []
def asM2 (g : Addr → Option Obj) (l : List Addr) (fs : List Addr) : List Addr := l ++ (fs ++ fs.flatMap (codeA g))
def asM1 (g : Addr → Option Obj) (l : List Addr) (K : PySem.W.Frag) : List Addr :=
  asM2 g l (ngl.map (He.ga K) ++ (nme.map (fun q => He.ma K (He.ga K q.1) q.2) ++ (He.ma K (He.ga K "Registry") "STATES" :: He.ma K (He.ga K "Registry") "is_state" :: fstA g (He.ma K (He.ga K "Registry") "is_state"))))
def asM0 (g : Addr → Option Obj) (cs : List Addr) : List Addr := asM1 g (mainGlobals :: cStatics :: (cs ++ cs.flatMap (nsA g))) (He.frG g (mainGlobals :: (cs ++ cs.flatMap (nsA g))))
def asM (g : Addr → Option Obj) : List Addr := asM0 g [He.ga (He.frG g [mainGlobals]) "Needs", He.ga (He.frG g [mainGlobals]) "Registry"]
def obsMG (g : Addr → Option Obj) : Al := obsM (He.frG g (asM g))
def hk : PySem.W.Hook where
  α := Al
  obs := fun s => obsMG s.heap.get?
  val := fun _ => valM
  says := fun _ h => ∃ K : PySem.W.Frag, K.In h ∧ Says K
  of := fun _ _ z => ⟨_, He.frG_in, z⟩
  keeps := fun _ _ _ ⟨K, k1, k2⟩ k => ⟨K, PySem.W.Frag.In.keeps k1 k, k2⟩
abbrev Rw : PySem.W.OpenRow := PySem.W.OpenLaw.row PySem.Challenge.rw_cycleready_k42_whole_readiness
def ob (s : PySem.W.SharedT) : Al := obsMG (HandSHeadRun.getT s)
theorem ob_eq (s : PySem.W.SharedT) : ob s = hk.obs s.abs := by
  have z : HandSHeadRun.getT s = s.abs.heap.get? := funext (HandSHeadRun.getT_eq s)
  show obsMG (HandSHeadRun.getT s) = obsMG s.abs.heap.get?
  rw [z]
def ns1 : List PySem.Str := ["LoaderError", "InvalidName", "InvalidModules", "InvalidNumber", "UnknownModule", "NoNeed", "WrongState", "MustWait", "StillNeeded", "_wall", "is_name", "is_integer", "want_names", "are_modules", "_law_pot", "_law_draw", "_law_choice", "_law_word", "_law_words", "_law_reach", "_law_world"]
def ns2 : List PySem.Str := ["_law_answer", "_law_finished", "_law_asked", "_law_taken", "_law_groups_right", "_law_stands", "_law_needed", "_law_ended", "Needs", "Registry", "NEW", "RUNNING", "DONE", "READY", "FAILED", "EARLY", "WAIT", "LETTERS", "MOST_LETTERS", "MOST_MODULES"]
abbrev loose : List PySem.Str := ns1 ++ ns2
abbrev qv : Program := PySem.W.view Rw.prog [46]
theorem run (w : World) : HandSHeadRun.RunEq Rw qv hk ob 20000 loose w := by
  intro os
  kernel_rfl
end Cy
end

section
set_option maxHeartbeats 0
namespace Cy
open PySem PySem.Spec PyProof.Rows L2
/-- what the walk asks of the text as the top has left it -/
structure Tx (K : PySem.W.Frag) (mg : Str → Option Value) : Prop where
  g_is_name : mg "is_name" = some (.ref (He.ga K "is_name"))
  g_is_integer : mg "is_integer" = some (.ref (He.ga K "is_integer"))
  g_want_names : mg "want_names" = some (.ref (He.ga K "want_names"))
  g_are_modules : mg "are_modules" = some (.ref (He.ga K "are_modules"))
  g__law_pot : mg "_law_pot" = some (.ref (He.ga K "_law_pot"))
  g__law_draw : mg "_law_draw" = some (.ref (He.ga K "_law_draw"))
  g__law_choice : mg "_law_choice" = some (.ref (He.ga K "_law_choice"))
  g__law_word : mg "_law_word" = some (.ref (He.ga K "_law_word"))
  g__law_words : mg "_law_words" = some (.ref (He.ga K "_law_words"))
  g__law_reach : mg "_law_reach" = some (.ref (He.ga K "_law_reach"))
  g__law_world : mg "_law_world" = some (.ref (He.ga K "_law_world"))
  g__law_answer : mg "_law_answer" = some (.ref (He.ga K "_law_answer"))
  g__law_finished : mg "_law_finished" = some (.ref (He.ga K "_law_finished"))
  g__law_asked : mg "_law_asked" = some (.ref (He.ga K "_law_asked"))
  g__law_taken : mg "_law_taken" = some (.ref (He.ga K "_law_taken"))
  g__law_groups_right : mg "_law_groups_right" = some (.ref (He.ga K "_law_groups_right"))
  g__law_stands : mg "_law_stands" = some (.ref (He.ga K "_law_stands"))
  g__law_needed : mg "_law_needed" = some (.ref (He.ga K "_law_needed"))
  g__law_ended : mg "_law_ended" = some (.ref (He.ga K "_law_ended"))
  g_law : mg "law" = some (.ref (He.ga K "law"))
  g_Needs : mg "Needs" = some (.ref (He.ga K "Needs"))
  clN : Cls K (He.ga K "Needs")
  mkN : Mk K (He.ga K "Needs") (He.ma K (He.ga K "Needs") "__init__")
  nN_own_targets : NoAttr K (He.ga K "Needs") "own_targets"
  mN_clone : Meth K (He.ga K "Needs") "clone" (He.ma K (He.ga K "Needs") "clone")
  mN_pairs : Meth K (He.ga K "Needs") "pairs" (He.ma K (He.ga K "Needs") "pairs")
  mN_record : Meth K (He.ga K "Needs") "record" (He.ma K (He.ga K "Needs") "record")
  mN_targets : Meth K (He.ga K "Needs") "targets" (He.ma K (He.ga K "Needs") "targets")
  mN_paths_from : Meth K (He.ga K "Needs") "paths_from" (He.ma K (He.ga K "Needs") "paths_from")
  mN_depends : Meth K (He.ga K "Needs") "depends" (He.ma K (He.ga K "Needs") "depends")
  mN_closure : Meth K (He.ga K "Needs") "closure" (He.ma K (He.ga K "Needs") "closure")
  g_Registry : mg "Registry" = some (.ref (He.ga K "Registry"))
  clR : Cls K (He.ga K "Registry")
  mkR : Mk K (He.ga K "Registry") (He.ma K (He.ga K "Registry") "__init__")
  nR_own_states : NoAttr K (He.ga K "Registry") "own_states"
  nR_own_exports : NoAttr K (He.ga K "Registry") "own_exports"
  nR_own_needs : NoAttr K (He.ga K "Registry") "own_needs"
  nR_own_recorded : NoAttr K (He.ga K "Registry") "own_recorded"
  nR_own_early : NoAttr K (He.ga K "Registry") "own_early"
  nR_own_held : NoAttr K (He.ga K "Registry") "own_held"
  nR_own_chains : NoAttr K (He.ga K "Registry") "own_chains"
  mR_want_module : Meth K (He.ga K "Registry") "want_module" (He.ma K (He.ga K "Registry") "want_module")
  mR_want_state : Meth K (He.ga K "Registry") "want_state" (He.ma K (He.ga K "Registry") "want_state")
  mR_state_of : Meth K (He.ga K "Registry") "state_of" (He.ma K (He.ga K "Registry") "state_of")
  mR_in_state : Meth K (He.ga K "Registry") "in_state" (He.ma K (He.ga K "Registry") "in_state")
  mR_needs : Meth K (He.ga K "Registry") "needs" (He.ma K (He.ga K "Registry") "needs")
  mR_early : Meth K (He.ga K "Registry") "early" (He.ma K (He.ga K "Registry") "early")
  mR_want_request : Meth K (He.ga K "Registry") "want_request" (He.ma K (He.ga K "Registry") "want_request")
  mR_request : Meth K (He.ga K "Registry") "request" (He.ma K (He.ga K "Registry") "request")
  mR_is_early : Meth K (He.ga K "Registry") "is_early" (He.ma K (He.ga K "Registry") "is_early")
  mR_answer : Meth K (He.ga K "Registry") "answer" (He.ma K (He.ga K "Registry") "answer")
  mR_access : Meth K (He.ga K "Registry") "access" (He.ma K (He.ga K "Registry") "access")
  mR_export : Meth K (He.ga K "Registry") "export" (He.ma K (He.ga K "Registry") "export")
  mR_exports : Meth K (He.ga K "Registry") "exports" (He.ma K (He.ga K "Registry") "exports")
  mR_is_complete : Meth K (He.ga K "Registry") "is_complete" (He.ma K (He.ga K "Registry") "is_complete")
  mR_finish : Meth K (He.ga K "Registry") "finish" (He.ma K (He.ga K "Registry") "finish")
  mR_forget_early : Meth K (He.ga K "Registry") "forget_early" (He.ma K (He.ga K "Registry") "forget_early")
  c_NEW : ∃ t, mg "NEW" = some (.str "new" t)
  c_RUNNING : ∃ t, mg "RUNNING" = some (.str "running" t)
  c_DONE : ∃ t, mg "DONE" = some (.str "done" t)
  c_READY : ∃ t, mg "READY" = some (.str "ready" t)
  c_FAILED : ∃ t, mg "FAILED" = some (.str "failed" t)
  c_EARLY : ∃ t, mg "EARLY" = some (.str "early" t)
  c_WAIT : ∃ t, mg "WAIT" = some (.str "wait" t)
  c_LETTERS : ∃ t, mg "LETTERS" = some (.str "abcdefghijklmnopqrstuvwxyz" t)
  c_MOST_LETTERS : ∃ t, mg "MOST_LETTERS" = some (.int 8 t)
  c_MOST_MODULES : ∃ t, mg "MOST_MODULES" = some (.int 40 t)
  b_isinstance : mg "isinstance" = none
  b_len : mg "len" = none
  b_all : mg "all" = none
  b_sorted : mg "sorted" = none
  b_set : mg "set" = none
  b_str : mg "str" = none
  b_int : mg "int" = none
  b_bool : mg "bool" = none
  b_list : mg "list" = none
  b_tuple : mg "tuple" = none
  b_dict : mg "dict" = none
  b_abs : mg "abs" = none
  b_max : mg "max" = none
  b_min : mg "min" = none
  b_divmod : mg "divmod" = none
  b_range : mg "range" = none
  b_repr : mg "repr" = none
  f_is_name : ∃ z, FunD K "is_name" "is_name" (defArgs s_is_name) (defBody s_is_name) (defScope s_is_name) [] [] (He.ga K "is_name") z
  f_is_integer : ∃ z, FunD K "is_integer" "is_integer" (defArgs s_is_integer) (defBody s_is_integer) (defScope s_is_integer) [] [] (He.ga K "is_integer") z
  f_want_names : ∃ z, FunD K "want_names" "want_names" (defArgs s_want_names) (defBody s_want_names) (defScope s_want_names) [] [] (He.ga K "want_names") z
  f_are_modules : ∃ z, FunD K "are_modules" "are_modules" (defArgs s_are_modules) (defBody s_are_modules) (defScope s_are_modules) [] [] (He.ga K "are_modules") z
  f__law_pot : ∃ z, FunD K "_law_pot" "_law_pot" (defArgs s__law_pot) (defBody s__law_pot) (defScope s__law_pot) [] [] (He.ga K "_law_pot") z
  f__law_draw : ∃ z, FunD K "_law_draw" "_law_draw" (defArgs s__law_draw) (defBody s__law_draw) (defScope s__law_draw) [] [] (He.ga K "_law_draw") z
  f__law_choice : ∃ z, FunD K "_law_choice" "_law_choice" (defArgs s__law_choice) (defBody s__law_choice) (defScope s__law_choice) [] [] (He.ga K "_law_choice") z
  f__law_word : ∃ z, FunD K "_law_word" "_law_word" (defArgs s__law_word) (defBody s__law_word) (defScope s__law_word) [] [] (He.ga K "_law_word") z
  f__law_words : ∃ z, FunD K "_law_words" "_law_words" (defArgs s__law_words) (defBody s__law_words) (defScope s__law_words) [] [] (He.ga K "_law_words") z
  f__law_reach : ∃ z, FunD K "_law_reach" "_law_reach" (defArgs s__law_reach) (defBody s__law_reach) (defScope s__law_reach) [] [] (He.ga K "_law_reach") z
  f__law_world : ∃ z, FunD K "_law_world" "_law_world" (defArgs s__law_world) (defBody s__law_world) (defScope s__law_world) [] [] (He.ga K "_law_world") z
  f__law_answer : ∃ z, FunD K "_law_answer" "_law_answer" (defArgs s__law_answer) (defBody s__law_answer) (defScope s__law_answer) [] [] (He.ga K "_law_answer") z
  f__law_finished : ∃ z, FunD K "_law_finished" "_law_finished" (defArgs s__law_finished) (defBody s__law_finished) (defScope s__law_finished) [] [] (He.ga K "_law_finished") z
  f__law_asked : ∃ z, FunD K "_law_asked" "_law_asked" (defArgs s__law_asked) (defBody s__law_asked) (defScope s__law_asked) [] [] (He.ga K "_law_asked") z
  f__law_taken : ∃ z, FunD K "_law_taken" "_law_taken" (defArgs s__law_taken) (defBody s__law_taken) (defScope s__law_taken) [] [] (He.ga K "_law_taken") z
  f__law_groups_right : ∃ z, FunD K "_law_groups_right" "_law_groups_right" (defArgs s__law_groups_right) (defBody s__law_groups_right) (defScope s__law_groups_right) [] [] (He.ga K "_law_groups_right") z
  f__law_stands : ∃ z, FunD K "_law_stands" "_law_stands" (defArgs s__law_stands) (defBody s__law_stands) (defScope s__law_stands) [] [] (He.ga K "_law_stands") z
  f__law_needed : ∃ z, FunD K "_law_needed" "_law_needed" (defArgs s__law_needed) (defBody s__law_needed) (defScope s__law_needed) [] [] (He.ga K "_law_needed") z
  f__law_ended : ∃ z, FunD K "_law_ended" "_law_ended" (defArgs s__law_ended) (defBody s__law_ended) (defScope s__law_ended) [] [] (He.ga K "_law_ended") z
  f_law : ∃ z, FunD K "law" "law" (defArgs s_law) (defBody s_law) (defScope s_law) [] [] (He.ga K "law") z
  fN_init : ∃ z, FunD K "__init__" "Needs.__init__" (defArgs sN_init) (defBody sN_init) (defScope sN_init) [] [] (He.ma K (He.ga K "Needs") "__init__") z
  fN_clone : ∃ z, FunD K "clone" "Needs.clone" (defArgs sN_clone) (defBody sN_clone) (defScope sN_clone) [] [] (He.ma K (He.ga K "Needs") "clone") z
  fN_pairs : ∃ z, FunD K "pairs" "Needs.pairs" (defArgs sN_pairs) (defBody sN_pairs) (defScope sN_pairs) [] [] (He.ma K (He.ga K "Needs") "pairs") z
  fN_record : ∃ z, FunD K "record" "Needs.record" (defArgs sN_record) (defBody sN_record) (defScope sN_record) [] [] (He.ma K (He.ga K "Needs") "record") z
  fN_targets : ∃ z, FunD K "targets" "Needs.targets" (defArgs sN_targets) (defBody sN_targets) (defScope sN_targets) [] [] (He.ma K (He.ga K "Needs") "targets") z
  fN_paths_from : ∃ z, FunD K "paths_from" "Needs.paths_from" (defArgs sN_paths_from) (defBody sN_paths_from) (defScope sN_paths_from) [] [] (He.ma K (He.ga K "Needs") "paths_from") z
  fN_depends : ∃ z, FunD K "depends" "Needs.depends" (defArgs sN_depends) (defBody sN_depends) (defScope sN_depends) [] [] (He.ma K (He.ga K "Needs") "depends") z
  fN_closure : ∃ z, FunD K "closure" "Needs.closure" (defArgs sN_closure) (defBody sN_closure) (defScope sN_closure) [] [] (He.ma K (He.ga K "Needs") "closure") z
  fR_init : ∃ z, FunD K "__init__" "Registry.__init__" (defArgs sR_init) (defBody sR_init) (defScope sR_init) [] [] (He.ma K (He.ga K "Registry") "__init__") z
  fR_want_module : ∃ z, FunD K "want_module" "Registry.want_module" (defArgs sR_want_module) (defBody sR_want_module) (defScope sR_want_module) [] [] (He.ma K (He.ga K "Registry") "want_module") z
  fR_want_state : ∃ z, FunD K "want_state" "Registry.want_state" (defArgs sR_want_state) (defBody sR_want_state) (defScope sR_want_state) [] [] (He.ma K (He.ga K "Registry") "want_state") z
  fR_state_of : ∃ z, FunD K "state_of" "Registry.state_of" (defArgs sR_state_of) (defBody sR_state_of) (defScope sR_state_of) [] [] (He.ma K (He.ga K "Registry") "state_of") z
  fR_in_state : ∃ z, FunD K "in_state" "Registry.in_state" (defArgs sR_in_state) (defBody sR_in_state) (defScope sR_in_state) [] [] (He.ma K (He.ga K "Registry") "in_state") z
  fR_needs : ∃ z, FunD K "needs" "Registry.needs" (defArgs sR_needs) (defBody sR_needs) (defScope sR_needs) [] [] (He.ma K (He.ga K "Registry") "needs") z
  fR_early : ∃ z, FunD K "early" "Registry.early" (defArgs sR_early) (defBody sR_early) (defScope sR_early) [] [] (He.ma K (He.ga K "Registry") "early") z
  fR_want_request : ∃ z, FunD K "want_request" "Registry.want_request" (defArgs sR_want_request) (defBody sR_want_request) (defScope sR_want_request) [] [] (He.ma K (He.ga K "Registry") "want_request") z
  fR_request : ∃ z, FunD K "request" "Registry.request" (defArgs sR_request) (defBody sR_request) (defScope sR_request) [] [] (He.ma K (He.ga K "Registry") "request") z
  fR_is_early : ∃ z, FunD K "is_early" "Registry.is_early" (defArgs sR_is_early) (defBody sR_is_early) (defScope sR_is_early) [] [] (He.ma K (He.ga K "Registry") "is_early") z
  fR_answer : ∃ z, FunD K "answer" "Registry.answer" (defArgs sR_answer) (defBody sR_answer) (defScope sR_answer) [] [] (He.ma K (He.ga K "Registry") "answer") z
  fR_access : ∃ z, FunD K "access" "Registry.access" (defArgs sR_access) (defBody sR_access) (defScope sR_access) [] [] (He.ma K (He.ga K "Registry") "access") z
  fR_export : ∃ z, FunD K "export" "Registry.export" (defArgs sR_export) (defBody sR_export) (defScope sR_export) [] [] (He.ma K (He.ga K "Registry") "export") z
  fR_exports : ∃ z, FunD K "exports" "Registry.exports" (defArgs sR_exports) (defBody sR_exports) (defScope sR_exports) [] [] (He.ma K (He.ga K "Registry") "exports") z
  fR_is_complete : ∃ z, FunD K "is_complete" "Registry.is_complete" (defArgs sR_is_complete) (defBody sR_is_complete) (defScope sR_is_complete) [] [] (He.ma K (He.ga K "Registry") "is_complete") z
  fR_finish : ∃ z, FunD K "finish" "Registry.finish" (defArgs sR_finish) (defBody sR_finish) (defScope sR_finish) [] [] (He.ma K (He.ga K "Registry") "finish") z
  fR_forget_early : ∃ z, FunD K "forget_early" "Registry.forget_early" (defArgs sR_forget_early) (defBody sR_forget_early) (defScope sR_forget_early) [] [] (He.ma K (He.ga K "Registry") "forget_early") z
  fR_is_state : ∃ z, FunD K "is_state" "Registry.is_state" (defArgs sR_is_state) (defBody sR_is_state) (defScope sR_is_state) [] [] (smF K) z
  states : ∀ H : Hp, SqT K H (stA K) stNames
  stVal : ClX.CVal K (He.ga K "Registry") (.type "type") "STATES" (.ref (stA K)) (.ref (stA K))
  clsRd : ClX.CRead K (He.ga K "Registry") (.type "type")
  smIc : PySem.W.isClsIn K (He.ga K "Registry") = true
  smAt : PySem.W.findIn K (.ref (He.ga K "Registry")) "is_state" = some (some (.ref (smP K)))
  smTy : PySem.W.typeIn K (.ref (smP K)) = some (.type "staticmethod")
  smGet : PySem.W.specialIn K (.ref (smP K)) "__get__" = some (some (.builtin "staticmethod.__get__"))
  smTk : PySem.W.takesIn K (.ref (smP K)) = some false
  smRc : ∃ l, PySem.W.recIn K (smP K) "staticmethod" = some (.ref (smF K) :: l)
theorem sm_fun {K : PySem.W.Frag} (e : smW K = smV) (b : smB K = true) : ∃ z, FunD K "is_state" "Registry.is_state" (defArgs sR_is_state) (defBody sR_is_state) (defScope sR_is_state) [] [] (smF K) z := by
  unfold smB at b
  obtain ⟨kp, b⟩ := He.ba b
  unfold smW smV at e
  generalize smF K = a at *
  cases lk : K.lookup a with
  | none => rw [lk] at b; cases b
  | some o =>
    obtain ⟨c, d, dt, sl⟩ := o
    rw [lk] at b e
    cases dt with
    | func z =>
      obtain ⟨z1, z2, z3, z4, z5, z6, z7, z8, z9, z10, z11, z12, z13, z14, z15⟩ := z
      simp only [Option.some.injEq, Prod.mk.injEq] at e
      obtain ⟨rfl, rfl, rfl, rfl, rfl, rfl, rfl, rfl⟩ := e
      obtain ⟨b1, b⟩ := He.ba b
      obtain ⟨b2, b3⟩ := He.ba b
      exact ⟨_, ⟨c, d, z8, z9, z10, z11, z12, z13, z14, sl, rfl, lk, b1, He.dflB_ok b2, He.kwdB_ok b3⟩, kp⟩
    | _ => cases b
theorem st_ok {K : PySem.W.Frag} (b : stB K = true) : (∀ H : Hp, SqT K H (stA K) stNames) ∧ PySem.W.findCls K (.ref (He.ga K "Registry")) (.type "type") "STATES" = some (.val (.ref (stA K))) := by
  unfold stB at b
  unfold stA
  generalize PySem.W.findCls K (.ref (He.ga K "Registry")) (.type "type") "STATES" = q at *
  cases q with
  | none => cases b
  | some q =>
    cases q with
    | val u =>
      cases u with
      | ref a =>
        refine ⟨fun H => ?_, rfl⟩
        show SqT K H a stNames
        simp only at b
        cases lk : K.lookup a with
        | none => rw [lk] at b; cases b
        | some o =>
          obtain ⟨c, d, dt, sl⟩ := o
          rw [lk] at b
          cases c with
          | type c =>
            cases dt with
            | seq its n =>
              obtain ⟨b1, b⟩ := He.ba b
              obtain ⟨b2, b3⟩ := He.ba b
              exact .inr ⟨_, its, n, lk, congrArg Value.type (of_decide_eq_true b1), rfl, of_decide_eq_true b2, He.relAll_ok b3⟩
            | _ => cases b
          | _ => cases dt <;> cases b
      | _ => cases b
    | _ => cases b
theorem sm_rc {K : PySem.W.Frag} (b : (match PySem.W.recIn K (smP K) "staticmethod" with | some (.ref _ :: _) => true | _ => false) = true) : ∃ l, PySem.W.recIn K (smP K) "staticmethod" = some (.ref (smF K) :: l) := by
  unfold smF
  cases q : PySem.W.recIn K (smP K) "staticmethod" with
  | none => rw [q] at b; cases b
  | some l =>
    cases l with
    | nil => rw [q] at b; cases b
    | cons v l =>
      cases v with
      | ref g => exact ⟨l, rfl⟩
      | _ => rw [q] at b; cases b
theorem tx_of {K : PySem.W.Frag} {mg : Str → Option Value} {h : Heap} (X : K.In h) (G : h.Ns mainGlobals mg) (c : Says K) : Tx K mg := by
  have c1 : He.SaysD fa fn K := congrArg (fun z : Al => z.1.1) c
  have c2 : smW K = smV := congrArg (fun z : Al => z.1.2) c
  have c3 : (smB K && (stB K && (clB K && siB K))) = true := congrArg (fun z : Al => z.2) c
  obtain ⟨k1, c3⟩ := He.ba c3
  obtain ⟨k2, c3⟩ := He.ba c3
  obtain ⟨k3, k4⟩ := He.ba c3
  obtain ⟨r1, r2⟩ := He.ba k3
  obtain ⟨i1, k4⟩ := He.ba k4
  obtain ⟨i2, k4⟩ := He.ba k4
  obtain ⟨i3, k4⟩ := He.ba k4
  obtain ⟨i4, k4⟩ := He.ba k4
  obtain ⟨i5, i6⟩ := He.ba k4
  have st := st_ok k2
  exact {
    g_is_name := He.glo_ok X G (c1.fact 0 (f := .glo "is_name") rfl)
    g_is_integer := He.glo_ok X G (c1.fact 1 (f := .glo "is_integer") rfl)
    g_want_names := He.glo_ok X G (c1.fact 2 (f := .glo "want_names") rfl)
    g_are_modules := He.glo_ok X G (c1.fact 3 (f := .glo "are_modules") rfl)
    g__law_pot := He.glo_ok X G (c1.fact 4 (f := .glo "_law_pot") rfl)
    g__law_draw := He.glo_ok X G (c1.fact 5 (f := .glo "_law_draw") rfl)
    g__law_choice := He.glo_ok X G (c1.fact 6 (f := .glo "_law_choice") rfl)
    g__law_word := He.glo_ok X G (c1.fact 7 (f := .glo "_law_word") rfl)
    g__law_words := He.glo_ok X G (c1.fact 8 (f := .glo "_law_words") rfl)
    g__law_reach := He.glo_ok X G (c1.fact 9 (f := .glo "_law_reach") rfl)
    g__law_world := He.glo_ok X G (c1.fact 10 (f := .glo "_law_world") rfl)
    g__law_answer := He.glo_ok X G (c1.fact 11 (f := .glo "_law_answer") rfl)
    g__law_finished := He.glo_ok X G (c1.fact 12 (f := .glo "_law_finished") rfl)
    g__law_asked := He.glo_ok X G (c1.fact 13 (f := .glo "_law_asked") rfl)
    g__law_taken := He.glo_ok X G (c1.fact 14 (f := .glo "_law_taken") rfl)
    g__law_groups_right := He.glo_ok X G (c1.fact 15 (f := .glo "_law_groups_right") rfl)
    g__law_stands := He.glo_ok X G (c1.fact 16 (f := .glo "_law_stands") rfl)
    g__law_needed := He.glo_ok X G (c1.fact 17 (f := .glo "_law_needed") rfl)
    g__law_ended := He.glo_ok X G (c1.fact 18 (f := .glo "_law_ended") rfl)
    g_law := He.glo_ok X G (c1.fact 19 (f := .glo "law") rfl)
    g_Needs := He.glo_ok X G (c1.fact 20 (f := .glo "Needs") rfl)
    clN := He.cls_ok (c1.fact 21 (f := .cls "Needs") rfl)
    mkN := He.mkr_ok (c1.fact 22 (f := .mkr "Needs") rfl)
    nN_own_targets := He.noat_ok (c1.fact 23 (f := .noat "Needs" "own_targets") rfl)
    mN_clone := He.meth_ok (c1.fact 24 (f := .meth "Needs" "clone") rfl)
    mN_pairs := He.meth_ok (c1.fact 25 (f := .meth "Needs" "pairs") rfl)
    mN_record := He.meth_ok (c1.fact 26 (f := .meth "Needs" "record") rfl)
    mN_targets := He.meth_ok (c1.fact 27 (f := .meth "Needs" "targets") rfl)
    mN_paths_from := He.meth_ok (c1.fact 28 (f := .meth "Needs" "paths_from") rfl)
    mN_depends := He.meth_ok (c1.fact 29 (f := .meth "Needs" "depends") rfl)
    mN_closure := He.meth_ok (c1.fact 30 (f := .meth "Needs" "closure") rfl)
    g_Registry := He.glo_ok X G (c1.fact 31 (f := .glo "Registry") rfl)
    clR := He.cls_ok (c1.fact 32 (f := .cls "Registry") rfl)
    mkR := He.mkr_ok (c1.fact 33 (f := .mkr "Registry") rfl)
    nR_own_states := He.noat_ok (c1.fact 34 (f := .noat "Registry" "own_states") rfl)
    nR_own_exports := He.noat_ok (c1.fact 35 (f := .noat "Registry" "own_exports") rfl)
    nR_own_needs := He.noat_ok (c1.fact 36 (f := .noat "Registry" "own_needs") rfl)
    nR_own_recorded := He.noat_ok (c1.fact 37 (f := .noat "Registry" "own_recorded") rfl)
    nR_own_early := He.noat_ok (c1.fact 38 (f := .noat "Registry" "own_early") rfl)
    nR_own_held := He.noat_ok (c1.fact 39 (f := .noat "Registry" "own_held") rfl)
    nR_own_chains := He.noat_ok (c1.fact 40 (f := .noat "Registry" "own_chains") rfl)
    mR_want_module := He.meth_ok (c1.fact 41 (f := .meth "Registry" "want_module") rfl)
    mR_want_state := He.meth_ok (c1.fact 42 (f := .meth "Registry" "want_state") rfl)
    mR_state_of := He.meth_ok (c1.fact 43 (f := .meth "Registry" "state_of") rfl)
    mR_in_state := He.meth_ok (c1.fact 44 (f := .meth "Registry" "in_state") rfl)
    mR_needs := He.meth_ok (c1.fact 45 (f := .meth "Registry" "needs") rfl)
    mR_early := He.meth_ok (c1.fact 46 (f := .meth "Registry" "early") rfl)
    mR_want_request := He.meth_ok (c1.fact 47 (f := .meth "Registry" "want_request") rfl)
    mR_request := He.meth_ok (c1.fact 48 (f := .meth "Registry" "request") rfl)
    mR_is_early := He.meth_ok (c1.fact 49 (f := .meth "Registry" "is_early") rfl)
    mR_answer := He.meth_ok (c1.fact 50 (f := .meth "Registry" "answer") rfl)
    mR_access := He.meth_ok (c1.fact 51 (f := .meth "Registry" "access") rfl)
    mR_export := He.meth_ok (c1.fact 52 (f := .meth "Registry" "export") rfl)
    mR_exports := He.meth_ok (c1.fact 53 (f := .meth "Registry" "exports") rfl)
    mR_is_complete := He.meth_ok (c1.fact 54 (f := .meth "Registry" "is_complete") rfl)
    mR_finish := He.meth_ok (c1.fact 55 (f := .meth "Registry" "finish") rfl)
    mR_forget_early := He.meth_ok (c1.fact 56 (f := .meth "Registry" "forget_early") rfl)
    c_NEW := He.str_ok X G (c1.fact 57 (f := .str "NEW" "new") rfl)
    c_RUNNING := He.str_ok X G (c1.fact 58 (f := .str "RUNNING" "running") rfl)
    c_DONE := He.str_ok X G (c1.fact 59 (f := .str "DONE" "done") rfl)
    c_READY := He.str_ok X G (c1.fact 60 (f := .str "READY" "ready") rfl)
    c_FAILED := He.str_ok X G (c1.fact 61 (f := .str "FAILED" "failed") rfl)
    c_EARLY := He.str_ok X G (c1.fact 62 (f := .str "EARLY" "early") rfl)
    c_WAIT := He.str_ok X G (c1.fact 63 (f := .str "WAIT" "wait") rfl)
    c_LETTERS := He.str_ok X G (c1.fact 64 (f := .str "LETTERS" "abcdefghijklmnopqrstuvwxyz") rfl)
    c_MOST_LETTERS := He.int_ok X G (c1.fact 65 (f := .int "MOST_LETTERS" 8) rfl)
    c_MOST_MODULES := He.int_ok X G (c1.fact 66 (f := .int "MOST_MODULES" 40) rfl)
    b_isinstance := He.free_ok X G (c1.fact 67 (f := .free "isinstance") rfl)
    b_len := He.free_ok X G (c1.fact 68 (f := .free "len") rfl)
    b_all := He.free_ok X G (c1.fact 69 (f := .free "all") rfl)
    b_sorted := He.free_ok X G (c1.fact 70 (f := .free "sorted") rfl)
    b_set := He.free_ok X G (c1.fact 71 (f := .free "set") rfl)
    b_str := He.free_ok X G (c1.fact 72 (f := .free "str") rfl)
    b_int := He.free_ok X G (c1.fact 73 (f := .free "int") rfl)
    b_bool := He.free_ok X G (c1.fact 74 (f := .free "bool") rfl)
    b_list := He.free_ok X G (c1.fact 75 (f := .free "list") rfl)
    b_tuple := He.free_ok X G (c1.fact 76 (f := .free "tuple") rfl)
    b_dict := He.free_ok X G (c1.fact 77 (f := .free "dict") rfl)
    b_abs := He.free_ok X G (c1.fact 78 (f := .free "abs") rfl)
    b_max := He.free_ok X G (c1.fact 79 (f := .free "max") rfl)
    b_min := He.free_ok X G (c1.fact 80 (f := .free "min") rfl)
    b_divmod := He.free_ok X G (c1.fact 81 (f := .free "divmod") rfl)
    b_range := He.free_ok X G (c1.fact 82 (f := .free "range") rfl)
    b_repr := He.free_ok X G (c1.fact 83 (f := .free "repr") rfl)
    f_is_name := c1.def_ 0 (d := d_is_name) rfl
    f_is_integer := c1.def_ 1 (d := d_is_integer) rfl
    f_want_names := c1.def_ 2 (d := d_want_names) rfl
    f_are_modules := c1.def_ 3 (d := d_are_modules) rfl
    f__law_pot := c1.def_ 4 (d := d__law_pot) rfl
    f__law_draw := c1.def_ 5 (d := d__law_draw) rfl
    f__law_choice := c1.def_ 6 (d := d__law_choice) rfl
    f__law_word := c1.def_ 7 (d := d__law_word) rfl
    f__law_words := c1.def_ 8 (d := d__law_words) rfl
    f__law_reach := c1.def_ 9 (d := d__law_reach) rfl
    f__law_world := c1.def_ 10 (d := d__law_world) rfl
    f__law_answer := c1.def_ 11 (d := d__law_answer) rfl
    f__law_finished := c1.def_ 12 (d := d__law_finished) rfl
    f__law_asked := c1.def_ 13 (d := d__law_asked) rfl
    f__law_taken := c1.def_ 14 (d := d__law_taken) rfl
    f__law_groups_right := c1.def_ 15 (d := d__law_groups_right) rfl
    f__law_stands := c1.def_ 16 (d := d__law_stands) rfl
    f__law_needed := c1.def_ 17 (d := d__law_needed) rfl
    f__law_ended := c1.def_ 18 (d := d__law_ended) rfl
    f_law := c1.def_ 19 (d := d_law) rfl
    fN_init := c1.def_ 20 (d := dN_init) rfl
    fN_clone := c1.def_ 21 (d := dN_clone) rfl
    fN_pairs := c1.def_ 22 (d := dN_pairs) rfl
    fN_record := c1.def_ 23 (d := dN_record) rfl
    fN_targets := c1.def_ 24 (d := dN_targets) rfl
    fN_paths_from := c1.def_ 25 (d := dN_paths_from) rfl
    fN_depends := c1.def_ 26 (d := dN_depends) rfl
    fN_closure := c1.def_ 27 (d := dN_closure) rfl
    fR_init := c1.def_ 28 (d := dR_init) rfl
    fR_want_module := c1.def_ 29 (d := dR_want_module) rfl
    fR_want_state := c1.def_ 30 (d := dR_want_state) rfl
    fR_state_of := c1.def_ 31 (d := dR_state_of) rfl
    fR_in_state := c1.def_ 32 (d := dR_in_state) rfl
    fR_needs := c1.def_ 33 (d := dR_needs) rfl
    fR_early := c1.def_ 34 (d := dR_early) rfl
    fR_want_request := c1.def_ 35 (d := dR_want_request) rfl
    fR_request := c1.def_ 36 (d := dR_request) rfl
    fR_is_early := c1.def_ 37 (d := dR_is_early) rfl
    fR_answer := c1.def_ 38 (d := dR_answer) rfl
    fR_access := c1.def_ 39 (d := dR_access) rfl
    fR_export := c1.def_ 40 (d := dR_export) rfl
    fR_exports := c1.def_ 41 (d := dR_exports) rfl
    fR_is_complete := c1.def_ 42 (d := dR_is_complete) rfl
    fR_finish := c1.def_ 43 (d := dR_finish) rfl
    fR_forget_early := c1.def_ 44 (d := dR_forget_early) rfl
    fR_is_state := sm_fun c2 k1
    states := st.1
    stVal := ⟨st.2, rfl⟩
    clsRd := ⟨r1, He.eqO_ok r2⟩
    smIc := i1
    smAt := He.eqO_ok i2
    smTy := of_decide_eq_true i3
    smGet := He.eqO_ok i4
    smTk := of_decide_eq_true i5
    smRc := sm_rc i6 }
end Cy
end

section
set_option maxHeartbeats 4000000
/-! Rules of our own, first part: repr, guards, static methods, len(set(list)). -/
namespace Cy
open PySem PySem.Spec PyProof.Rows L2
section
variable {X : Cx}
/-! ### repr -/
theorem call_reprB : CallR X (.builtin "repr") (fun xs H Q => ∃ b, xs = [.bl b] ∧ Q (.str (if b then "True" else "False")) H) := by
  rintro pins s σ H xs us Q I r ⟨b, rfl, q⟩
  obtain ⟨u, rfl, ru⟩ := vals1 r
  obtain rfl : u = Value.bool b := ru
  exact PySem.P.repr_of_bool ⟨.str (if b then "True" else "False"), H, I.tok _, ⟨_, rfl⟩, q⟩
/-- repr of a list of texts: it hangs on the texts alone -/
def shownL (l : List Str) : Str := PyData.shown (.list (l.map PyData.str))
theorem dpAll_strs {K : PySem.W.Frag} {H : Hp} : ∀ l : List Str, DpAll K H (l.map V.str) (l.map PyData.str)
  | [] => .nil
  | _ :: l => .cons (.str _) (dpAll_strs l)
theorem showable_strs : ∀ l : List Str, PyData.showableAll (l.map PyData.str) = true
  | [] => by simp [PyData.showableAll]
  | x :: l => by simp [PyData.showableAll, PyData.showable, showable_strs l]
theorem nodict_strs : ∀ l : List Str, PyData.hasDictAll (l.map PyData.str) = false
  | [] => by simp [PyData.hasDictAll]
  | x :: l => by simp [PyData.hasDictAll, PyData.hasDict, nodict_strs l]
theorem depth_strs : ∀ l : List Str, PyData.depthAll (l.map PyData.str) = 0
  | [] => by simp [PyData.depthAll]
  | x :: l => by simp [PyData.depthAll, PyData.depth, depth_strs l]
theorem call_reprL (hg : X.A.guards = some []) (hu : X.A.units + 64 < cLine) : CallR X (.builtin "repr") (fun xs H Q => ∃ a l, xs = [.ref a] ∧ SqL X.K H a (l.map V.str) ∧ (shownL l).length ≤ sizeLine ∧ Q (.str (shownL l)) H) := by
  rintro pins s σ H xs us Q I r ⟨a, l, rfl, hs, hz, q⟩
  obtain ⟨u, rfl, ru⟩ := vals1 r
  obtain rfl : u = Value.ref a := ru
  obtain ⟨as, rd⟩ := Dp.reads I (.list (l.map PyData.str)) (.ref a) (.ref a) (.lst hs (dpAll_strs l)) rfl
  refine repr_of_reads' rd (by simp [PyData.showable, showable_strs]) (PyData.noDict_hsm (by simp [PyData.hasDict, nodict_strs])) hg ?_ (fun _ _ z => z) (fun h' u tk k => ⟨.str (shownL l), H, I.kept k, ⟨u, rfl⟩, q⟩) hz
  simp only [PyData.depth, depth_strs]
  omega
end
/-! ### defs that are called where no repr is under way -/
structure FnG (P : Program) (w : World) (K : PySem.W.Frag) (mg : Str → Option Value) (base : Heap) (k : Nat) (f : Addr) (fd : FuncData) (ps : List Str) (sp : Sp) : Prop where
  len : ∀ vs H Q E, sp vs H Q E → vs.length = ps.length
  run : ∀ (A : Around) (outer : List Env) (s : Shared) (H : Hp) (args : Args) (us : List Value) (vs : List V) (Q : VK) (E : XK), Room k A → A.guards = some [] → Env0 P w K mg base A outer s H → BindsTo s fd args (ps.zip us) → Vals vs us → sp vs H Q E →
    codeAny (model P w) A (.call (.ref f) args) (CR CX0 outer P w H s Q E) s
theorem fnG_of {P : Program} {w : World} {K : PySem.W.Frag} {mg : Str → Option Value} {base : Heap} {x qual : Str} {params : Arguments} {body : List Stmt} {scope : Scope} {f : Addr} {fd : FuncData} {N ps : List Str} {k : Nat} {sp : Sp}
    (F : FunD K x qual params body scope [] [] f fd) (S : FnScope N ps scope) (len : ∀ vs H Q E, sp vs H Q E → vs.length = ps.length)
    (hbody : ∀ (cdv : Value) (A : Around) (outer : List Env) (s : Shared) (H : Hp) (vs : List V) (Q : VK) (E : XK), Room k (A.deeper (envOfC qual scope s.heap.objs.size f cdv)) → (A.deeper (envOfC qual scope s.heap.objs.size f cdv)).guards = some [] → sp vs H Q E →
      ∃ t, PSs (cxOf CX0 P w K mg base N qual scope f cdv A outer s H E).nox body t ∧ t { nx := fun _ H' => Q .non H', rt := Q } (start N vs) H) : FnG P w K mg base (k + 1) f fd ps sp := by
  obtain ⟨oc, od, dV, kV, doc, pm, an, cdv, ct, osl, rfl, lk, hcd, _, _⟩ := F.ex
  refine ⟨len, fun A outer s H args us vs Q E hr hgd e0 hb r hsp => ?_⟩
  have KX : K.In s.heap := e0.mod.kin.keeps fun b o z => (e0.bs b o z).1
  have lim : s.heap.NoLimit := e0.mod.nolimit.keeps fun b o z => (e0.bs b o z).1
  have hkind : ∀ y ∈ ps.zip us, scope.names.lookup y.1 = some .local ∨ (scope.names.lookup y.1 = some .cell ∧ ((cellsFrom (s.heap.objs.size + 1) scope.names []).lookup y.1).isSome = true) := by
    rintro ⟨n, v⟩ hy
    exact (S.par n (List.of_mem_zip hy).1).imp id fun q => ⟨q, PySem.W.cellsFrom_some _ _ _ (.inl q)⟩
  refine codeAny_call_function hr.depth (KX _ _ lk) rfl S.co S.gen rfl (PySem.W.codeRec_of KX hcd) (hb _ _ _ _ (wpAny_newFunctionEnv_cells S.kind hkind fun env he s1 x => ?_))
  subst he
  refine ⟨lim.keeps x.toInCall.keep, codeAny_func ?_⟩
  obtain ⟨t, ht, hq⟩ := hbody cdv A outer s H vs Q E (hr.deeper _) hgd hsp
  have I : Inv (cxOf CX0 P w K mg base N qual scope f cdv A outer s H E) [] (start N vs) H s1 := inv_start S hr.hd e0 (len _ _ _ _ hsp) r x
  refine wpAny_mono (ht.nox.run [] s1 (start N vs) H _ I hq) (fun fl s' hs => ?_) fun _ _ hs => hs
  cases fl with
  | ret u => exact match hs with | ⟨v, _, H', J, rv, q⟩ => ⟨v, H', J.os, J.bare, J.base, J.hok, rv, q⟩
  | next => exact match hs with | ⟨_, H', J, q⟩ => ⟨V.non, H', J.os, J.bare, J.base, J.hok, rfl, q⟩
  | brk => exact match hs with | ⟨_, _, _, q⟩ => q.elim
  | cont => exact match hs with | ⟨_, _, _, q⟩ => q.elim
section
variable {X : Cx} {k j : Nat} {f : Addr} {fd : FuncData} {ps : List Str} {sp : Sp} {x : Str} {p pos : Pos} {e : Expr} {es : List Expr} {t : TA}
/-- the call of such a def -/
theorem pe_callG (F : FnG X.prog X.w X.K X.mg X.base k f fd ps sp) (hr : Room j X.A) (hk : k ≤ j) (hgd : X.A.guards = some []) (hg : Gl X x) (hm : X.mg x = some (.ref f)) (kp : PySem.W.keepIn X.K (.ref f) = true) (hb : Binds X.K fd ps [])
    (ha : PA X (e :: es) t) (hdb : (x == ("__debug__" : Str)) = false := by decide) (he : starEach (e :: es) X.env = (false, eval e X.env) :: starEach es X.env := by rfl) (hpl : (backTo pos (starEach es X.env)).any (·.1) = false := by rfl) :
    PE X (.Call (.Name x p) (e :: es) [] pos) (tCall sp [] E0 t) := by
  refine ⟨fun pins s σ H Q I h => wpAny_Call_Name_kw (ld_glob I hg hm ?_ hdb)⟩
  refine PySem.W.callWith_K (h₀ := X.base) I.ok.mod.kin kp (thn (ha.run pos pins s σ H _ I h) ?_) he hpl
  rintro us s1 ⟨vs, H1, I1, r, q⟩
  have q : sp (vs ++ []) H1 Q E0 := q
  rw [List.append_nil] at q
  have hl : (us ++ ([] : List Value)).length = ps.length := by rw [List.append_nil, ← r.length]; exact F.len _ _ _ _ q
  have b := hb s1 us I1.kIn hl
  rw [List.append_nil] at b
  refine ⟨I1.kIn, wpAny_call (codeAny_mono (F.run X.A X.stack s1 H1 ⟨us, []⟩ us vs Q E0 (hr.mono hk) hgd I1.env0 b r q) fun z s' hq => ?_)⟩
  cases z with
  | error _ => exact False.elim hq
  | ok fl =>
    cases fl with
    | ret u => exact I1.after hq
    | next => exact False.elim hq
    | brk => exact False.elim hq
    | cont => exact False.elim hq
end
end Cy
end

section
set_option maxHeartbeats 4000000
/-! Rules of our own, second part: a static method through an instance, len(set(list)). -/
namespace Cy
open PySem PySem.Spec PyProof.Rows L2
/-! ### o.m(..), m a static method of o's class -/
/-- what of the text it asks: its record at p, its def at g -/
structure SInst (K : PySem.W.Frag) (C : Addr) (m : Str) (p g : Addr) : Prop where
  cl : Cls K C
  ic : PySem.W.isClsIn K C = true
  at_ : PySem.W.findIn K (.ref C) m = some (some (.ref p))
  ty : PySem.W.typeIn K (.ref p) = some (.type "staticmethod")
  get : PySem.W.specialIn K (.ref p) "__get__" = some (some (.builtin "staticmethod.__get__"))
  tk : PySem.W.takesIn K (.ref p) = some false
  cp : PySem.W.copiedNames.contains m = false
  rc : ∃ l, PySem.W.recIn K p "staticmethod" = some (.ref g :: l)
def tSM (C : Addr) (m : Str) (sp : Sp) (ta : TE) (t : TA) : TE := fun σ H Q => ta σ H fun x H1 => ∃ a dx fs, x = .ref a ∧ H1 a = some (.ins C dx fs) ∧ fs.lookup m = none ∧ t σ H1 fun ws H2 => sp ws H2 Q E0
section
variable {X : Cx} {k j : Nat} {C p g : Addr} {sp : Sp} {fd : FuncData} {ps : List Str} {o e : Expr} {es : List Expr} {m : Str} {pos apos : Pos} {ta : TE} {t : TA} {pl : Sem Bool}
theorem pe_smeth (he : PE X o ta) (c : SInst X.K C m p g) (F : FnOk X.prog X.w X.K X.mg X.base CX0 k g fd ps sp) (kp : PySem.W.keepIn X.K (.ref g) = true) (hr : Room j X.A) (hk : k ≤ j) (hb : Binds X.K fd ps []) (ha : PA X (e :: es) t)
    (hst : starEach (e :: es) X.env = (false, eval e X.env) :: starEach es X.env := by rfl) (hpl : (backTo pos (starEach es X.env)).any (·.1) = false := by rfl)
    (ht : eval (.Call (.Attribute o m apos) (e :: es) [] pos) X.env = (do
      let ov ← eval o X.env
      standAt apos.atName
      let (f, first) ← holding [ov] (getMethod ov m pl)
      callWith pos f first (backTo pos (starEach (e :: es) X.env)) (backToKw pos (keywordEach [] X.env))) := by rfl) :
    PE X (.Call (.Attribute o m apos) (e :: es) [] pos) (tSM C m sp ta t) := by
  refine ⟨fun pins s σ H Q I h => PySem.W.methodCall_KW (pl := pl) (thn (he.run pins s σ H _ I h) ?_) ht⟩
  rintro u s1 ⟨x, H1, I1, rx, a, dx, fs, rfl, ea, l, q⟩
  obtain rfl : u = Value.ref a := rx
  obtain ⟨mA, O, rr, _, _, _⟩ := ins_get I1.hok ea
  have hn : mA m = none := RelO.none_of (by rw [← l]; exact rr m)
  obtain ⟨od, J, hl⟩ := O.look
  have hl' : PySem.W.lookIn m od = some none := by rw [hl m, hn]
  obtain ⟨rest, hp⟩ := c.rc
  have pg : PySem.W.plainGet X.K C m = true := c.cl.get m
  refine PySem.W.method_usual (r := some (.ref p)) I1.kIn J (PySem.W.plainGet_of pg).1 (PySem.W.plainGet_of pg).2 c.at_ ?_ ?_
  · show ((PySem.W.typeIn X.K (.ref p)).any fun t => t != .type "function" && t != .type "method_descriptor" && t != .type "wrapper_descriptor") = true
    rw [c.ty]
    decide +kernel
  · refine PySem.W.get_bind I1.kIn J (PySem.W.plainGet_of pg).1 (ClX.find_cm c.ic c.at_ c.get c.tk c.cp hl') (PySem.W.plainGet_of pg).2 ?_
    refine wpAny_call (PySem.W.sm_get (s := { s1 with toks := s1.toks + 1 }) I1.kIn hp (PySem.W.handed_on rfl ?_))
    have I2 := I1.tok (s1.toks + 1)
    refine PySem.W.callWith_K (first := []) (h₀ := X.base) I2.ok.mod.kin kp (thn (ha.run pos pins _ σ H1 _ I2 q) ?_) hst hpl
    rintro us s2 ⟨vs, H2, I3, r, q2⟩
    exact ⟨I3.kIn, run_fn (us := us) (vs := vs) F (hr.mono hk) hb .nil pass0 I3 r (by rw [List.append_nil]; exact q2)⟩
end
end Cy
end

section
set_option maxHeartbeats 4000000
/-! Rules of our own, third part: set(list) of keys of any one kind, by size alone. -/
namespace Cy
open PySem PySem.Spec PyProof.Rows L2
section
variable {κ : Type} [DecidableEq κ]
/-- which keys the first i items bring, and how many they are -/
def sn (key : Nat → κ) (i : Nat) (k : κ) : Bool := (List.range i).any fun j => decide (key j = k)
def sz (key : Nat → κ) : Nat → Nat
  | 0 => 0
  | i + 1 => if sn key i (key i) = true then sz key i else sz key i + 1
theorem sn_succ (key : Nat → κ) (i : Nat) (k : κ) : sn key (i + 1) k = (sn key i k || decide (k = key i)) := by
  unfold sn
  rw [List.range_succ, List.any_append]
  congr 1
  simp only [List.any_cons, List.any_nil, Bool.or_false]
  exact decide_eq_decide.mpr ⟨Eq.symm, Eq.symm⟩
theorem sn_iff {key : Nat → κ} {i : Nat} {k : κ} : sn key i k = true ↔ ∃ j, j < i ∧ key j = k := by
  unfold sn
  simp [List.any_eq_true]
theorem sz_le (key : Nat → κ) : ∀ i, sz key i ≤ i
  | 0 => Nat.le_refl _
  | i + 1 => by
    have := sz_le key i
    unfold sz
    split <;> omega
theorem sz_inj {key : Nat → κ} {n : Nat} (h : ∀ i j, i < j → j < n → key i ≠ key j) : ∀ i, i ≤ n → sz key i = i
  | 0, _ => rfl
  | i + 1, hi => by
    unfold sz
    rw [if_neg, sz_inj h i (by omega)]
    intro q
    obtain ⟨j, hj, e⟩ := sn_iff.mp q
    exact h j i hj (by omega) e
theorem sz_one {key : Nat → κ} {n : Nat} (h : ∀ i, i < n → key i = key 0) : ∀ i, i + 1 ≤ n → sz key (i + 1) = 1
  | 0, _ => by
    unfold sz
    rw [if_neg (by simp [sn])]
    rfl
  | i + 1, hi => by
    have q := sz_one h i (by omega)
    unfold sz
    rw [if_pos (sn_iff.mpr ⟨0, by omega, (h (i + 1) (by omega)).symm⟩)]
    exact q
end
section
variable {prog : Program} {w : World} {A : Around} {κ : Type} [DecidableEq κ] {knd : KeyKind prog w κ}
theorem upd_loop_keys {R : Result → Shared → Prop} {I : Addr} {fp wr : List Addr} {G : Array GenState → Array GenState → Prop} {n : Nat} {P : Nat → Value → Prop} {St : Nat → Shared → Prop}
    (W : WalksS prog w A.in1 I fp wr G n P St) (S : Addr) (hSf : S ∉ fp) (key : Nat → κ) (hval : ∀ i v, P i v → knd.is (key i) v = true ∧ v.scannable = true) (hb : n + 1 < scanBound) :
    ∀ (k i : Nat) (s : Shared), n - i = k → i ≤ n → St i s → s.heap.SetOf knd S (sn key i) (sz key i) →
      (∀ s', Moved (S :: wr) G s s' → s'.heap.SetOf knd S (sn key n) (sz key n) → R (.ok (.ret .none)) s') → codeAny (model prog w) A (.builtin "set.update.loop" ⟨[.ref S, .ref I], []⟩) R s := by
  have hSw : S ∉ wr := fun h => hSf (W.sub _ h)
  have hsub : ∀ b ∈ wr, b ∈ S :: wr := fun b hb => List.mem_cons_of_mem _ hb
  have keep : ∀ {i : Nat} {s s' : Shared}, Moved wr G s s' → s.heap.SetOf knd S (sn key i) (sz key i) → s'.heap.SetOf knd S (sn key i) (sz key i) := by
    rintro i s s' hm ⟨o, es, ep, t, ho, r⟩
    exact ⟨o, es, ep, t, hm.heap S _ hSw ho, r⟩
  intro k
  induction k with
  | zero =>
    intro i s hk hi hst hS hR
    obtain rfl : i = n := by omega
    refine codeAny_builtin PyProof.Rows.F.entry_set_update_loop ?_
    rw [Around.under_plainId PyProof.Rows.F.plain_set_update_loop _]
    show wpAny _ A.in1 (pyNext (.ref I) >>= _) _ _ s
    exact wpAny_bind (W.done s _ _ hst fun s' hm => wpAny_pure (hR s' (hm.mono hsub) (keep hm hS)))
  | succ k ih =>
    intro i s hk hi hst hS hR
    have hlt : i < n := by omega
    refine codeAny_builtin PyProof.Rows.F.entry_set_update_loop ?_
    rw [Around.under_plainId PyProof.Rows.F.plain_set_update_loop _]
    show wpAny _ A.in1 (pyNext (.ref I) >>= _) _ _ s
    refine wpAny_bind (W.item i s _ _ hlt hst fun v s' hP hst' hm => ?_)
    obtain ⟨hv, hsc⟩ := hval i v hP
    have hS' := keep hm hS
    show wpAny _ A.in1 (holding [v] (setAdd S v) >>= _) _ _ s'
    refine wpAny_bind (wpAny_holding ?_)
    unfold setAdd
    refine wpAny_holding (wpAny_bind (knd.pyHash (k := key i) hv ?_))
    refine wpAny_setAddHashed_of (knd := knd) (s := { s' with toks := s'.toks + 1 }) hv hsc hS' (by have := sz_le key i; omega) fun h' hsb hS2 => ?_
    have hSi : h'.SetOf knd S (sn key (i + 1)) (sz key (i + 1)) := PyProof.Rows.SetOf_congr hS2 (fun k' => (sn_succ key i k').symm) rfl
    refine wpAny_pure ⟨plainId_quiet PyProof.Rows.F.plain_set_update_loop _, ih (i + 1) _ (by omega) hlt (W.frame _ s' _ _ hst' (Nat.le_succ _) fun b hb o q => ?_) hSi fun s'' hm2 hS3 => ?_⟩
    · exact (hsb.2 b fun z => hSf (z ▸ hb)).trans q
    · exact hR s'' (Moved.trans W.gtrans ((hm.mono hsub).then_heap (Nat.le_succ _) fun b o hb q => (hsb.2 b fun z => hb (by rw [z]; exact List.mem_cons_self)).trans q) hm2) hS3
end
section
variable {prog : Program} {w : World} {A : Around} {E : Value → Shared → Prop} {s : Shared} {κ : Type} [DecidableEq κ]
theorem call_set_keys (knd : KeyKind prog w κ) {l : Addr} {items : Array Value} {key : Nat → κ} {Q : Value → Shared → Prop} (hh : A.handled = none) (hl : s.heap.IsList l items)
    (hi : ∀ i v, items[i]? = some v → knd.is (key i) v = true ∧ v.scannable = true) (hb : items.size + 1 < scanBound)
    (h : ∀ (h' : Heap) (tk : Nat), h'.SetOf knd s.heap.objs.size (sn key items.size) (sz key items.size) → (∀ b o, b < s.heap.objs.size → s.heap.get? b = some o → h'.get? b = some o) → Q (.ref s.heap.objs.size) { s with heap := h', toks := tk }) :
    wpAny (model prog w) A (call (.type "set") [.ref l]) Q E s := by
  obtain ⟨c, tl, hmro⟩ := PySem.F.called_set.mro
  have hmade := PySem.F.called_set.made
  have hsub := PySem.F.called_set.sub
  refine wpAny_call (codeAny_of_tree (wpAny_pure ⟨Code.quiet_builtin _ (by decide +kernel), codeAny_builtin PySem.F.entry_type_call ?_⟩))
  rw [Around.under_plain (weight_type_call_type "set" [.ref l] []) rfl]
  have h1 := PySem.F.called_set.notType
  have h2 := PySem.F.called_set.canCreate
  have hct := PySem.F.typeCall_set_1 (.ref l)
  repeat (any_goals (first | assumption | wp_step))
  generalize hN : s.heap.objs.size = N at *
  refine codeAny_mono (code_set_new_1 (.ref l) (E := E) (Q₁ := fun obj s₁ => ∃ led : Bool, obj = .ref N ∧ s₁ = { s with heap := s.heap.push { cls := .type "set", dict := none, data := .set #[] 0 (.fresh 0 0 led) } }) fun led => ⟨led, by rw [hN], rfl⟩) fun r s₁ hr => ?_
  match r, hr with
  | .error e, hr => exact hr
  | .ok (.ret obj), hr =>
    obtain ⟨led, rfl, rfl⟩ := hr
    have hS : (s.heap.push { cls := .type "set", dict := none, data := .set #[] 0 (.fresh 0 0 led) }).get? N = some { cls := .type "set", dict := none, data := .set #[] 0 (.fresh 0 0 led) } := by rw [← hN]; exact Heap.get?_push_size _ rfl
    have hT : Shared.TypeIs { s with heap := s.heap.push { cls := .type "set", dict := none, data := .set #[] 0 (.fresh 0 0 led) } } (.ref N) "set" := ⟨_, hS, rfl⟩
    have hli := PySem.F.called_set.init.lookup
    have hbi := PySem.F.called_set.init.bind (.ref N)
    repeat (any_goals (first | assumption | wp_step))
    refine codeAny_mono (codeAny_call_builtin (R := wants (fun r s₂ => r = .none ∧ ∃ h' tk, s₂ = { s with heap := h', toks := tk } ∧ h'.SetOf knd N (sn key items.size) (sz key items.size) ∧ (∀ b o, b < N → s.heap.get? b = some o → h'.get? b = some o)) E)
      PySem.F.called_set.init.plain PySem.F.entry_set_init (check_set_init_1 hT ?_)) fun r₂ s₂ hr₂ => ?_
    · obtain ⟨⟨ocls, odict, odata, oslots⟩, hol, hcl, nl, hdl⟩ := hl
      simp only at hcl hdl
      subst hcl hdl
      have hol' : (s.heap.push { cls := .type "set", dict := none, data := .set #[] 0 (.fresh 0 0 led) }).get? l = some { cls := .type "list", dict := odict, data := .seq items nl, slots := oslots } := Heap.get?_push_of_some _ hol
      have hsls := PySem.F.sub_list_set
      have hslf := PySem.F.sub_list_frozenset
      have hne : (Value.type "list" == Value.type "dict") = false := by decide
      have hl1 : (s.heap.push { cls := .type "set", dict := none, data := .set #[] 0 (.fresh 0 0 led) }).IsList l items := ⟨_, hol', rfl, nl, rfl⟩
      have hlS : l < N := by rw [← hN]; exact Heap.lt_size hol
      have hsz1 : (s.heap.push { cls := .type "set", dict := none, data := .set #[] 0 (.fresh 0 0 led) }).objs.size = N + 1 := by rw [Heap.size_push, hN]
      unfold Builtin.«set.__init__» noKeywords Builtin.Frozenset.updateFrom
      generalize hPI : pyIter = PI
      wp_walk
      subst hPI
      refine wpAny_pyIter_list hl1 ?_
      refine wpAny_bind (wpAny_runValue ?_)
      have hh3 : A.in1.in1.in1.handled = none := by simp [hh]
      have hneI : l ≠ (s.heap.push { cls := .type "set", dict := none, data := .set #[] 0 (.fresh 0 0 led) }).objs.size := by rw [hsz1]; exact Nat.ne_of_lt (Nat.lt_succ_of_lt hlS)
      have hSf : N ∉ [(s.heap.push { cls := .type "set", dict := none, data := .set #[] 0 (.fresh 0 0 led) }).objs.size, l] := by
        rw [hsz1]
        simp only [List.mem_cons, List.not_mem_nil, or_false, not_or]
        exact ⟨Nat.ne_of_lt (Nat.lt_succ_self _), Nat.ne_of_gt hlS⟩
      refine upd_loop_keys (knd := knd) ((Walks.list hh3 _ l hneI items).toS) N hSf key hi hb (items.size - 0) 0 _ (by omega) (Nat.zero_le _) ⟨⟨_, Heap.get?_push_size _ rfl, rfl, rfl⟩, (hl1.push _)⟩ ?_ ?_
      · have hget : ((s.heap.push { cls := .type "set", dict := none, data := .set #[] 0 (.fresh 0 0 led) }).push { cls := .type "list_iterator", data := .fields #[.ref l, .int 0 0] }).get? N = some { cls := .type "set", dict := none, data := .set #[] 0 (.fresh 0 0 led) } := Heap.get?_push_of_some _ hS
        exact PyProof.Rows.SetOf_congr ((PyProof.Rows.setObjOf_fresh (knd := knd) led).setOf hget (by unfold scanBound; omega)) (fun k => by simp [sn]) rfl
      · rintro ⟨h', g', d', tk', os'⟩ hm hS'
        obtain rfl : g' = s.gens := hm.gens
        obtain rfl : d' = s.drawn := hm.drawn
        obtain rfl : os' = s.os := hm.os
        refine wpAny_pure (wpAny_pure ⟨rfl, h', tk', rfl, hS', fun b o hb q => ?_⟩)
        refine hm.heap b o ?_ (Heap.get?_push_of_some _ (Heap.get?_push_of_some _ q))
        rw [hsz1]
        simp only [List.mem_cons, List.not_mem_nil, or_false, not_or]
        exact ⟨Nat.ne_of_lt hb, Nat.ne_of_lt (Nat.lt_succ_of_lt hb)⟩
    · match r₂, hr₂ with
      | .error e, hr₂ => exact hr₂
      | .ok (.ret r), hr₂ =>
        obtain ⟨rfl, h', tk, rfl, hS', hk'⟩ := hr₂
        repeat (any_goals (first | assumption | wp_step))
        exact h _ _ hS' hk'
      | .ok .next, hr₂ => exact hr₂.elim
      | .ok .brk, hr₂ => exact hr₂.elim
      | .ok .cont, hr₂ => exact hr₂.elim
  | .ok .next, hr => exact hr.elim
  | .ok .brk, hr => exact hr.elim
  | .ok .cont, hr => exact hr.elim
end
/-! ### len(set(a)) -/
section
variable {X : Cx} {a : Expr} {ta : TE} {p p2 q pos : Pos}
def kAt (ks : List Key) (i : Nat) : Key := ks.getD i (.inl 0)
/-- n: how many keys there are -/
def tLenSetK (K : PySem.W.Frag) (ta : TE) : TE := fun σ H Q => ta σ H fun x H1 => ∃ (l : Addr) (ks : List Key), x = .ref l ∧ SqL K H1 l (ks.map kV) ∧ ks.length ≤ 4000 ∧ Q (.int (sz (kAt ks) ks.length : Nat)) H1
theorem pe_lenSetK (hc : X.calm = true) (hg : Gl X "len") (hm : X.mg "len" = none) (hg2 : Gl X "set") (hm2 : X.mg "set" = none) (ha : PE X a ta)
    (na : starEach [a] X.env = (false, eval a X.env) :: starEach [] X.env := by rfl) : PE X (.Call (.Name "len" p) [.Call (.Name "set" p2) [a] [] q] [] pos) (tLenSetK X.K ta) := by
  refine ⟨fun pins s σ H Q I h => wpAny_Call_Name_kw (ld_blt I hg hm boot_len ?_)⟩
  refine PyProof.Rows.callWith_builtin1 (PyProof.Rows.args_cons ?_ rfl) rfl rfl
  refine wpAny_Call_Name_kw (ld_blt I hg2 hm2 boot_set ?_)
  refine PyProof.Rows.callWith_type1 (PyProof.Rows.args_cons (thn (ha.run pins s σ H _ I h) ?_) na) na rfl
  rintro v s1 ⟨x, H1, I1, r1, l, ks, rfl, hq, hl, q1⟩
  refine PyProof.Rows.args_nil ?_
  obtain rfl : v = Value.ref l := r1
  obtain ⟨its, r, pl, hz⟩ := I1.list hq
  have hlen : its.toArray.size = ks.length := by rw [List.size_toArray, ← r.length, List.length_map]
  refine call_set_keys (mixKind X.prog X.w) (key := kAt ks) (I1.ok.hd hc) pl.isList (fun i v hv => ?_) (by rw [hlen]; unfold scanBound; omega) fun h' tk hS hk => PyProof.Rows.args_nil ?_
  · have hv' : its[i]? = some v := by simpa using hv
    have hi : i < ks.length := by rw [← hlen]; exact (Array.getElem?_eq_some_iff.mp hv).1
    have e : (ks.map kV)[i]? = some (kV (kAt ks i)) := by rw [List.getElem?_map, kAt, List.getD_eq_getElem?_getD, List.getElem?_eq_getElem hi]; rfl
    obtain ⟨u, e1, e2⟩ := r.get e
    rw [hv'] at e1
    obtain rfl := Option.some.inj e1
    exact ⟨kV_is e2, key_scan e2⟩
  · rw [hlen] at hS
    obtain ⟨o, es, ep, t, ho, hex, hd, _, _, _, hf, hn⟩ := hS
    have I2 : Inv X pins σ H1 { s1 with heap := h', toks := tk } := I1.kept fun b o z => hk b o (Heap.lt_size z) z
    have := sz_le (kAt ks) ks.length
    exact call_len_set ho hex hd hf (by rw [hn]; omega) ⟨.int (sz (kAt ks) ks.length : Nat), H1, I2.tok _, ⟨_, by rw [hn]⟩, q1⟩
def bAt (bs : List Bool) (i : Nat) : Bool := bs.getD i false
def tLenSetB (K : PySem.W.Frag) (ta : TE) : TE := fun σ H Q => ta σ H fun x H1 => ∃ (l : Addr) (bs : List Bool), x = .ref l ∧ SqL K H1 l (bs.map V.bl) ∧ bs.length ≤ 4000 ∧ Q (.int (sz (bAt bs) bs.length : Nat)) H1
theorem pe_lenSetB (hc : X.calm = true) (hg : Gl X "len") (hm : X.mg "len" = none) (hg2 : Gl X "set") (hm2 : X.mg "set" = none) (ha : PE X a ta)
    (na : starEach [a] X.env = (false, eval a X.env) :: starEach [] X.env := by rfl) : PE X (.Call (.Name "len" p) [.Call (.Name "set" p2) [a] [] q] [] pos) (tLenSetB X.K ta) := by
  refine ⟨fun pins s σ H Q I h => wpAny_Call_Name_kw (ld_blt I hg hm boot_len ?_)⟩
  refine PyProof.Rows.callWith_builtin1 (PyProof.Rows.args_cons ?_ rfl) rfl rfl
  refine wpAny_Call_Name_kw (ld_blt I hg2 hm2 boot_set ?_)
  refine PyProof.Rows.callWith_type1 (PyProof.Rows.args_cons (thn (ha.run pins s σ H _ I h) ?_) na) na rfl
  rintro v s1 ⟨x, H1, I1, r1, l, bs, rfl, hq, hl, q1⟩
  refine PyProof.Rows.args_nil ?_
  obtain rfl : v = Value.ref l := r1
  obtain ⟨its, r, pl, hz⟩ := I1.list hq
  have hlen : its.toArray.size = bs.length := by rw [List.size_toArray, ← r.length, List.length_map]
  have hits := r.bls
  refine call_set_keys (PpSet.boolK X.prog X.w) (key := bAt bs) (I1.ok.hd hc) pl.isList (fun i v hv => ?_) (by rw [hlen]; unfold scanBound; omega) fun h' tk hS hk => PyProof.Rows.args_nil ?_
  · have hv' : its[i]? = some v := by simpa using hv
    have hi : i < bs.length := by rw [← hlen]; exact (Array.getElem?_eq_some_iff.mp hv).1
    rw [hits, List.getElem?_map, List.getElem?_eq_getElem hi] at hv'
    obtain rfl := Option.some.inj hv'
    have e : bAt bs i = bs[i] := by rw [bAt, List.getD_eq_getElem?_getD, List.getElem?_eq_getElem hi]; rfl
    rw [e]
    exact ⟨PpSet.boolK_is _ _ _, rfl⟩
  · rw [hlen] at hS
    obtain ⟨o, es, ep, t, ho, hex, hd, _, _, _, hf, hn⟩ := hS
    have I2 : Inv X pins σ H1 { s1 with heap := h', toks := tk } := I1.kept fun b o z => hk b o (Heap.lt_size z) z
    have := sz_le (bAt bs) bs.length
    exact call_len_set ho hex hd hf (by rw [hn]; omega) ⟨.int (sz (bAt bs) bs.length : Nat), H1, I2.tok _, ⟨_, by rw [hn]⟩, q1⟩
end
end Cy
end

section
set_option maxHeartbeats 4000000
/-! Rules of our own, fourth part: sorted of pairs of texts. -/
namespace Cy
open PySem PySem.Spec PyProof.Rows L2
/-! ### the order -/
abbrev Pr : Type := Str × Str
def ltL : List Nat → List Nat → Bool := fun a b => decide (a < b)
def cps (x : Str) : List Nat := x.cps.toList
theorem cps_inj {x y : Str} (h : cps x = cps y) : x = y := by
  obtain ⟨⟨l⟩⟩ := x
  obtain ⟨⟨m⟩⟩ := y
  have e : l = m := h
  rw [e]
def prLt (p q : Pr) : Bool := if p.1 = q.1 then decide (cps p.2 < cps q.2) else decide (cps p.1 < cps q.1)
theorem lt_total {a b : List Nat} (h : ¬ a < b) (h2 : ¬ b < a) : a = b := by
  exact List.le_antisymm (List.not_lt.mp h2) (List.not_lt.mp h)
theorem prLt_asym {p q : Pr} (h : prLt p q = true) : prLt q p = false := by
  unfold prLt at h ⊢
  by_cases e : p.1 = q.1
  · rw [if_pos e, decide_eq_true_eq] at h
    rw [if_pos e.symm, decide_eq_false_iff_not]
    exact fun z => List.lt_irrefl _ (List.lt_trans h z)
  · rw [if_neg e, decide_eq_true_eq] at h
    rw [if_neg fun z => e z.symm, decide_eq_false_iff_not]
    exact fun z => List.lt_irrefl _ (List.lt_trans h z)
theorem prLt_total {p q : Pr} (h : prLt p q = false) (h2 : prLt q p = false) : p = q := by
  unfold prLt at h h2
  by_cases e : p.1 = q.1
  · rw [if_pos e, decide_eq_false_iff_not] at h
    rw [if_pos e.symm, decide_eq_false_iff_not] at h2
    exact Prod.ext e (cps_inj (lt_total h h2))
  · rw [if_neg e, decide_eq_false_iff_not] at h
    rw [if_neg fun z => e z.symm, decide_eq_false_iff_not] at h2
    exact absurd (cps_inj (lt_total h h2)) e
theorem prLt_trans {p q r : Pr} (h : prLt p q = true) (h2 : prLt q r = true) : prLt p r = true := by
  unfold prLt at *
  by_cases e : p.1 = q.1
  · rw [if_pos e, decide_eq_true_eq] at h
    by_cases e2 : q.1 = r.1
    · rw [if_pos e2, decide_eq_true_eq] at h2
      rw [if_pos (e.trans e2), decide_eq_true_eq]
      exact List.lt_trans h h2
    · rw [if_neg e2] at h2
      rw [if_neg fun z => e2 (e.symm.trans z), e]
      exact h2
  · rw [if_neg e, decide_eq_true_eq] at h
    by_cases e2 : q.1 = r.1
    · rw [if_neg fun z => e (z.trans e2.symm), decide_eq_true_eq, ← e2]
      exact h
    · rw [if_neg e2, decide_eq_true_eq] at h2
      have h3 := List.lt_trans h h2
      rw [if_neg fun z => List.lt_irrefl (cps p.1) (by rw [z] at h3 ⊢; exact h3), decide_eq_true_eq]
      exact h3
/-- sorted lists of pairs with the same members, none twice, are one -/
def srtP (l : List Pr) : Prop := l.Pairwise fun p q => prLt q p = false
theorem srt_eq : ∀ {l m : List Pr}, srtP l → srtP m → l.Perm m → l = m
  | [], m, _, _, h => h.nil_eq
  | p :: l, [], _, _, h => absurd h.length_eq (by simp)
  | p :: l, q :: m, hl, hm, h => by
    obtain ⟨a1, a2⟩ := List.pairwise_cons.mp hl
    obtain ⟨b1, b2⟩ := List.pairwise_cons.mp hm
    have e : p = q := by
      rcases List.mem_cons.mp (h.mem_iff.mp (List.mem_cons_self (a := p) (l := l))) with e | e
      · exact e
      · rcases List.mem_cons.mp (h.mem_iff.mpr (List.mem_cons_self (a := q) (l := m))) with e2 | e2
        · exact e2.symm
        · exact prLt_total (b1 p e) (a1 q e2) |>.symm ▸ rfl
    subst e
    rw [srt_eq a2 b2 ((List.perm_cons p).mp h)]
/-! ### the machine's answers -/
theorem prLt_swo {α : Type} (k : α → Pr) : SrtO.Swo fun x y => prLt (k x) (k y) := by
  refine ⟨fun x y h => prLt_asym h, fun x y z h1 h2 => ?_⟩
  cases e : prLt (k z) (k x) with
  | false => rfl
  | true =>
    -- z < x, not y < x, not z < y
    by_cases e2 : prLt (k x) (k y) = true
    · rw [prLt_trans e e2] at h2
      exact h2
    · rw [← prLt_total (Bool.eq_false_iff.mpr e2) h1] at h2
      exact e.symm.trans h2
def IsPr (h : Heap) (v : Value) (p : Pr) : Prop := ∃ a o t u n, v = .ref a ∧ h.get? a = some o ∧ o.cls = .type "tuple" ∧ o.data = .seq #[.str p.1 t, .str p.2 u] n
theorem IsPr.keeps {h h' : Heap} {v : Value} {p : Pr} (q : IsPr h v p) (k : ∀ b o, h.get? b = some o → o.cls = .type "tuple" → h'.get? b = some o) : IsPr h' v p := by
  obtain ⟨a, o, t, u, n, e, ho, hc, hd⟩ := q
  exact ⟨a, o, t, u, n, e, k _ _ ho hc, hc, hd⟩
section
variable {prog : Program} {w : World} {A : Around} {E : Value → Shared → Prop} {s : Shared}
theorem pr_cmp {vs : List Value} {k : Value → Pr} (hp : ∀ v ∈ vs, IsPr s.heap v (k v)) : SrtO.Cmp prog w A s (tuples' true) (fun p => p.1 ∈ vs) (SrtO.lt2 fun v u => prLt (k v) (k u)) := by
  intro p q hm hm'
  have h1 := hp _ hm
  have h2 := hp _ hm'
  show wpAny (model prog w) A (keyLt' (tuples' true) p.1 q.1) (fun r s' => s' = s ∧ r = prLt (k p.1) (k q.1)) (fun _ _ => False) s
  unfold prLt
  generalize k p.1 = x at h1 ⊢
  generalize k q.1 = y at h2 ⊢
  obtain ⟨x1, x2⟩ := x
  obtain ⟨y1, y2⟩ := y
  obtain ⟨a, o, t, u, n, e, ho, _, hd⟩ := h1
  obtain ⟨a', o', t', u', n', e', ho', _, hd'⟩ := h2
  rw [e, e']
  refine PySem.W.kat_lt ho hd ho' hd' ?_
  show PySem.W.KatLex prog w A true (decide (2 < 2)) _ [(.str x1 t, .str y1 t'), (.str x2 u, .str y2 u')] 0 s
  refine PySem.W.kat_cons (SeqAt.EqAt.str_str x1 t y1 t' prog w _ _ (PySem.W.kat_go (fun e1 => ?_) fun e1 => ?_))
  · have ex : x1 = y1 := by simpa using e1
    refine PySem.W.kat_yes (PySem.W.kat_cons (SeqAt.EqAt.str_str x2 u y2 u' prog w _ _ (PySem.W.kat_go (fun e2 => ?_) fun e2 => ?_)))
    · have ey : x2 = y2 := by simpa using e2
      refine PySem.W.kat_yes (PySem.W.kat_nil ⟨rfl, ?_⟩)
      rw [if_pos ex, ey]
      exact (decide_eq_false (List.lt_irrefl _)).symm
    · exact PySem.W.kat_no (PyProof.Rows.oneLt_any_str ⟨rfl, (if_pos ex).symm⟩)
  · have ex : ¬ x1 = y1 := by simpa using e1
    exact PySem.W.kat_no (PyProof.Rows.oneLt_any_str ⟨rfl, (if_neg ex).symm⟩)
theorem pr_firsts {h : Heap} {k : Value → Pr} : ∀ {vs : List Value}, (∀ v ∈ vs, IsPr h v (k v)) → ∃ fs : List Value, PySem.W.KatTups h vs fs ∧ fs.length = vs.length ∧ ∀ f ∈ fs, ∃ x t, f = Value.str x t
  | [], _ => ⟨[], PySem.W.KatTups.nil, rfl, fun _ hm => nomatch hm⟩
  | v :: vs, hp => by
    obtain ⟨fs, h1, h2, h3⟩ := pr_firsts (vs := vs) fun v' hm => hp v' (List.mem_cons_of_mem _ hm)
    obtain ⟨a, o, t, u, n, rfl, ho, hc, hd⟩ := hp v List.mem_cons_self
    refine ⟨.str (k (.ref a)).1 t :: fs, PySem.W.KatTups.cons ho hc hd rfl h1, by simp [h2], fun f hm => ?_⟩
    rcases List.mem_cons.mp hm with rfl | hm
    · exact ⟨_, t, rfl⟩
    · exact h3 f hm
theorem pr_sortable {a : Addr} {vs : List Value} {k : Value → Pr} (h0 : 0 < vs.length) (hp : ∀ v ∈ vs, IsPr s.heap v (k v)) (ha : ∀ o, s.heap.get? a = some o → o.cls ≠ .type "tuple") : SrtO.SortableO prog w A s a vs fun v u => prLt (k v) (k u) := by
  intro h' keep
  have hp' : ∀ v ∈ vs, IsPr h' v (k v) := fun v hm => (hp v hm).keeps fun b o e c => keep b o (fun z => ha o (z ▸ e) c) e
  obtain ⟨fs, h1, h2, h3⟩ := pr_firsts hp'
  refine ⟨tuples' true, fun Q E hq => ?_, pr_cmp hp'⟩
  refine PySem.W.kat_kind (T := .type "str") h1 (by omega) (fun f hm => ?_) (by rfl) ?_
  · obtain ⟨x, t, rfl⟩ := h3 f hm
    exact PySem.W.Looks.now
  · have e : (Value.type "str" != Value.type "tuple") = true := by decide +kernel
    rw [e]
    exact hq
end
/-! ### sorted(l) of pairs of texts, by values -/
/-- the pair at a value -/
def prAt (H : Hp) : V → Pr
  | .ref t => (match H t with
    | some (.tup [.str a, .str b]) => (a, b)
    | _ => default)
  | _ => default
def bkV : Value → V
  | .ref a => .ref a
  | _ => .non
theorem bk_refs : ∀ {as : List Addr} {us : List Value}, Vals (as.map V.ref) us → us = as.map Value.ref
  | [], _, .nil => rfl
  | a :: as, _, .cons r t => by
    obtain rfl := (show _ = Value.ref a from r)
    rw [bk_refs t]
    rfl
def rSortP (K : PySem.W.Frag) : List V → Hp → VK → Prop := fun vs H Q => ∃ (a : Addr) (as : List (Addr × Pr)), vs = [V.ref a] ∧ SqL K H a (as.map fun e => V.ref e.1) ∧ (∀ e ∈ as, H e.1 = some (.tup [.str e.2.1, .str e.2.2])) ∧
  ∀ (bs : List (Addr × Pr)) p, bs.Perm as → srtP (bs.map (·.2)) → H p = none → Q (.ref p) (upd H p (.lst (bs.map fun e => V.ref e.1)))
section
variable {X : Cx}
theorem cr_sortP : CallR X (.builtin "sorted") (rSortP X.K) := by
  rintro pins s σ H vs us Q I r ⟨a, as, rfl, hs, hx, q⟩
  obtain ⟨its, rv, hl, hz⟩ := I.list hs
  obtain ⟨u, rfl, ru⟩ := vals1 r
  obtain rfl : u = Value.ref a := ru
  have e1 : its = as.map fun e => Value.ref e.1 := by
    have z := bk_refs (as := as.map (·.1)) (us := its) (by rw [List.map_map]; exact rv)
    rw [z, List.map_map]
    rfl
  subst e1
  let k : Value → Pr := fun v => prAt H (bkV v)
  have hk : ∀ e ∈ as, k (.ref e.1) = e.2 := fun e he => by
    show prAt H (.ref e.1) = e.2
    unfold prAt
    simp only [hx e he]
  have hp : ∀ v ∈ as.map (fun e => Value.ref e.1), IsPr s.heap v (k v) := by
    intro v hv
    obtain ⟨e, he, rfl⟩ := List.mem_map.mp hv
    rw [hk e he]
    obtain ⟨_, its2, r2, o, ho, hc, n, hd⟩ := I.hok _ _ (hx e he)
    obtain ⟨u1, u2, rfl, ri, rj⟩ := vals2 r2
    obtain ⟨t1, rfl⟩ := ri
    obtain ⟨t2, rfl⟩ := rj
    exact ⟨e.1, o, t1, t2, n, rfl, ho, hc, hd⟩
  refine SrtO.sorted_ord (prLt_swo k) hl.isList (by rw [← rv.length]; exact hz) (fun h2 h₁ b hb kk => ?_) fun out h1 h2 => ?_
  · refine pr_sortable (s := { s with heap := h₁ }) (by omega) (fun v hm => (hp v hm).keeps fun b o e _ => (kk b o e).2) fun o e c => ?_
    obtain rfl := Option.some.inj (e.symm.trans hb)
    exact absurd (Value.type.inj c) (by decide)
  · have hn := sortedAll_at s.heap (as.map fun e => Value.ref e.1) out.toArray
    obtain ⟨n, hn⟩ := hn
    have kp : ∀ b o, s.heap.get? b = some o → (sortedAll s.heap (as.map fun e => Value.ref e.1) out.toArray).get? b = some o := fun b o e => sortedAll_old e
    let f : Value → Addr × Pr := fun v => (match v with | .ref t => t | _ => 0, k v)
    have fe : (as.map fun e => Value.ref e.1).map f = as := by
      rw [List.map_map]
      refine (List.map_congr_left fun e he => ?_).trans (List.map_id _)
      show ((e.1, k (.ref e.1)) : Addr × Pr) = e
      rw [hk e he]
    have pm : (out.map f).Perm as := by
      have z := h2.perm.map f
      rw [fe] at z
      exact z
    have ref : ∀ v ∈ out, ∃ t, v = Value.ref t := fun v hv => by
      obtain ⟨e, _, rfl⟩ := List.mem_map.mp (h2.perm.mem_iff.mp hv)
      exact ⟨_, rfl⟩
    have vb : ∀ l : List Value, (∀ v ∈ l, ∃ t, v = Value.ref t) → Vals ((l.map f).map fun e => V.ref e.1) l := by
      intro l
      induction l with
      | nil => exact fun _ => .nil
      | cons v l ih =>
        intro h
        obtain ⟨t, rfl⟩ := h v List.mem_cons_self
        exact .cons rfl (ih fun v hv => h v (List.mem_cons_of_mem _ hv))
    refine ⟨.ref (s.heap.objs.size + 1), upd H (s.heap.objs.size + 1) (.lst ((out.map f).map fun e => V.ref e.1)), I.laid (t' := s.toks) kp (Nat.le_succ _) ⟨?_, out, n, vb out ref, hn⟩, rfl, q _ _ pm ?_ (I.hok.fresh (Nat.le_succ _))⟩
    · rw [List.length_map, pm.length_eq]
      rw [List.length_map] at hz
      exact hz
    · unfold srtP
      rw [List.map_map]
      exact List.pairwise_map.mpr h1
end
end Cy
end

section
set_option maxHeartbeats 4000000
/-! Rules of our own, fifth part: sorted of a dict of pairs, sorted of few items, a dict comprehension with tuples as keys. -/
namespace Cy
open PySem PySem.Spec PyProof.Rows L2 DX
/-- a pair of texts as a key -/
def pk (p : Pr) : List Key := [.inr p.1, .inr p.2]
theorem pk_inj {p q : Pr} (h : pk p = pk q) : p = q := by
  injection h with h1 h2
  injection h2 with h2 _
  exact Prod.ext (Sum.inr.inj h1) (Sum.inr.inj h2)
section
variable {X : Cx}
/-- sorted(d), d's keys pairs of texts: the tuples of d in their order -/
theorem cr_sortDT (hc : X.calm = true) : CallR X (.builtin "sorted") (fun vs H Q => ∃ (d : Addr) (kvs : List (List Key × V)) (ps : List Pr), vs = [V.ref d] ∧ Rd H d (.dT kvs) ∧ kvs.map (·.1) = ps.map pk ∧
    ∀ (bs : List (Addr × Pr)) (l : Addr), (bs.map (·.2)).Perm ps → srtP (bs.map (·.2)) → (∀ e ∈ bs, H e.1 = some (.tup [.str e.2.1, .str e.2.2])) → H l = none → Q (.ref l) (upd H l (.lst (bs.map fun e => V.ref e.1)))) := by
  rintro pins s σ H vs us Q I r ⟨d, kvs, ps, rfl, hd, hps, q⟩
  obtain ⟨u, rfl, rx⟩ := vals1 r
  obtain rfl : u = Value.ref d := rx
  obtain ⟨z, hs, ks, pr, o, es, ep, ho, hx, hdt, he, hn⟩ := (show ObjOk X.prog X.w H s.heap d (.dT kvs) from hd.ok I.hok)
  have l1 : es.size = ks.length := size_of_entries he
  have l2 : kvs.length = ks.length := Paired.length pr
  have l3 : kvs.length = ps.length := by
    have e := congrArg List.length hps
    rwa [List.length_map, List.length_map] at e
  refine Calls.call_function_entry PyProof.Rows.kind_sorted PyProof.Rows.plain_sorted PyProof.Rows.entry_sorted (PyProof.Rows.args_sorted1 _) ?_
  unfold Builtin.«sorted»
  refine wpAny_bind (m := checkCount "sorted" 1 1 _) (wpAny_pure ?_)
  refine wpAny_bind (PySem.W.kdu_collect (A := X.A.in1) (kdl_raw (prog := X.prog) (w := X.w) (ep := ep) hs hx hdt) (I.ok.hd hc) ho (by omega) fun h' tk acc hk hacc => ?_)
  -- what was collected: the tuples, in order
  have ea : acc.toList = ks.map fun x => Value.ref x.2.1 := by
    have hl : acc.toList.length = ks.length := by rw [Array.length_toList, hacc.1]; exact l1
    refine List.ext_getElem? fun j => ?_
    rw [List.getElem?_map]
    cases hj : acc.toList[j]? with
    | none => rw [List.getElem?_eq_none (by have := List.getElem?_eq_none_iff.mp hj; omega)]; rfl
    | some v =>
      obtain ⟨en, hen, rfl⟩ := hacc.2 j v (by rw [← Array.getElem?_toList]; exact hj)
      have qe := entry_at he j
      rw [hen] at qe
      cases hb : ks[j]? with
      | none => rw [hb] at qe; cases qe
      | some b =>
        rw [hb] at qe
        obtain rfl := Option.some.inj qe
        rfl
  generalize has : ks.map (fun x => x.2.1) = as at *
  have ea2 : acc.toList = as.map Value.ref := by rw [ea, ← has, List.map_map]; rfl
  -- each with its pair
  have pa : ∀ (l : List (List Key × V)) (m : List (List Key × Addr × Value)) (ps : List Pr), KT H l m → l.map (·.1) = ps.map pk → ∀ e ∈ (m.map fun x => x.2.1).zip ps, H e.1 = some (.tup [.str e.2.1, .str e.2.2]) := by
    intro l m ps h
    induction h generalizing ps with
    | nil => intro _ e he; simp at he
    | @cons p q l m h1 h2 ih =>
      intro hps e he
      cases ps with
      | nil => simp at hps
      | cons x ps =>
        simp only [List.map_cons, List.cons.injEq] at hps
        rcases List.mem_cons.mp (show e ∈ (q.2.1, x) :: (m.map fun x => x.2.1).zip ps from he) with rfl | he
        · have := h1.2.1
          rw [hps.1] at this
          exact this
        · exact ih ps hps.2 e he
  have hx' := pa kvs ks ps pr hps
  rw [has] at hx'
  have lz : as.length = ps.length := by rw [← has, List.length_map]; omega
  have e1 : as = (as.zip ps).map (·.1) := (List.map_fst_zip (by omega)).symm
  have e2 : ps = (as.zip ps).map (·.2) := (List.map_snd_zip (by omega)).symm
  generalize as.zip ps = zs at *
  have e3 : as.map Value.ref = zs.map fun e => Value.ref e.1 := by rw [e1, List.map_map]; rfl
  rw [ea2, e3]
  have I1 : Inv X pins σ H { s with heap := h', toks := tk } := I.kept hk
  have zl : zs.length ≤ sizeLine := by
    have e := congrArg List.length e2
    rw [List.length_map] at e
    omega
  let k : Value → Pr := fun v => prAt H (bkV v)
  have hkk : ∀ e ∈ zs, k (.ref e.1) = e.2 := fun e he => by
    show prAt H (.ref e.1) = e.2
    unfold prAt
    simp only [hx' e he]
  have hp : ∀ v ∈ zs.map (fun e => Value.ref e.1), IsPr h' v (k v) := by
    intro v hv
    obtain ⟨e, he, rfl⟩ := List.mem_map.mp hv
    rw [hkk e he]
    obtain ⟨_, its2, r2, o, ho, hc, n, hd⟩ := I1.hok _ _ (hx' e he)
    obtain ⟨u1, u2, rfl, ri, rj⟩ := vals2 r2
    obtain ⟨t1, rfl⟩ := ri
    obtain ⟨t2, rfl⟩ := rj
    exact ⟨e.1, o, t1, t2, n, rfl, ho, hc, hd⟩
  refine wpAny_bind (wpAny_newList ?_ (by rw [List.length_map]; exact zl))
  have hoL : (h'.push (seqObj "list" (zs.map fun e => Value.ref e.1).toArray 0)).get? h'.objs.size = some (seqObj "list" (zs.map fun e => Value.ref e.1).toArray 0) := Heap.get?_push_size _ rfl
  have kL : ∀ b o, h'.get? b = some o → (h'.push (seqObj "list" (zs.map fun e => Value.ref e.1).toArray 0)).get? b = some o := fun b o e => Heap.get?_push_of_some _ e
  show wpAny _ _ _ _ _ { s with heap := h'.push (seqObj "list" (zs.map fun e => Value.ref e.1).toArray 0), toks := tk }
  refine wpAny_bind (wpAny_holding (wpAny_call_entry PyProof.Rows.slot_list_sort ⟨_, hoL, rfl⟩ PyProof.Rows.entry_list_sort
    (SrtO.list_sort_ord (s := { s with heap := h'.push (seqObj "list" (zs.map fun e => Value.ref e.1).toArray 0), toks := tk }) (prLt_swo k) hoL (by rw [List.length_map]; exact zl) (fun h2 => ?_) fun out h1 h2 => ⟨_, rfl, ?_⟩) (PyProof.Rows.args_list_sort _)))
  · refine pr_sortable (by omega) (fun v hm => (hp v hm).keeps fun b o e _ => kL b o e) fun o e c => ?_
    obtain rfl := Option.some.inj (e.symm.trans hoL)
    exact absurd (Value.type.inj c) (by decide)
  · let f : Value → Addr × Pr := fun v => (match v with | .ref t => t | _ => 0, k v)
    have fe : (zs.map fun e => Value.ref e.1).map f = zs := by
      rw [List.map_map]
      refine (List.map_congr_left fun e he => ?_).trans (List.map_id _)
      show ((e.1, k (.ref e.1)) : Addr × Pr) = e
      rw [hkk e he]
    have pm : (out.map f).Perm zs := by
      have z := h2.perm.map f
      rw [fe] at z
      exact z
    have ref : ∀ v ∈ out, ∃ t, v = Value.ref t := fun v hv => by
      obtain ⟨e, _, rfl⟩ := List.mem_map.mp (h2.perm.mem_iff.mp hv)
      exact ⟨_, rfl⟩
    have vb : ∀ l : List Value, (∀ v ∈ l, ∃ t, v = Value.ref t) → Vals ((l.map f).map fun e => V.ref e.1) l := by
      intro l
      induction l with
      | nil => exact fun _ => .nil
      | cons v l ih =>
        intro h
        obtain ⟨t, rfl⟩ := h v List.mem_cons_self
        exact .cons rfl (ih fun v hv => h v (List.mem_cons_of_mem _ hv))
    have hnl : H h'.objs.size = none := I1.hok.fresh (Nat.le_refl _)
    have srt : srtP ((out.map f).map (·.2)) := by
      unfold srtP
      rw [List.map_map]
      exact List.pairwise_map.mpr h1
    refine wpAny_pure ⟨_, rfl, .ref h'.objs.size, upd H h'.objs.size (.lst ((out.map f).map fun e => V.ref e.1)), ?_, rfl, q _ _ ?_ srt (fun e he => hx' e (pm.mem_iff.mp he)) hnl⟩
    · obtain ⟨n, hh⟩ := sortedHeap_at (out := out.toArray) hoL
      refine I1.laid (t' := tk) (a := h'.objs.size) (fun b o e => ?_) (Nat.le_refl _) ⟨?_, out, n, vb out ref, hh⟩
      · have hb : b < h'.objs.size := Heap.lt_size e
        rw [sortedHeap_old (Nat.ne_of_lt hb) (by rw [Heap.size_push]; exact Nat.lt_succ_of_lt hb)]
        exact kL b o e
      · rw [List.length_map, pm.length_eq]
        exact zl
    · rw [e2]
      exact pm.map _
end
/-! ### d.items() as a value, sorted of at most one item -/
section
variable {X : Cx}
theorem mt_itemsK : MtR X "dict.items" (fun x xs H Q => ∃ (a : Addr) (kvs : List (Key × V)), x = .ref a ∧ xs = [] ∧ H a = some (.dK kvs) ∧ ∀ p, H p = none → Q (.ref p) (upd H p (itemsO p a))) := by
  rintro pins s σ H x xs v us Q I rx rxs ⟨a, kvs, rfl, rfl, ha, q⟩
  obtain rfl : v = Value.ref a := rx
  cases rxs
  obtain ⟨z, hd, vs, rel, o, es, ep, ho, hx, hdat, _⟩ := dk_of I.hok ha
  refine DT.callItems (es := es) (ep := ep) hd ⟨o, ho, hx, hdat⟩ ?_
  exact ⟨.ref s.heap.objs.size, upd H s.heap.objs.size (itemsO s.heap.objs.size a), I.laid (t' := s.toks) (fun b u e => Heap.get?_push_of_some _ e) (Nat.le_refl _) (itemsO_ok (Heap.get?_push_size _ rfl)), rfl, q _ (I.hok.fresh (Nat.le_refl _))⟩
theorem cr_sortItems1 (hc : X.calm = true) : CallR X (.builtin "sorted") (fun vs H Q => ∃ (p a : Addr) (kvs : List (Key × V)), vs = [V.ref p] ∧ H p = some (itemsO p a) ∧ H a = some (.dK kvs) ∧ kvs.length ≤ 1 ∧
    ∀ (H' : Hp) (l : Addr) (ts : List Addr), Same H H' → H l = none → H' l = some (.lst (ts.map V.ref)) → Paired (fun (t : Addr) (q : Key × V) => H' t = some (.tup [kV q.1, q.2])) ts kvs → Q (.ref l) H') := by
  rintro pins s σ H vs us Q I r ⟨p, a, kvs, rfl, hp, ha, h1, q⟩
  obtain ⟨u, rfl, rx⟩ := vals1 r
  obtain rfl : u = Value.ref p := rx
  have view : s.heap.IsItemsView p a := (show ObjOk X.prog X.w H s.heap p (itemsO p a) from I.hok p _ hp).1
  obtain ⟨z, hd, vs, rel, o, es, ep, ho, hx, hdat, hks, hps, hnd⟩ := dk_of I.hok ha
  have l1 : es.size = vs.length := by have := hps.length; rw [Array.length_toList] at this; omega
  have l2 : kvs.length = vs.length := rel.length
  refine DT.sortedI (es := es) (ep := ep) (I.ok.hd hc) view ⟨o, ho, hx, hdat⟩ (by rw [sizeLine_eq]; omega) fun h' tk as hk hlt hl hG => ?_
  have hob : (h'.push (seqObj "list" (as.map Value.ref).toArray 0)).get? h'.objs.size = some (seqObj "list" (as.map Value.ref).toArray 0) := Heap.get?_push_size _ rfl
  have kb : ∀ b o, h'.get? b = some o → (h'.push (seqObj "list" (as.map Value.ref).toArray 0)).get? b = some o := fun b o e => Heap.get?_push_of_some _ e
  refine wpAny_call_entry PyProof.Rows.slot_list_sort ⟨_, hob, rfl⟩ PyProof.Rows.entry_list_sort
    (SrtO.list_sort_ord (s := { s with heap := h'.push (seqObj "list" (as.map Value.ref).toArray 0), toks := tk }) (prLt_swo fun _ => default) hob (by rw [List.length_map, sizeLine_eq]; omega) (fun h2 => absurd h2 (by rw [List.length_map]; omega)) fun out g1 g2 => ⟨_, rfl, ?_⟩) (PyProof.Rows.args_list_sort _)
  obtain ⟨n, hh⟩ := sortedHeap_at (out := out.toArray) hob
  have old : ∀ b o, h'.get? b = some o → (sortedHeap (h'.push (seqObj "list" (as.map Value.ref).toArray 0)) h'.objs.size (as.map Value.ref) out.toArray).get? b = some o := fun b o e => by
    have hb : b < h'.objs.size := Heap.lt_size e
    rw [sortedHeap_old (Nat.ne_of_lt hb) (by rw [Heap.size_push]; exact Nat.lt_succ_of_lt hb)]
    exact kb b o e
  have hout : out = as.map Value.ref := by
    have pm := g2.perm
    match as, kvs, hl, h1, pm with
    | [], _, _, _, pm => exact List.Perm.eq_nil pm
    | [t], _, _, _, pm => exact List.perm_singleton.mp pm
    | _ :: _ :: _, kvs, hl, h1, _ => exact absurd hl (by simp only [List.length_cons]; omega)
  subst hout
  have I1 : Inv X pins σ H { s with heap := h', toks := tk } := I.kept hk
  generalize hh2 : sortedHeap (h'.push (seqObj "list" (as.map Value.ref).toArray 0)) h'.objs.size (as.map Value.ref) (as.map Value.ref).toArray = h2 at hh old ⊢
  have hnl : H h'.objs.size = none := I1.hok.fresh (Nat.le_refl _)
  cases kvs with
  | nil =>
    obtain rfl : as = [] := List.eq_nil_of_length_eq_zero (by simp only [List.length_nil] at l2; omega)
    refine ⟨.ref h'.objs.size, upd H h'.objs.size (.lst []), I1.laid (t' := tk) old (Nat.le_refl _) ⟨Nat.zero_le _, [], n, .nil, hh⟩, rfl, q _ _ [] (fun b o e => ?_) hnl upd_same .nil⟩
    rw [upd_ne (ne_of_none e hnl)]
    exact e
  | cons kv kvs =>
    simp only [List.length_cons] at h1 l2
    obtain rfl : kvs = [] := List.eq_nil_of_length_eq_zero (by omega)
    obtain ⟨t, rfl⟩ : ∃ t, as = [t] := List.length_eq_one_iff.mp (by omega)
    obtain ⟨⟨k', u⟩, rfl⟩ : ∃ z, vs = [z] := List.length_eq_one_iff.mp (by simp only [List.length_nil] at l2; omega)
    obtain ⟨r0, _⟩ : (kv.1 = k' ∧ RelV kv.2 u) ∧ True := by
      cases rel with
      | cons a b => exact ⟨a, trivial⟩
    obtain ⟨en, e1, e2⟩ := hG.pairs 0 t rfl
    obtain ⟨c1, c2⟩ := r0
    have ht : s.heap.objs.size < t := hG.above t (by simp)
    have htl : t < h'.objs.size := Heap.lt_size e2
    have ke := hps.get? (i := 0) (e := en) (k := k') (v := u) (by rw [Array.getElem?_toList]; exact e1) rfl
    have nt : H t = none := I.hok.fresh (Nat.le_of_lt ht)
    have rk : RelV (kV kv.1) en.key := by
      have q1 : keyIs k' en.key = true := ke.1
      rw [show kv.1 = k' from c1]
      rcases keyIs_shape q1 with ⟨i, t, rfl, e⟩ | ⟨x, t, rfl, e⟩
      · exact ⟨t, e⟩
      · exact ⟨t, e⟩
    have rv : RelV kv.2 en.val := by rw [ke.2]; exact c2
    have I2 : Inv X pins σ (upd H t (.tup [kV kv.1, kv.2])) { s with heap := h', toks := tk } := I.laid (t' := tk) hk (Nat.le_of_lt ht) ⟨by show 2 ≤ sizeLine; decide, [en.key, en.val], .cons rk (.cons rv .nil), ⟨_, e2, rfl, _, rfl⟩⟩
    have nl : (upd H t (.tup [kV kv.1, kv.2])) h'.objs.size = none := by rw [upd_ne (Nat.ne_of_gt htl)]; exact hnl
    refine ⟨.ref h'.objs.size, upd (upd H t (.tup [kV kv.1, kv.2])) h'.objs.size (.lst [.ref t]), I2.laid (t' := tk) old (Nat.le_refl _) ⟨by show 1 ≤ sizeLine; decide, [.ref t], n, .cons rfl .nil, hh⟩, rfl, q _ _ [t] (fun b o e => ?_) hnl upd_same (.cons ?_ .nil)⟩
    · rw [upd_ne (ne_of_none e hnl), upd_ne (ne_of_none e nt)]
      exact e
    · rw [upd_ne (Nat.ne_of_lt htl), upd_same]
end
end Cy
end

section
set_option maxHeartbeats 4000000
/-! Rules of our own, sixth part: {k: v for target in iter if ..}, k a tuple. -/
namespace Cy
open PySem PySem.Spec PyProof.Rows
open L2 hiding St
/-- a pair stored: the key tuple stands at b -/
theorem d_dictSetT {X : Cx} {pins : List (Addr × Obj)} {σ : L2.St} {H : Hp} {s : Shared} {E : Value → Shared → Prop} {D b : Addr} {kvs : List (List Key × V)} {k : List Key} {v : V} {u r : Value} {Q : Unit → Shared → Prop} (hu : X.A.units < cLine) (I : L2.Inv X pins σ H s)
    (hD : H D = some (.dT kvs)) (eb : H b = some (.tup (k.map kV))) (hz : kvs.length < sizeLine) (ry : RelV (.ref b) u) (rv : RelV v r) (h : ∀ s', L2.Inv X pins σ (upd H D (.dT (putK kvs k v))) s' → Q () s') : wpAny (model X.prog X.w) X.A (dictSet D u r) Q E s := by
  obtain rfl : u = Value.ref b := ry
  obtain ⟨z, hd, xs, rel, dd⟩ := dt_of I.hok hD
  have hl := length_putK kvs k v
  refine wpAny_dictSet_heap (hsz := by rw [← Paired.length rel]; exact z) (show (tupleKind (mixKind X.prog X.w)).room X.A from hu) (key_of I.hok eb) dd fun h' dd' hs => h _ ?_
  obtain ⟨q, es, ep, hq, h2, h3, h4, _, h5⟩ := dd'
  refine d_write I (by rw [hD]; trivial) hs ⟨q, hq⟩ ⟨by omega, hd, _, (rel.put k eb rv).keeps fun c ys ec => ?_, q, es, ep, hq, h2, h3, h4, h5⟩
  rw [upd_ne (ne_of ec hD (fun z => nomatch z))]
  exact ec
section
variable {X : Cx} {kx vx tg iter : Expr} {ifs : List Expr} {scope : Scope} {own : List (Str × Nat)} {pos : Pos} {wi : TI} {g : TG} {tt : TT} {tk tv : TE}
/-- one turn's end, and the whole -/
def tDcE (g : TG) (tt : TT) (tk tv : TE) (vs : List Nat) (D : Addr) (σ : L2.St) (x : V) (H : Hp) (Nx : Hp → Prop) : Prop := g x (wipe σ vs) H fun σ2 H2 => wipe σ2 vs = wipe σ vs ∧ tt σ2 H2 fun b H3 =>
  if b = true then tk σ2 H3 fun y H4 => tv σ2 H4 fun z H5 => ∃ kvs k b, y = .ref b ∧ H5 b = some (.tup (k.map kV)) ∧ H5 D = some (.dT kvs) ∧ kvs.length < sizeLine ∧ Nx (upd H5 D (.dT (putK kvs k z))) else Nx H3
def tDcT (wi : TI) (g : TG) (tt : TT) (tk tv : TE) (vs : List Nat) : TE := fun σ H Q => wi σ H fun J H1 => ∀ D, H1 D = none → ∃ W : Nat → Nat → Hp → Prop, (∃ m, W 0 m (upd H1 D (.dT []))) ∧ ∀ i m H, W i m H →
  (J.stop i H ∧ Q (.ref D) H) ∨ (J.go i H ∧ ∃ Nx : Hp → Prop, (∀ H', Nx H' → ∃ m', m' < m ∧ W (i + 1) m' H') ∧ ∀ x H', J.yld i H x H' → tDcE g tt tk tv vs D σ x H' Nx)
theorem pe_dcT (hu : X.A.units < cLine) (hc : X.calm = true) (hN : X.N.Nodup) (hi : PI X tg iter wi) (ok : BlkOk X.N X.env.scope scope own)
    (hg : ∀ (s : Shared) (H : Hp) (C : Addr) (cl : List (Str × Addr)) (fp : List Addr), PG (X.blk s H scope (compEnvC scope cl C X.env) fp) tg g) (ht : ∀ (s : Shared) (H : Hp) (C : Addr) (cl : List (Str × Addr)) (fp : List Addr), PTs (X.blk s H scope (compEnvC scope cl C X.env) fp) ifs tt)
    (hk : ∀ (s : Shared) (H : Hp) (C : Addr) (cl : List (Str × Addr)) (fp : List Addr), PE (X.blk s H scope (compEnvC scope cl C X.env) fp) kx tk) (he : ∀ (s : Shared) (H : Hp) (C : Addr) (cl : List (Str × Addr)) (fp : List Addr), PE (X.blk s H scope (compEnvC scope cl C X.env) fp) vx tv)
    (hs : ∀ x, foldedSetIterable iter X.env x = pure x := by intro _; rfl) : PE X (.DictComp kx vx [⟨tg, iter, ifs, 0⟩] scope pos) (tDcT wi g tt tk tv (own.map (·.2))) := by
  generalize hvs : own.map (·.2) = vs
  refine ⟨fun pins s σ H Q I h => ?_⟩
  rw [arm_eval_DictComp]
  have hfree : ∀ y ∈ scope.names, y.2 = .free → ∃ c, X.env.cells.lookup y.1 = some c := fun y hy e => I.ok.has _ (ok.free y hy e)
  refine wpAny_comprehension_free (use := none) rfl hs (closure_ok hfree) ok.kind (fun y hy e => by rw [ok.uniq y hy, e]) (thn (hi.run pins s σ H _ I h) fun xv s1 hx => thn hx ?_)
  rintro itv s2 ⟨it, fp, tn, J, H2, rfl, I2, T, st2, f2, q⟩
  refine wpAny_newObj_type (newEnv_comp ?_)
  -- the new dict at D
  generalize hD : s2.heap.objs.size = D
  have hDn : H2 D = none := I2.hok.fresh (Nat.le_of_eq hD)
  obtain ⟨W, ⟨m0, w0⟩, turn⟩ := q D hDn
  generalize hob : s2.heap.push { cls := .type "dict", data := .dict #[] } = hp3
  have I3 : L2.Inv X pins σ (upd H2 D (.dT [])) { s2 with heap := hp3 } := by
    rw [← hob]
    refine I2.laid (t' := s2.toks) (fun b o e => Heap.get?_push_of_some _ e) (Nat.le_of_eq hD) ?_
    rw [← hD]
    exact dt_empty s2.heap I2.big
  have up3 : ∀ b o, s2.heap.get? b = some o → hp3.get? b = some o := fun b o e => by rw [← hob]; exact Heap.get?_push_of_some _ e
  have sz3 : hp3.objs.size = s2.heap.objs.size + 1 := by rw [← hob, Heap.size_push]
  have lt2 : ∀ b ∈ fp, b < s2.heap.objs.size := fun b hb => let ⟨_, e, _⟩ := T.obj _ _ st2 b hb; Heap.lt_size e
  have f3 : ∀ b ∈ fp, FpOk X pins (upd H2 D (.dT [])) b ∧ b < ({ s2 with heap := hp3 } : Shared).heap.objs.size := fun b hb =>
    ⟨⟨by rw [upd_ne (by rw [← hD]; exact Nat.ne_of_lt (lt2 b hb))]; exact (f2 b hb).1, (f2 b hb).2⟩, by show b < hp3.objs.size; rw [sz3]; exact Nat.lt_succ_of_lt (lt2 b hb)⟩
  have st3 : tn 0 hp3 := T.keep _ _ _ st2 fun b _ o e => up3 b o e
  generalize hs3 : ({ s2 with heap := hp3 } : Shared) = s3 at I3 f3
  have eh3 : s3.heap = hp3 := by rw [← hs3]
  have I4 := block_start I3 ok hN f3
  generalize hH3 : upd H2 D (.dT []) = H3 at I3 I4 w0 f3
  generalize hcl : cellsFrom (s3.heap.objs.size + 1) scope.names (cloFrom X.env.cells scope.names []) = cl at I4
  have pg := hg s3 H3 s3.heap.objs.size cl fp
  have pt := ht s3 H3 s3.heap.objs.size cl fp
  have pk := hk s3 H3 s3.heap.objs.size cl fp
  have pe := he s3 H3 s3.heap.objs.size cl fp
  generalize hce : compEnvC scope cl s3.heap.objs.size X.env = ce at I4 pg pt pk pe
  have cL : ce.locals = s3.heap.objs.size := by subst hce; rfl
  generalize hs4 : ({ s3 with heap := pushCells (s3.heap.push { cls := .type "dict", data := .dict #[] }) scope.names } : Shared) = s4 at I4
  have st4 : tn 0 s4.heap := T.keep _ _ _ st3 fun b _ o e => by rw [← hs4]; exact pushCells_keeps _ _ _ _ (Heap.get?_push_of_some _ (by rw [eh3]; exact e))
  have stat : ∀ {σ' : L2.St} {H' : Hp} {s' : Shared}, L2.Inv (X.blk s3 H3 scope ce fp) [] σ' H' s' → (∀ b ∈ fp, H' b = none) → ∀ b ∈ fp, FpOk (X.blk s3 H3 scope ce fp) [] H' b := fun I' hn b hb =>
    ⟨hn b hb, (I'.ok.exf b hb).1, I'.ok.exfs b hb, .inl hb, fun x c e => (I'.ok.exf b hb).2 x c e, fun p hp => nomatch (show p ∈ ([] : List (Addr × Obj)) from hp)⟩
  have loop : codeAny (model X.prog X.w) X.A (.compLoop (.DictComp kx vx [⟨tg, iter, ifs, 0⟩] scope pos) 0 (.ref it) (.ref D) ce) (compPost (model X.prog X.w) X.A X.xe none (EP X pins σ Q) (.ref D) s3.heap.objs.size) s4 := by
    refine compLoop_anyD (fun n s' => ∃ i H', L2.Inv (X.blk s3 H3 scope ce fp) [] (wipe σ vs) H' s' ∧ tn i s'.heap ∧ (∀ b ∈ fp, H' b = none) ∧ W i n H') ?_ m0 ⟨0, H3, by rw [← hvs]; exact I4, st4, fun b hb => (f3 b hb).1.1, w0⟩
    rintro n s5 ⟨i, H5, I5, st5, n5, w5⟩
    rcases turn i n H5 w5 with ⟨stop, qq⟩ | ⟨go, Nx, hNx, step⟩
    · refine thnF (T.done (X.blk s3 H3 scope ce fp) rfl rfl rfl hc i [] s5 _ H5 (fun _ _ => False) I5 (stat I5 n5) st5 stop) ?_
      rintro r s6 ⟨rfl, I6⟩
      have I7 : L2.Inv X pins σ H5 s6 := I3.call' (ch := fp) I6.os I6.base I6.hok I6.bare fun b hb => ⟨(f3 b hb).1.2.2.2.1, (f3 b hb).1.2.1, (f3 b hb).1.2.2.2.2.1, (f3 b hb).1.2.2.2.2.2⟩
      have nC : H5 s3.heap.objs.size = none := by rw [← cL]; exact I6.free
      obtain ⟨m, hn, _⟩ := I6.loc
      have hn : s6.heap.Ns s3.heap.objs.size m := by rw [← cL]; exact hn
      obtain ⟨f0, f1, f2', f3', f4, f5⟩ := I3.fpOk (Nat.le_refl _) nC
      exact ⟨m, hn, fun h'' sb => ⟨.ref D, H5, I7.turned (t' := s6.toks) (fun b o hb e => (sb.2 b hb).trans e) f0 f1 f3' f4 f5, rfl, qq⟩⟩
    · refine thnF (T.item (X.blk s3 H3 scope ce fp) rfl rfl rfl hc i [] s5 _ H5 (fun _ _ => False) I5 (stat I5 n5) st5 go) ?_
      rintro r s6 ⟨u, rfl, h6⟩
      refine thnF h6 ?_
      rintro _ s7 ⟨x, H7, I7, r7, y7, st7, n7⟩
      have I7' := I7.pinned (stat I7 n7) (T.obj _ _ st7)
      refine thnF (pg.run _ s7 _ H7 x u _ I7' r7 (step x H7 y7)) ?_
      rintro _ s8 ⟨σ8, H8, I8, hw8, q8⟩
      refine thnF (pt.run _ s8 σ8 H8 _ I8 q8) ?_
      rintro b s9 ⟨H9, I9, q9⟩
      have fin : ∀ {s' : Shared} {H' : Hp}, L2.Inv (X.blk s3 H3 scope ce fp) ([] ++ pinsAt fp s7.heap) σ8 H' s' → Nx H' → ∃ m, m < n ∧ ∃ i H', L2.Inv (X.blk s3 H3 scope ce fp) [] (wipe σ vs) H' s' ∧ tn i s'.heap ∧ (∀ b ∈ fp, H' b = none) ∧ W i m H' := by
        intro s' H' I' nx
        obtain ⟨m', hm, w'⟩ := hNx H' nx
        have pin' : ∀ b ∈ fp, ∀ o, s7.heap.get? b = some o → s'.heap.get? b = some o ∧ H' b = none := fun b hb o e =>
          have z := I'.pin (b, o) (List.mem_append_right _ (List.mem_append_right _ (mem_pinsAt hb e)))
          ⟨z.1, z.2.1⟩
        refine ⟨m', hm, i + 1, H', (I'.unpinned (pins := [])).weak (by rw [← hw8, wipe_length]) (fun j v e => ?_), T.keep _ _ _ st7 fun b hb o e => (pin' b hb o e).1, fun b hb => ?_, w'⟩
        · rw [← hw8] at e
          exact (wipe_some e).1
        · obtain ⟨o, e, _⟩ := T.obj _ _ st7 b hb
          exact (pin' b hb o e).2
      cases b with
      | false =>
        simp only [Bool.false_eq_true, if_false] at q9 ⊢
        exact fin I9 q9
      | true =>
        simp only [if_true] at q9 ⊢
        refine thnF (pk.run _ s9 σ8 H9 _ I9 q9) ?_
        rintro z s10 ⟨yk, H10, I10, r10, q10⟩
        refine thnF (pe.run _ s10 σ8 H10 _ I10 q10) ?_
        rintro z2 s11 ⟨yv, H11, I11, r11, kvs, k, b, rfl, eb, hD11, hz11, nx⟩
        exact d_dictSetT (X := X.blk s3 H3 scope ce fp) hu I11 hD11 eb hz11 r10 r11 fun s12 I12 => fin I12 nx
  have start := codeAny_compStart_dict loop (T.self X.A 0 _ _ _ st4 loop)
  subst hce hcl hs4 hs3 hob
  exact start
end
end Cy
end

section
set_option maxHeartbeats 4000000
/-! Own tools: defs by name, dicts with texts as keys, owned objects, comprehensions over what stays the same. -/
namespace Cy
open PySem PySem.Spec PyProof.Rows
open L2 hiding St
/-! ### defs by name, methods, classes -/
structure Cal (P : Program) (w : World) (K : PySem.W.Frag) (mg : Str → Option Value) (base : Heap) (k : Nat) (x : Str) (sp : Sp) : Prop where
  ex : ∃ (f : Addr) (fd : FuncData) (ps : List Str), FnOk P w K mg base CX0 k f fd ps sp ∧ mg x = some (.ref f) ∧ PySem.W.keepIn K (.ref f) = true ∧ Binds K fd ps []
structure Met (P : Program) (w : World) (K : PySem.W.Frag) (mg : Str → Option Value) (base : Heap) (k : Nat) (C : Addr) (m : Str) (sp : Sp) : Prop where
  ex : ∃ (f : Addr) (fd : FuncData) (ps : List Str), Cls K C ∧ Meth K C m f ∧ FnOk P w K mg base CX0 k f fd ps sp ∧ Binds K fd ps []
structure Mak (P : Program) (w : World) (K : PySem.W.Frag) (mg : Str → Option Value) (base : Heap) (k : Nat) (x : Str) (C : Addr) (sp : Sp) : Prop where
  ex : ∃ (f : Addr) (fd : FuncData) (ps : List Str), Mk K C f ∧ FnOk P w K mg base CX0 k f fd ps sp ∧ mg x = some (.ref C) ∧ Binds K fd ps []
section
variable {P : Program} {w : World} {K : PySem.W.Frag} {mg : Str → Option Value} {base : Heap} {x qual : Str} {params : Arguments} {body : List Stmt} {scope : Scope} {f C : Addr} {N ps : List Str} {k : Nat} {sp : Sp}
/-- what a body has to show -/
abbrev Body (P : Program) (w : World) (K : PySem.W.Frag) (mg : Str → Option Value) (base : Heap) (N : List Str) (qual : Str) (scope : Scope) (body : List Stmt) (f : Addr) (k : Nat) (sp : Sp) : Prop :=
  ∀ (cdv : Value) (A : Around) (outer : List Env) (s : Shared) (H : Hp) (vs : List V) (Q : VK) (E : XK), Room k (A.deeper (envOfC qual scope s.heap.objs.size f cdv)) → sp vs H Q E →
      ∃ t, PSs (cxOf CX0 P w K mg base N qual scope f cdv A outer s H E).nox body t ∧ t { nx := fun _ H' => Q .non H', rt := Q } (start N vs) H
theorem fn_ok {z : FuncData} (F : FunD K x qual params body scope [] [] f z) (S : FnScope N ps scope) (len : ∀ vs H Q E, sp vs H Q E → vs.length = ps.length) (h : Body P w K mg base N qual scope body f k sp) : FnOk P w K mg base CX0 (k + 1) f z ps sp :=
  F.ok S len fun cdv A outer s H vs Q E hr hs => let ⟨t, a, b⟩ := h cdv A outer s H vs Q E hr hs; ⟨t, PSs.nox a, b⟩
theorem cal_of (F : ∃ z, FunD K x qual params body scope [] [] f z) (g : mg x = some (.ref f)) (S : FnScope N ps scope) (b : ∀ z, FunD K x qual params body scope [] [] f z → Binds K z ps []) (len : ∀ vs H Q E, sp vs H Q E → vs.length = ps.length)
    (h : Body P w K mg base N qual scope body f k sp) : Cal P w K mg base (k + 1) x sp :=
  let ⟨z, F⟩ := F
  ⟨f, z, ps, fn_ok F S len h, g, F.kp, b z F⟩
theorem met_of (F : ∃ z, FunD K x qual params body scope [] [] f z) (c : Cls K C) (m : Meth K C x f) (S : FnScope N ps scope) (b : ∀ z, FunD K x qual params body scope [] [] f z → Binds K z ps []) (len : ∀ vs H Q E, sp vs H Q E → vs.length = ps.length)
    (h : Body P w K mg base N qual scope body f k sp) : Met P w K mg base (k + 1) C x sp :=
  let ⟨z, F⟩ := F
  ⟨f, z, ps, c, m, fn_ok F S len h, b z F⟩
theorem mak_of {y : Str} (F : ∃ z, FunD K x qual params body scope [] [] f z) (m : Mk K C f) (g : mg y = some (.ref C)) (S : FnScope N ps scope) (b : ∀ z, FunD K x qual params body scope [] [] f z → Binds K z ps []) (len : ∀ vs H Q E, sp vs H Q E → vs.length = ps.length)
    (h : Body P w K mg base N qual scope body f k sp) : Mak P w K mg base (k + 1) y C sp :=
  let ⟨z, F⟩ := F
  ⟨f, z, ps, m, fn_ok F S len h, g, b z F⟩
end
section
variable {X : Cx} {k j : Nat} {C : Addr} {x m : Str} {sp : Sp} {p pos apos : Pos} {e o : Expr} {es : List Expr} {ta : TE} {t : TA}
theorem pe_c (c : Cal X.prog X.w X.K X.mg X.base k x sp) (hr : Room j X.A) (hk : k ≤ j) (hg : Gl X x) (ha : PA X (e :: es) t)
    (hdb : (x == ("__debug__" : Str)) = false := by decide) (he : starEach (e :: es) X.env = (false, eval e X.env) :: starEach es X.env := by rfl) (hpl : (backTo pos (starEach es X.env)).any (·.1) = false := by rfl) :
    PE X (.Call (.Name x p) (e :: es) [] pos) (tCall sp [] E0 t) := by
  obtain ⟨f, fd, ps, F, hm, kp, b⟩ := c.ex
  exact pe_call F (hr.mono hk) hg hm kp b .nil pass0 ha hdb he hpl
theorem pe_mk0 (c : Mak X.prog X.w X.K X.mg X.base k x C sp) (hr : Room j X.A) (hk : k + 1 ≤ j) (hg : Gl X x)
    (hdb : (x == ("__debug__" : Str)) = false := by decide) :
    PE X (.Call (.Name x p) [] [] pos) (tMake C sp [] E0 tNil) := by
  obtain ⟨f, fd, ps, M, F, hm, b⟩ := c.ex
  exact pe_make0 M F (hr.mono hk) hg hm b .nil pass0 hdb
theorem pe_mk (c : Mak X.prog X.w X.K X.mg X.base k x C sp) (hr : Room j X.A) (hk : k + 1 ≤ j) (hg : Gl X x) (ha : PA X (e :: es) t)
    (hdb : (x == ("__debug__" : Str)) = false := by decide) (he : starEach (e :: es) X.env = (false, eval e X.env) :: starEach es X.env := by rfl) (hpl : (backTo pos (starEach es X.env)).any (·.1) = false := by rfl) :
    PE X (.Call (.Name x p) (e :: es) [] pos) (tMake C sp [] E0 t) := by
  obtain ⟨f, fd, ps, M, F, hm, b⟩ := c.ex
  exact pe_make M F (hr.mono hk) hg hm b .nil pass0 ha hdb he hpl
theorem pe_mt {pl : Sem Bool} (c : Met X.prog X.w X.K X.mg X.base k C m sp) (hr : Room j X.A) (hk : k ≤ j) (he : PE X o ta) (ha : PA X (e :: es) t)
    (hst : starEach (e :: es) X.env = (false, eval e X.env) :: starEach es X.env := by rfl) (hpl : (backTo pos (starEach es X.env)).any (·.1) = false := by rfl)
    (ht : eval (.Call (.Attribute o m apos) (e :: es) [] pos) X.env = (do
      let ov ← eval o X.env
      standAt apos.atName
      let (f, first) ← holding [ov] (getMethod ov m pl)
      callWith pos f first (backTo pos (starEach (e :: es) X.env)) (backToKw pos (keywordEach [] X.env))) := by rfl) :
    PE X (.Call (.Attribute o m apos) (e :: es) [] pos) (tMeth C m sp [] E0 ta t) := by
  obtain ⟨f, fd, ps, hc, hm, F, b⟩ := c.ex
  exact pe_meth (pl := pl) he hc hm F (hr.mono hk) b .nil pass0 ha hst hpl ht
theorem pe_mt0 {pl : Sem Bool} (c : Met X.prog X.w X.K X.mg X.base k C m sp) (hr : Room j X.A) (hk : k ≤ j) (he : PE X o ta)
    (ht : eval (.Call (.Attribute o m apos) [] [] pos) X.env = (do
      let ov ← eval o X.env
      standAt apos.atName
      let (f, first) ← holding [ov] (getMethod ov m pl)
      callWith pos f first (backTo pos (starEach [] X.env)) (backToKw pos (keywordEach [] X.env))) := by rfl) :
    PE X (.Call (.Attribute o m apos) [] [] pos) (tMeth C m sp [] E0 ta tNil) := by
  obtain ⟨f, fd, ps, hc, hm, F, b⟩ := c.ex
  exact pe_meth0 (pl := pl) he hc hm F (hr.mono hk) b .nil pass0 ht
theorem pe_gc {v : V} (hg : Gl X x) (h : ∃ u, X.mg x = some u ∧ RelV v u) (hd : (x == ("__debug__" : Str)) = false := by decide) : PE X (.Name x pos) (tC v) := by
  obtain ⟨u, hm, r⟩ := h
  exact pe_glob hg hm r hd
theorem gcS {mg : Str → Option Value} {y : Str} (h : ∃ t, mg x = some (.str y t)) : ∃ u, mg x = some u ∧ RelV (.str y) u := let ⟨t, e⟩ := h; ⟨_, e, t, rfl⟩
theorem gcI {mg : Str → Option Value} {y : Int} (h : ∃ t, mg x = some (.int y t)) : ∃ u, mg x = some u ∧ RelV (.int y) u := let ⟨t, e⟩ := h; ⟨_, e, t, rfl⟩
end
/-! ### dicts whose keys are texts -/
def kvS (l : List Str) (f : Str → V) : List (Key × V) := l.map fun n => (.inr n, f n)
theorem kvS_len {l : List Str} {f : Str → V} : (kvS l f).length = l.length := List.length_map _
theorem kvS_congr {l : List Str} {f g : Str → V} (h : ∀ n ∈ l, f n = g n) : kvS l f = kvS l g := List.map_congr_left fun n hn => by rw [h n hn]
theorem kvS_keys {l : List Str} {f : Str → V} : (kvS l f).map (·.1) = l.map Sum.inr := by simp [kvS]
theorem kvS_kV {l : List Str} {f : Str → V} : (kvS l f).map (fun kv => kV kv.1) = l.map V.str := by simp [kvS, kV]
theorem kvS_app {l m : List Str} {f : Str → V} : kvS (l ++ m) f = kvS l f ++ kvS m f := List.map_append
theorem kvS_at {l : List Str} {f : Str → V} {i : Nat} : (kvS l f)[i]? = (l[i]?).map fun n => (.inr n, f n) := List.getElem?_map
theorem kvS_val {f : Str → V} {n : Str} : ∀ {l : List Str}, n ∈ l → valV (kvS l f) (.inr n) = some (f n)
  | m :: l, h => by
    by_cases e : m = n
    · subst e
      exact valV_pos rfl
    · rw [show kvS (m :: l) f = (.inr m, f m) :: kvS l f from rfl, valV_neg (fun z => e (Sum.inr.inj z))]
      exact kvS_val ((List.mem_cons.mp h).resolve_left fun z => e z.symm)
theorem kvS_no {f : Str → V} {n : Str} : ∀ {l : List Str}, n ∉ l → valV (kvS l f) (.inr n) = none
  | [], _ => rfl
  | m :: l, h => by
    rw [show kvS (m :: l) f = (.inr m, f m) :: kvS l f from rfl, valV_neg (fun z => h (by rw [← Sum.inr.inj z]; exact List.mem_cons_self))]
    exact kvS_no fun z => h (List.mem_cons_of_mem _ z)
def addS (l : List Str) (n : Str) : List Str := if n ∈ l then l else l ++ [n]
theorem mem_addS {l : List Str} {n m : Str} : m ∈ addS l n ↔ m ∈ l ∨ m = n := by
  unfold addS
  by_cases h : n ∈ l
  · rw [if_pos h]
    exact ⟨.inl, fun z => z.elim id fun e => by rw [e]; exact h⟩
  · rw [if_neg h]
    simp
theorem nodup_addS {l : List Str} {n : Str} (h : l.Nodup) : (addS l n).Nodup := by
  unfold addS
  by_cases e : n ∈ l
  · rw [if_pos e]
    exact h
  · rw [if_neg e]
    exact List.nodup_append.mpr ⟨h, by simp, fun a ha b hb q => e (by rw [← List.mem_singleton.mp hb, ← q]; exact ha)⟩
def setS {α : Type} (f : Str → α) (n : Str) (v : α) : Str → α := fun m => if m = n then v else f m
theorem setS_same {α : Type} {f : Str → α} {n : Str} {v : α} : setS f n v n = v := if_pos rfl
theorem setS_ne {α : Type} {f : Str → α} {n m : Str} {v : α} (h : m ≠ n) : setS f n v m = f m := if_neg h
theorem kvS_put {l : List Str} {f : Str → V} {n : Str} {v : V} : putK (kvS l f) (.inr n) v = kvS (addS l n) (setS f n v) := by
  unfold addS
  by_cases h : n ∈ l
  · rw [if_pos h]
    unfold putK
    rw [valV_any, kvS_val h]
    show (kvS l f).map _ = _
    unfold kvS
    rw [List.map_map]
    refine List.map_congr_left fun m hm => ?_
    show (if (Sum.inr m : Key) = .inr n then ((Sum.inr m : Key), v) else (.inr m, f m)) = (.inr m, setS f n v m)
    by_cases e : m = n
    · rw [if_pos (congrArg Sum.inr e), e, setS_same]
    · rw [if_neg (fun z => e (Sum.inr.inj z)), setS_ne e]
  · rw [if_neg h, putK_new v (kvS_no h), kvS_app]
    congr 1
    · exact kvS_congr fun m hm => (setS_ne fun e => h (by rw [← e]; exact hm)).symm
    · show _ = [((.inr n : Key), setS f n v n)]
      rw [setS_same]
theorem kvS_put_in {l : List Str} {f : Str → V} {n : Str} {v : V} (h : n ∈ l) : putK (kvS l f) (.inr n) v = kvS l (setS f n v) := by
  rw [kvS_put]
  unfold addS
  rw [if_pos h]
theorem dgY {H : Hp} {a : Addr} {l : List Str} {f : Str → V} {n : Str} (h : Rd H a (.dK (kvS l f))) (hn : n ∈ l) : DGet H a (.str n) (some (f n)) := .inl ⟨_, .inr n, h, rfl, (kvS_val hn).symm⟩
theorem dgN {H : Hp} {a : Addr} {l : List Str} {f : Str → V} {n : Str} (h : Rd H a (.dK (kvS l f))) (hn : n ∉ l) : DGet H a (.str n) none := .inl ⟨_, .inr n, h, rfl, (kvS_no hn).symm⟩
theorem dgS {H : Hp} {a : Addr} {l : List Str} {f : Str → V} {n : Str} (h : Rd H a (.dK (kvS l f))) : DGet H a (.str n) (if n ∈ l then some (f n) else none) := by
  by_cases e : n ∈ l
  · rw [if_pos e]
    exact dgY h e
  · rw [if_neg e]
    exact dgN h e
/-! ### heaps -/
theorem sameNew {H : Hp} {p : Addr} {o : HO} (h : H p = none) : Same H (upd H p o) := fun b c e => by
  rw [upd_ne fun z => by rw [z, h] at e; cases e]
  exact e
theorem sameTo {H H' : Hp} {p : Addr} {o : HO} (s : Same H H') (h : H p = none) : Same H (upd H' p o) := fun b c e => by
  rw [upd_ne fun z => by rw [z, h] at e; cases e]
  exact s b c e
theorem ne_tup {H : Hp} {a b : Addr} {o : HO} {xs : List V} (h : H a = some o) (hb : H b = some (.tup xs)) (n : ∀ xs, o ≠ .tup xs) : b ≠ a := fun e => by
  rw [e, h] at hb
  exact n xs (Option.some.inj hb)
/-- what was locked is open again -/
theorem unlock {H H' : Hp} {d : Addr} {od : Obj} {u : HO} (h : H d = some u) (s : Same (upd H d (.frz od u)) H') : H' d = some (.frz od u) ∧ Same H (upd H' d u) := by
  refine ⟨s d _ upd_same, fun b o e => ?_⟩
  by_cases c : b = d
  · subst c
    rw [upd_same]
    rw [h] at e
    exact e
  · rw [upd_ne c]
    exact s b o (by rw [upd_ne c]; exact e)
theorem rdSame {H H' : Hp} {a : Addr} {u : HO} (s : Same H H') (h : Rd H a u) : Rd H' a u := h.elim (fun h => .inl (s _ _ h)) fun ⟨o, h⟩ => .inr ⟨o, s _ _ h⟩
/-! ### owned objects: each role has one address -/
section
variable {R : Type}
structure At (H : Hp) (A : R → Addr) (ob : R → Option HO) : Prop where
  is : ∀ l o, ob l = some o → H (A l) = some o
  inj : ∀ l l' o o', ob l = some o → ob l' = some o' → A l = A l' → l = l'
  nt : ∀ l xs, ob l ≠ some (.tup xs)
/-- its addresses -/
def Fp (A : R → Addr) (ob : R → Option HO) (b : Addr) : Prop := ∃ l o, ob l = some o ∧ A l = b
/-- what a change from F to F' keeps -/
structure Fr (F F' : Addr → Prop) (H H' : Hp) : Prop where
  keep : ∀ b o, H b = some o → ¬ F b → H' b = some o
  new : ∀ b, F' b → F b ∨ H b = none
theorem Fr.of_same {F F' : Addr → Prop} {H H' : Hp} (s : Same H H') (h : ∀ b, F' b → F b) : Fr F F' H H' := ⟨fun b o e _ => s b o e, fun b z => .inl (h b z)⟩
theorem Fr.trans {F F1 F2 : Addr → Prop} {H H1 H2 : Hp} (a : Fr F F1 H H1) (b : Fr F1 F2 H1 H2) : Fr F F2 H H2 := by
  refine ⟨fun c o e n => b.keep c o (a.keep c o e n) fun z => ?_, fun c z => ?_⟩
  · rcases a.new c z with q | q
    · exact n q
    · rw [q] at e; cases e
  · rcases b.new c z with q | q
    · exact a.new c q
    · by_cases f : F c
      · exact .inl f
      · refine .inr ?_
        cases e : H c with
        | none => rfl
        | some o =>
          rw [a.keep c o e f] at q
          cases q
/-- in a greater one -/
theorem Fr.up {F F' G G' : Addr → Prop} {H H' : Hp} (a : Fr F F' H H') (h : ∀ b, F b → G b) (h' : ∀ b, G' b → F' b ∨ G b) : Fr G G' H H' :=
  ⟨fun b o e n => a.keep b o e fun z => n (h b z), fun b z => (h' b z).elim (fun q => (a.new b q).imp (h b) id) .inl⟩
variable {H H' : Hp} {A A' : R → Addr} {ob ob' : R → Option HO}
theorem At.fp (a : At H A ob) {b : Addr} (h : Fp A ob b) : ∃ o, H b = some o ∧ ∀ xs, o ≠ .tup xs := by
  obtain ⟨l, o, e, rfl⟩ := h
  exact ⟨o, a.is l o e, fun xs z => a.nt l xs (z ▸ e)⟩
theorem At.same (a : At H A ob) (s : Same H H') : At H' A ob := ⟨fun l o e => s _ _ (a.is l o e), a.inj, a.nt⟩
theorem At.notup (a : At H A ob) {b : Addr} {xs : List V} (h : H b = some (.tup xs)) : ¬ Fp A ob b := fun z => by
  obtain ⟨o, e, n⟩ := a.fp z
  rw [h] at e
  exact n xs (Option.some.inj e).symm
theorem At.ne (a : At H A ob) {b : Addr} (h : ¬ Fp A ob b) {l : R} {o : HO} (e : ob l = some o) : A l ≠ b := fun z => h ⟨l, o, e, z⟩
theorem At.frame (a : At H A ob) {F F' : Addr → Prop} (f : Fr F F' H H') (d : ∀ b, Fp A ob b → ¬ F b) : At H' A ob :=
  ⟨fun l o e => f.keep _ _ (a.is l o e) (d _ ⟨l, o, e, rfl⟩), a.inj, a.nt⟩
theorem Fr.tup {F F' : Addr → Prop} (f : Fr F F' H H') (a : At H A ob) (hF : ∀ b, F b → Fp A ob b) {b : Addr} {xs : List V} (h : H b = some (.tup xs)) : H' b = some (.tup xs) := f.keep _ _ h fun z => a.notup h (hF _ z)
/-- one of them is stored to -/
theorem At.put (a : At H A ob) {l : R} {o o' : HO} (e : ob l = some o) (h : ob' l = some o') (hn : ∀ xs, o' ≠ .tup xs) (hk : ∀ m, m ≠ l → ob' m = ob m) : At (upd H (A l) o') A ob' := by
  have al : ∀ m q, ob' m = some q → ∃ q, ob m = some q := fun m q hq => by
    by_cases c : m = l
    · exact ⟨o, c ▸ e⟩
    · exact ⟨q, by rw [← hk m c]; exact hq⟩
  refine ⟨fun m q hq => ?_, fun m m' q q' hq hq' z => ?_, fun m xs z => ?_⟩
  · by_cases c : m = l
    · subst c
      rw [upd_same, ← h, hq]
    · have z := hq
      rw [hk m c] at z
      rw [upd_ne fun y => c (a.inj _ _ _ _ z e y)]
      exact a.is m q z
  · obtain ⟨_, h1⟩ := al m q hq
    obtain ⟨_, h2⟩ := al m' q' hq'
    exact a.inj _ _ _ _ h1 h2 z
  · by_cases c : m = l
    · subst c
      rw [h] at z
      exact hn xs (Option.some.inj z)
    · rw [hk m c] at z
      exact a.nt m xs z
theorem put_fr (a : At H A ob) {l : R} {o o' : HO} (e : ob l = some o) (hk : ∀ m q, ob' m = some q → ∃ q, ob m = some q) : Fr (Fp A ob) (Fp A ob') H (upd H (A l) o') := by
  refine ⟨fun b q z n => ?_, fun b ⟨m, q, z, y⟩ => .inl ?_⟩
  · rw [upd_ne fun y => n ⟨l, o, e, y.symm⟩]
    exact z
  · obtain ⟨q', z'⟩ := hk m q z
    exact ⟨m, q', z', y⟩
variable {S : Type}
/-- a part -/
theorem At.sub (a : At H A ob) (i : S → R) (hi : ∀ x y, i x = i y → x = y) : At H (fun x => A (i x)) (fun x => ob (i x)) :=
  ⟨fun l o e => a.is _ o e, fun l l' o o' e e' z => hi _ _ (a.inj _ _ _ _ e e' z), fun l xs => a.nt _ xs⟩
/-- a part was changed -/
theorem At.glue (a : At H A ob) (i : S → R) {A2 : S → Addr} {o2 : S → Option HO} (hi : ∀ x y, i x = i y → x = y) (b : At H' A2 o2) (f : Fr (Fp (fun x => A (i x)) (fun x => ob (i x))) (Fp A2 o2) H H')
    (h1 : ∀ x, A' (i x) = A2 x ∧ ob' (i x) = o2 x) (h2 : ∀ l, (∀ x, l ≠ i x) → A' l = A l ∧ ob' l = ob l) : At H' A' ob' ∧ Fr (Fp A ob) (Fp A' ob') H H' := by
  have alt : ∀ l, (∃ x, l = i x) ∨ ∀ x, l ≠ i x := fun l => by
    by_cases h : ∃ x, l = i x
    · exact .inl h
    · exact .inr fun x z => h ⟨x, z⟩
  have out : ∀ l o, ob l = some o → (∀ x, l ≠ i x) → ¬ Fp (fun x => A (i x)) (fun x => ob (i x)) (A l) := fun l o e n ⟨x, o', e', z⟩ => n x (a.inj _ _ _ _ e e' z.symm)
  have mix : ∀ l x o o', ob l = some o → (∀ x, l ≠ i x) → o2 x = some o' → A l ≠ A2 x := fun l x o o' e n e' z => by
    rcases f.new (A2 x) ⟨x, o', e', rfl⟩ with q | q
    · rw [← z] at q
      exact out l o e n q
    · rw [← z, a.is l o e] at q
      cases q
  refine ⟨⟨fun l o e => ?_, fun l l' o o' e e' z => ?_, fun l xs e => ?_⟩, ⟨fun c o e n => f.keep c o e fun ⟨x, o', e', z⟩ => n ⟨i x, o', e', z⟩, fun c ⟨l, o, e, z⟩ => ?_⟩⟩
  · rcases alt l with ⟨x, rfl⟩ | n
    · rw [(h1 x).1]
      exact b.is x o (by rw [← (h1 x).2]; exact e)
    · rw [(h2 l n).1]
      rw [(h2 l n).2] at e
      exact f.keep _ _ (a.is l o e) (out l o e n)
  · rcases alt l with ⟨x, rfl⟩ | n <;> rcases alt l' with ⟨y, rfl⟩ | n'
    · rw [(h1 x).1, (h1 y).1] at z
      rw [(h1 x).2] at e
      rw [(h1 y).2] at e'
      rw [b.inj _ _ _ _ e e' z]
    · rw [(h1 x).1, (h2 l' n').1] at z
      rw [(h1 x).2] at e
      rw [(h2 l' n').2] at e'
      exact absurd z.symm (mix l' x _ _ e' n' e)
    · rw [(h2 l n).1, (h1 y).1] at z
      rw [(h2 l n).2] at e
      rw [(h1 y).2] at e'
      exact absurd z (mix l y _ _ e n e')
    · rw [(h2 l n).1, (h2 l' n').1] at z
      rw [(h2 l n).2] at e
      rw [(h2 l' n').2] at e'
      exact a.inj _ _ _ _ e e' z
  · rcases alt l with ⟨x, rfl⟩ | n
    · rw [(h1 x).2] at e
      exact b.nt x xs e
    · rw [(h2 l n).2] at e
      exact a.nt l xs e
  · rcases alt l with ⟨x, rfl⟩ | n
    · rw [(h1 x).1] at z
      rw [(h1 x).2] at e
      rcases f.new c ⟨x, o, e, z⟩ with ⟨y, o', e', z'⟩ | q
      · exact .inl ⟨i y, o', e', z'⟩
      · exact .inr q
    · rw [(h2 l n).1] at z
      rw [(h2 l n).2] at e
      exact .inl ⟨l, o, e, z⟩
end
theorem ifT {c : Bool} {A B : Prop} (h : c = true) (a : A) : if c = true then A else B := by rw [if_pos h]; exact a
theorem ifN {c : Bool} {A B : Prop} (h : c = false) (b : B) : if c = true then A else B := by rw [if_neg (by rw [h]; decide)]; exact b
/-! ### comprehensions over what stays the same -/
section
variable {J : It} {n : Nat} {G : Hp → Prop} {Y : Nat → Hp → V → Hp → Prop}
/-- the values f i of the turns with p i -/
def picks {α : Type} (f : Nat → α) (p : Nat → Bool) (i : Nat) : List α := ((List.range i).filter p).map f
theorem picks_succ {α : Type} {f : Nat → α} {p : Nat → Bool} {i : Nat} : picks f p (i + 1) = if p i = true then picks f p i ++ [f i] else picks f p i := by
  unfold picks
  rw [List.range_succ, List.filter_append, List.map_append]
  cases e : p i <;> simp [e]
theorem picks_all {α : Type} {f : Nat → α} {n : Nat} : picks f (fun _ => true) n = (List.range n).map f := by
  unfold picks
  rw [List.filter_eq_self.mpr fun _ _ => rfl]
theorem picks_len {α : Type} {f : Nat → α} {p : Nat → Bool} {i : Nat} : (picks f p i).length ≤ i := by
  unfold picks
  rw [List.length_map]
  exact Nat.le_trans (List.length_filter_le _ _) (by simp)
theorem picks_map {α β : Type} {f : Nat → α} {g : α → β} {p : Nat → Bool} {i : Nat} : (picks f p i).map g = picks (fun j => g (f j)) p i := by
  unfold picks
  rw [List.map_map]
  rfl
theorem picks_go {α β : Type} {f : Nat → β} {p : Nat → Bool} {g : α → β} {q : α → Bool} {l : List α} (h : ∀ i x, l[i]? = some x → f i = g x ∧ p i = q x) : ∀ i, i ≤ l.length → picks f p i = ((l.take i).filter q).map g
  | 0, _ => rfl
  | i + 1, hi => by
    obtain ⟨e1, e2⟩ := h i l[i] (by simp)
    rw [picks_succ, picks_go h i (by omega), List.take_succ, List.getElem?_eq_getElem (by omega), List.filter_append, List.map_append, e1, e2]
    cases e : q l[i] <;> simp [e]
theorem picks_list {α β : Type} {l : List α} {f : Nat → β} {p : Nat → Bool} {g : α → β} {q : α → Bool} (h : ∀ i x, l[i]? = some x → f i = g x ∧ p i = q x) : picks f p l.length = (l.filter q).map g := by
  rw [picks_go h _ (Nat.le_refl _), List.take_length]
/-- behind i turns of such a comprehension -/
structure Lc (H1 : Hp) (D : Addr) (f : Nat → V) (p : Nat → Bool) (i : Nat) (H : Hp) : Prop where
  same : Same H1 H
  at_ : H D = some (.lst (picks f p i))
  free : H1 D = none
  small : i ≤ 10000
theorem Lc.yes {H1 H H4 : Hp} {D : Addr} {f : Nat → V} {p : Nat → Bool} {i : Nat} {y : V} (q : Lc H1 D f p i H) (hi : i < 10000) (e : p i = true) (ey : y = f i) (s : Same H H4) :
    ∃ acc, H4 D = some (.lst acc) ∧ acc.length < sizeLine ∧ Lc H1 D f p (i + 1) (upd H4 D (.lst (acc ++ [y]))) := by
  refine ⟨_, s _ _ q.at_, ?_, sameTo (q.same.trans s) q.free, ?_, q.free, hi⟩
  · have z : (picks f p i).length ≤ i := picks_len
    rw [sizeLine_eq]
    omega
  · rw [upd_same, picks_succ, if_pos e, ey]
theorem Lc.no {H1 H H3 : Hp} {D : Addr} {f : Nat → V} {p : Nat → Bool} {i : Nat} (q : Lc H1 D f p i H) (hi : i < 10000) (e : p i = false) (s : Same H H3) : Lc H1 D f p (i + 1) H3 :=
  ⟨q.same.trans s, by rw [s _ _ q.at_, picks_succ, e]; rfl, q.free, hi⟩
theorem lc_same (w : Walk J n G Y) {g : TG} {tt : TT} {te : TE} {vs : List Nat} {σ : L2.St} {H1 : Hp} {D : Addr} {Qd : Hp → Prop} (hD : H1 D = none) (hG : ∀ H, Same H1 H → G H) (f : Nat → V) (p : Nat → Bool)
    (hs : ∀ i x H H', i < n → Lc H1 D f p i H → Y i H x H' → g x (wipe σ vs) H' fun σ2 H2 => wipe σ2 vs = wipe σ vs ∧ tt σ2 H2 fun b H3 =>
      if b = true then te σ2 H3 fun y H4 => ∃ acc, H4 D = some (.lst acc) ∧ acc.length < sizeLine ∧ Lc H1 D f p (i + 1) (upd H4 D (.lst (acc ++ [y]))) else Lc H1 D f p (i + 1) H3)
    (hd : ∀ H, Same H1 H → H D = some (.lst (picks f p n)) → Qd H) :
    ∃ W : Nat → Nat → Hp → Prop, (∃ m, W 0 m (upd H1 D (.lst []))) ∧ ∀ i m H, W i m H →
      (J.stop i H ∧ Qd H) ∨ (J.go i H ∧ ∃ Nx : Hp → Prop, (∀ H', Nx H' → ∃ m', m' < m ∧ W (i + 1) m' H') ∧ ∀ x H', J.yld i H x H' → g x (wipe σ vs) H' fun σ2 H2 => wipe σ2 vs = wipe σ vs ∧ tt σ2 H2 fun b H3 =>
        if b = true then te σ2 H3 fun y H4 => ∃ acc, H4 D = some (.lst acc) ∧ acc.length < sizeLine ∧ Nx (upd H4 D (.lst (acc ++ [y]))) else Nx H3) :=
  lc_it w (Pv := fun i H => Lc H1 D f p i H) ⟨sameNew hD, upd_same, hD, Nat.zero_le _⟩ (fun i H _ q => hG H q.same) (fun i x H H' hi q y => hs i x H H' hi q y) fun H q => hd H q.same q.at_
end
end Cy
end

section
set_option maxHeartbeats 4000000
/-! Own tools, second part: loops by turns, dict comprehensions, several locks, reach. -/
namespace Cy
open PySem PySem.Spec PyProof.Rows
open L2 hiding St
/-! ### readings that name the written part by its own name -/
section
variable {X : Cx} (K : PySem.W.Frag) {e : Expr} {ta : TE} {f : Str} {pos : Pos}
theorem pe_fldK (he : PE X e ta) (hK : X.K = K := by rfl) (hb : attributeBase e f X.env (eval e X.env) = eval e X.env := by rfl) : PE X (.Attribute e f pos) (tFld K ta f) := by
  subst hK
  exact pe_fld he hb
theorem ix_tupK (hK : X.K = K := by rfl) : IxR X (rIxT K) := by
  subst hK
  exact ix_tup
theorem ix_listK (hK : X.K = K := by rfl) : IxR X (rIxL K) := by
  subst hK
  exact ix_list
theorem op_in_seqK (hK : X.K = K := by rfl) : OpR X (compareOp .In) (rIn K false) := by
  subst hK
  exact op_in_seq
theorem op_notIn_seqK (hK : X.K = K := by rfl) : OpR X (compareOp .NotIn) (rIn K true) := by
  subst hK
  exact op_notIn_seq
end
/-! ### loops of comprehensions -/
section
variable {J : It} {n : Nat} {G : Hp → Prop} {Y : Nat → Hp → V → Hp → Prop}
theorem gen_it (w : Walk J n G Y) {H0 : Hp} {Qd : Hp → Prop} {Bd : (Hp → Prop) → V → Hp → Prop} (Pv : Nat → Hp → Prop) (h0 : Pv 0 H0) (hG : ∀ i H, i ≤ n → Pv i H → G H)
    (hs : ∀ i x H H', i < n → Pv i H → Y i H x H' → Bd (Pv (i + 1)) x H') (hd : ∀ H, Pv n H → Qd H) :
    ∃ W : Nat → Nat → Hp → Prop, (∃ m, W 0 m H0) ∧ ∀ i m H, W i m H → (J.stop i H ∧ Qd H) ∨ (J.go i H ∧ ∃ Nx : Hp → Prop, (∀ H', Nx H' → ∃ m', m' < m ∧ W (i + 1) m' H') ∧ ∀ x H', J.yld i H x H' → Bd Nx x H') := by
  refine ⟨fun i m H => m = n - i ∧ i ≤ n ∧ Pv i H, ⟨n, by simp, Nat.zero_le _, h0⟩, ?_⟩
  rintro i m H ⟨rfl, hi, p⟩
  have q := hG i H hi p
  by_cases hlt : i < n
  · exact .inr ⟨w.goes i H hlt q, Pv (i + 1), fun H' p' => ⟨n - (i + 1), by omega, rfl, hlt, p'⟩, fun x H' y => hs i x H H' hlt p (w.yields i H x H' hlt q y)⟩
  · have e : i = n := by omega
    subst e
    exact .inl ⟨w.stops H q, hd H p⟩
end
theorem take_at {α : Type} {l : List α} {i : Nat} {x : α} (e : l[i]? = some x) : l.take (i + 1) = l.take i ++ [x] := by
  rw [List.take_succ, e]
  rfl
theorem take_no {α : Type} {l : List α} {i : Nat} {x : α} (nd : l.Nodup) (e : l[i]? = some x) : x ∉ l.take i := fun h => by
  have n2 : (l.take (i + 1)).Nodup := nd.sublist (List.take_sublist _ _)
  rw [take_at e] at n2
  exact (List.nodup_append.mp n2).2.2 x h x (List.mem_singleton.mpr rfl) rfl
theorem take_le {l : List Str} {i : Nat} (h : l.length ≤ 10000) : (l.take i).length < sizeLine := by
  rw [List.length_take, sizeLine_eq]
  omega
/-- behind i turns of a dict comprehension: n : f n -/
structure Dv (H1 : Hp) (D : Addr) (l : List Str) (f : Str → V) (i : Nat) (H : Hp) : Prop where
  same : Same H1 H
  free : H1 D = none
  at_ : H D = some (.dK (kvS (l.take i) f))
theorem Dv.start {H1 : Hp} {D : Addr} {l : List Str} {f : Str → V} (h : H1 D = none) : Dv H1 D l f 0 (upd H1 D (.dK [])) := ⟨sameNew h, h, upd_same⟩
theorem Dv.step {H1 H H4 : Hp} {D : Addr} {l : List Str} {f : Str → V} {i : Nat} {n : Str} (q : Dv H1 D l f i H) (nd : l.Nodup) (hl : l.length ≤ 10000) (e : l[i]? = some n) (s : Same H H4) :
    ∃ kvs k, V.str n = kV k ∧ H4 D = some (.dK kvs) ∧ kvs.length < sizeLine ∧ Dv H1 D l f (i + 1) (upd H4 D (.dK (putK kvs k (f n)))) := by
  refine ⟨_, .inr n, rfl, s _ _ q.at_, by rw [kvS_len]; exact take_le hl, sameTo (q.same.trans s) q.free, q.free, ?_⟩
  rw [upd_same, putK_new _ (kvS_no (take_no nd e)), take_at e, kvS_app]
  rfl
theorem Dv.done {H1 H : Hp} {D : Addr} {l : List Str} {f : Str → V} {i : Nat} (q : Dv H1 D l f i H) (h : l.length ≤ i) : H D = some (.dK (kvS l f)) := by
  rw [q.at_, List.take_of_length_le h]
/-- .. n : a new object, o n -/
structure Dn (H1 : Hp) (D : Addr) (l : List Str) (o : Str → HO) (i : Nat) (H : Hp) : Prop where
  same : Same H1 H
  free : H1 D = none
  ex : ∃ a : Str → Addr, H D = some (.dK (kvS (l.take i) fun m => .ref (a m))) ∧ (∀ m ∈ l.take i, H (a m) = some (o m) ∧ H1 (a m) = none ∧ a m ≠ D) ∧ ∀ m m', m ∈ l.take i → m' ∈ l.take i → a m = a m' → m = m'
theorem Dn.start {H1 : Hp} {D : Addr} {l : List Str} {o : Str → HO} (h : H1 D = none) : Dn H1 D l o 0 (upd H1 D (.dK [])) :=
  ⟨sameNew h, h, fun _ => 0, upd_same, fun _ h => (List.not_mem_nil h).elim, fun _ _ h => (List.not_mem_nil h).elim⟩
theorem Dn.step {H1 H H4 : Hp} {D p : Addr} {l : List Str} {o : Str → HO} {i : Nat} {n : Str} (q : Dn H1 D l o i H) (nd : l.Nodup) (hl : l.length ≤ 10000) (e : l[i]? = some n) (s : Same H H4) (hp : H p = none) (h4 : H4 p = some (o n)) :
    ∃ kvs k, V.str n = kV k ∧ H4 D = some (.dK kvs) ∧ kvs.length < sizeLine ∧ Dn H1 D l o (i + 1) (upd H4 D (.dK (putK kvs k (.ref p)))) := by
  obtain ⟨a, hD, ha, inj⟩ := q.ex
  have pD : p ≠ D := fun z => by rw [z, hD] at hp; cases hp
  have nn := take_no nd e
  have ne : ∀ m, m ∈ l.take i → m ≠ n := fun m hm z => nn (by rw [← z]; exact hm)
  have ap : ∀ m, m ∈ l.take i → a m ≠ p := fun m hm z => by
    have y := (ha m hm).1
    rw [z, hp] at y
    cases y
  refine ⟨_, .inr n, rfl, s _ _ hD, by rw [kvS_len]; exact take_le hl, sameTo (q.same.trans s) q.free, q.free, setS a n p, ?_, fun m hm => ?_, fun m m' hm hm' z => ?_⟩
  · rw [upd_same, putK_new _ (kvS_no nn), take_at e, kvS_app]
    congr 2
    have z : kvS (l.take i) (fun m => .ref (a m)) = kvS (l.take i) (fun m => .ref (setS a n p m)) := kvS_congr fun m hm => by rw [setS_ne (ne m hm)]
    rw [z]
    congr 1
    show [((Sum.inr n : Key), V.ref p)] = [((Sum.inr n : Key), V.ref (setS a n p n))]
    rw [setS_same]
  · rw [take_at e] at hm
    rcases List.mem_append.mp hm with hm | hm
    · rw [setS_ne (ne m hm), upd_ne (ha m hm).2.2]
      exact ⟨s _ _ (ha m hm).1, (ha m hm).2⟩
    · rw [List.mem_singleton.mp hm, setS_same, upd_ne pD]
      exact ⟨h4, q.same.free hp, pD⟩
  · rw [take_at e] at hm hm'
    rcases List.mem_append.mp hm with hm | hm <;> rcases List.mem_append.mp hm' with hm' | hm'
    · rw [setS_ne (ne m hm), setS_ne (ne m' hm')] at z
      exact inj m m' hm hm' z
    · rw [setS_ne (ne m hm), List.mem_singleton.mp hm', setS_same] at z
      exact absurd z (ap m hm)
    · rw [setS_ne (ne m' hm'), List.mem_singleton.mp hm, setS_same] at z
      exact absurd z.symm (ap m' hm')
    · rw [List.mem_singleton.mp hm, List.mem_singleton.mp hm']
theorem Dn.done {H1 H : Hp} {D : Addr} {l : List Str} {o : Str → HO} {i : Nat} (q : Dn H1 D l o i H) (h : l.length ≤ i) :
    ∃ a : Str → Addr, H D = some (.dK (kvS l fun m => .ref (a m))) ∧ (∀ m ∈ l, H (a m) = some (o m) ∧ H1 (a m) = none ∧ a m ≠ D) ∧ ∀ m m', m ∈ l → m' ∈ l → a m = a m' → m = m' := by
  have z := q.ex
  rw [List.take_of_length_le h] at z
  exact z
theorem walk_itemsS {l : List Str} {f : Str → V} {d : Addr} {o : Obj} : Walk (Iti d o (kvS l f)) l.length (fun H => H d = some (.frz o (.dK (kvS l f)))) (fun i H v H' => ∃ T n, l[i]? = some n ∧ v = .ref T ∧ H T = none ∧ H' = upd H T (.tup [.str n, f n])) := by
  have w := walk_items (d := d) (o := o) (kvs := kvS l f)
  rw [kvS_len] at w
  refine w.mono (fun _ h => h) fun i H x H' hi _ y => ?_
  obtain ⟨T, u1, u2, e1, e2, e3, e4, e5⟩ := y
  obtain ⟨n, en⟩ : ∃ n, l[i]? = some n := ⟨_, List.getElem?_eq_getElem hi⟩
  have e4 : ((kvS l f)[i]?).map (fun kv => kV kv.1) = some u1 := e4
  have e5 : ((kvS l f)[i]?).map Prod.snd = some u2 := e5
  rw [kvS_at, en] at e4 e5
  obtain rfl := Option.some.inj e4
  obtain rfl := Option.some.inj e5
  exact ⟨T, n, en, e1, e2, e3⟩
theorem walk_keysS {l : List Str} {f : Str → V} {d : Addr} {o : Obj} : Walk (Itk d o (kvS l f)) l.length (fun H => H d = some (.frz o (.dK (kvS l f)))) (fun i H x H' => H' = H ∧ ∃ n, l[i]? = some n ∧ x = .str n) := by
  have w := walk_keys (d := d) (o := o) (kvs := kvS l f)
  rw [kvS_len] at w
  refine w.mono (fun _ h => h) fun i H x H' hi _ y => ?_
  obtain ⟨e1, k, v, e2, e3⟩ := y
  obtain ⟨n, en⟩ : ∃ n, l[i]? = some n := ⟨_, List.getElem?_eq_getElem hi⟩
  rw [kvS_at, en] at e2
  obtain ⟨rfl, rfl⟩ := Prod.mk.inj (Option.some.inj e2)
  exact ⟨e1, n, en, e3⟩
/-- over names -/
theorem walk_names {K : PySem.W.Frag} {a : Addr} {l : List Str} : Walk (Itl K a) l.length (fun H => SqL K H a (l.map V.str)) (fun i H x H' => H' = H ∧ ∃ n, l[i]? = some n ∧ x = .str n) := by
  have w := walk_list (K := K) (a := a) (xs := l.map V.str)
  rw [List.length_map] at w
  refine w.mono (fun _ h => h) fun i H x H' hi _ y => ?_
  obtain ⟨e1, e2⟩ := y
  rw [List.getElem?_map] at e2
  obtain ⟨n, en, rfl⟩ := Option.map_eq_some_iff.mp e2
  exact ⟨e1, n, en, rfl⟩
/-! ### a new owned object, told of in an older one -/
section
variable {R : Type} {H : Hp} {A A' : R → Addr} {ob ob' : R → Option HO}
theorem At.newS {H1 : Hp} (a : At H A ob) {l0 l1 : R} {o0 o0' o1 : HO} {p : Addr} (s : Same H H1) (e0 : ob l0 = some o0) (n01 : l0 ≠ l1) (hp : H p = none) (hp1 : H1 p = some o1) (h1 : ob' l1 = some o1) (h0 : ob' l0 = some o0') (n0 : ∀ xs, o0' ≠ .tup xs) (n1 : ∀ xs, o1 ≠ .tup xs)
    (hk : ∀ m, m ≠ l0 → m ≠ l1 → ob' m = ob m) (hA1 : A' l1 = p) (hA : ∀ m, m ≠ l1 → A' m = A m) : At (upd H1 (A l0) o0') A' ob' ∧ Fr (Fp A ob) (Fp A' ob') H (upd H1 (A l0) o0') := by
  have p0 : p ≠ A l0 := fun z => by rw [z, a.is l0 o0 e0] at hp; cases hp
  have old : ∀ m o, ob' m = some o → m ≠ l1 → ∃ o', ob m = some o' := fun m o e n => by
    by_cases c : m = l0
    · exact ⟨o0, c ▸ e0⟩
    · exact ⟨o, by rw [← hk m c n]; exact e⟩
  have pm : ∀ m o, ob m = some o → A m ≠ p := fun m o e z => by
    have y := a.is m o e
    rw [z, hp] at y
    cases y
  refine ⟨⟨fun m o e => ?_, fun m m' o o' e e' z => ?_, fun m xs z => ?_⟩, ⟨fun b o e n => ?_, fun b ⟨m, o, e, z⟩ => ?_⟩⟩
  · by_cases c1 : m = l1
    · rw [c1] at e ⊢
      rw [hA1, upd_ne p0, hp1, ← h1, e]
    · rw [hA m c1]
      by_cases c0 : m = l0
      · rw [c0] at e ⊢
        rw [upd_same, ← h0, e]
      · have z := e
        rw [hk m c0 c1] at z
        rw [upd_ne fun y => c0 (a.inj _ _ _ _ z e0 y)]
        exact s _ _ (a.is m o z)
  · by_cases c : m = l1 <;> by_cases c' : m' = l1
    · rw [c, c']
    · obtain ⟨q, y⟩ := old m' o' e' c'
      rw [c, hA1, hA m' c'] at z
      exact absurd z.symm (pm m' q y)
    · obtain ⟨q, y⟩ := old m o e c
      rw [c', hA1, hA m c] at z
      exact absurd z (pm m q y)
    · obtain ⟨q, y⟩ := old m o e c
      obtain ⟨q', y'⟩ := old m' o' e' c'
      rw [hA m c, hA m' c'] at z
      exact a.inj _ _ _ _ y y' z
  · by_cases c1 : m = l1
    · rw [c1, h1] at z
      exact n1 xs (Option.some.inj z)
    · by_cases c0 : m = l0
      · rw [c0, h0] at z
        exact n0 xs (Option.some.inj z)
      · rw [hk m c0 c1] at z
        exact a.nt m xs z
  · rw [upd_ne fun y => n ⟨l0, o0, e0, y.symm⟩]
    exact s b o e
  · by_cases c1 : m = l1
    · rw [c1, hA1] at z
      exact .inr (z ▸ hp)
    · obtain ⟨q, y⟩ := old m o e c1
      exact .inl ⟨m, q, y, by rw [← hA m c1]; exact z⟩
theorem At.new (a : At H A ob) {l0 l1 : R} {o0 o0' o1 : HO} {p : Addr} (e0 : ob l0 = some o0) (n01 : l0 ≠ l1) (hp : H p = none) (h1 : ob' l1 = some o1) (h0 : ob' l0 = some o0') (n0 : ∀ xs, o0' ≠ .tup xs) (n1 : ∀ xs, o1 ≠ .tup xs)
    (hk : ∀ m, m ≠ l0 → m ≠ l1 → ob' m = ob m) (hA1 : A' l1 = p) (hA : ∀ m, m ≠ l1 → A' m = A m) : At (upd (upd H p o1) (A l0) o0') A' ob' ∧ Fr (Fp A ob) (Fp A' ob') H (upd (upd H p o1) (A l0) o0') :=
  a.newS (sameNew hp) e0 n01 hp upd_same h1 h0 n0 n1 hk hA1 hA
theorem At.putf (a : At H A ob) {l : R} {o o' : HO} (e : ob l = some o) (h : ob' l = some o') (hn : ∀ xs, o' ≠ .tup xs) (hk : ∀ m, m ≠ l → ob' m = ob m) :
    At (upd H (A l) o') A ob' ∧ Fr (Fp A ob) (Fp A ob') H (upd H (A l) o') :=
  ⟨a.put e h hn hk, put_fr a e fun m q hq => by
    by_cases c : m = l
    · exact ⟨o, c ▸ e⟩
    · exact ⟨q, by rw [← hk m c]; exact hq⟩⟩
end
/-! ### several locks -/
def tLk : List Addr → TE → TE
  | [], t => t
  | d :: ds, t => tLockE' d (tLk ds t)
where tLockE' (d : Addr) (t : TE) : TE := fun σ H Q => ∃ u, H d = some u ∧ Mut (some u) ∧ ∀ od, t σ (upd H d (.frz od u)) fun v H' => H' d = some (.frz od u) ∧ Q v (upd H' d u)
def tLks (t : TE) : TE := fun σ H Q => ∃ ds, tLk ds t σ H Q
section
variable {X : Cx} {e : Expr} {t : TE}
theorem pe_lk (h : PE X e t) : ∀ ds, PE X e (tLk ds t)
  | [] => h
  | d :: ds => by
    refine ⟨fun pins s σ H Q I ⟨u, hd, mu, q⟩ => ?_⟩
    exact (pe_lock (pe_lk h ds)).run pins s σ H Q I ⟨d, u, hd, mu, q⟩
theorem pe_lks (h : PE X e t) : PE X e (tLks t) := ⟨fun pins s σ H Q I ⟨ds, q⟩ => (pe_lk h ds).run pins s σ H Q I q⟩
end
theorem lk_ok {t : TE} {σ : L2.St} : ∀ (ds : List Addr), ds.Nodup → ∀ (H : Hp) (Q : VK), (∀ d ∈ ds, ∃ kvs, H d = some (.dK kvs)) →
    (∀ (HL : Hp) (Qc : VK), (∀ b, b ∉ ds → HL b = H b) → (∀ d ∈ ds, ∃ od kvs, H d = some (.dK kvs) ∧ HL d = some (.frz od (.dK kvs))) →
      (∀ v H', Same HL H' → (∀ H'', (∀ b, b ∉ ds → H'' b = H' b) → Same H H'' → Q v H'') → Qc v H') → t σ HL Qc) → tLk ds t σ H Q
  | [], _, H, Q, _, h => h H Q (fun _ _ => rfl) (fun _ z => nomatch z) fun v H' s q => q H' (fun _ _ => rfl) s
  | d :: ds, nd, H, Q, hd, h => by
    obtain ⟨nd1, nd2⟩ := List.nodup_cons.mp nd
    obtain ⟨kvs, ed⟩ := hd d List.mem_cons_self
    have ne : ∀ b, b ∈ ds → b ≠ d := fun b hb z => nd1 (by rw [← z]; exact hb)
    refine ⟨.dK kvs, ed, trivial, fun od => ?_⟩
    refine lk_ok ds nd2 _ _ (fun b hb => ?_) fun HL Qc h1 h2 h3 => ?_
    · rw [upd_ne (ne b hb)]
      exact hd b (List.mem_cons_of_mem _ hb)
    · refine h HL Qc (fun b hb => ?_) (fun b hb => ?_) fun v H' s q => ?_
      · have n1 : b ≠ d := fun z => hb (by rw [z]; exact List.mem_cons_self)
        rw [h1 b fun z => hb (List.mem_cons_of_mem _ z), upd_ne n1]
      · rcases List.mem_cons.mp hb with rfl | hb
        · exact ⟨od, kvs, ed, by rw [h1 _ nd1, upd_same]⟩
        · obtain ⟨od2, k2, e1, e2⟩ := h2 b hb
          rw [upd_ne (ne b hb)] at e1
          exact ⟨od2, k2, e1, e2⟩
      · refine h3 v H' s fun H'' e2 s2 => ?_
        obtain ⟨u1, u2⟩ := unlock ed s2
        refine ⟨u1, q _ (fun b hb => ?_) u2⟩
        rw [upd_ne fun z => hb (by rw [z]; exact List.mem_cons_self), e2 b fun z => hb (List.mem_cons_of_mem _ z)]
/-! ### reach -/
inductive Rc (T : Str → List Str) (a : Str) : Str → Prop
  | refl : Rc T a a
  | step {b c : Str} (h : Rc T a b) (e : c ∈ T b) : Rc T a c
theorem Rc.trans {T : Str → List Str} {a b c : Str} (h : Rc T a b) (g : Rc T b c) : Rc T a c := by
  induction g with
  | refl => exact h
  | step _ e ih => exact ih.step e
theorem Rc.one {T : Str → List Str} {a b : Str} (e : b ∈ T a) : Rc T a b := .step .refl e
theorem Rc.mono {T T' : Str → List Str} (h : ∀ a b, b ∈ T a → b ∈ T' a) {a b : Str} (g : Rc T a b) : Rc T' a b := by
  induction g with
  | refl => exact .refl
  | step _ e ih => exact ih.step (h _ _ e)
theorem Rc.closed {T : Str → List Str} {C : Str → Prop} (h : ∀ a b, C a → b ∈ T a → C b) {a b : Str} (g : Rc T a b) (ha : C a) : C b := by
  induction g with
  | refl => exact ha
  | step _ e ih => exact h _ _ ih e
theorem nodup_len {α : Type} [DecidableEq α] : ∀ {F N : List α}, F.Nodup → (∀ x ∈ F, x ∈ N) → F.length ≤ N.length
  | [], _, _, _ => Nat.zero_le _
  | x :: F, N, nd, h => by
    obtain ⟨n1, n2⟩ := List.nodup_cons.mp nd
    have hx := h x List.mem_cons_self
    have z : F.length ≤ (N.erase x).length := nodup_len n2 fun y hy => (List.mem_erase_of_ne fun (q : y = x) => n1 (by rw [← q]; exact hy)).mpr (h y (List.mem_cons_of_mem _ hy))
    rw [List.length_erase_of_mem hx] at z
    have : 0 < N.length := List.length_pos_of_mem hx
    show F.length + 1 ≤ N.length
    omega
end Cy
end

section
set_option maxHeartbeats 4000000
/-! words.py, are_modules, want_names. -/
namespace Cy
open PySem PySem.Spec PyProof.Rows
open L2 hiding St
/-! ### names -/
def letters : Str := "abcdefghijklmnopqrstuvwxyz"
def isNm (n : Str) : Prop := 1 ≤ n.length ∧ n.length ≤ 8 ∧ ∀ c ∈ n.cps.toList, c ∈ letters.cps.toList
structure Nms (N : List Str) : Prop where
  nd : N.Nodup
  le : N.length ≤ 10
  nm : ∀ n ∈ N, isNm n
theorem hu0 {A : Around} {k : Nat} (hr : Room k A) : A.units < cLine := hr.units0
theorem hu {A : Around} {k : Nat} (hr : Room k A) : A.units + 1 < cLine := hu_of hr
def spIsName : Sp := fun vs H Q _ => ∃ n : Str, vs = [.str n] ∧ isNm n ∧ ∀ H', Same H H' → Q (.bl true) H'
def spIsInt : Sp := fun vs H Q _ => ∃ n : Int, vs = [.int n] ∧ Q (.bl true) H
def spWantNames (K : PySem.W.Frag) : Sp := fun vs H Q _ => ∃ (a : Addr) (l : List Str), vs = [.ref a] ∧ SqL K H a (l.map V.str) ∧ (∀ n ∈ l, isNm n) ∧ l.length ≤ 100 ∧ ∀ H', Same H H' → Q .non H'
def spAreModules : Sp := fun vs H Q _ => ∃ (a : Addr) (l : List Str), vs = [.ref a] ∧ H a = some (.lst (l.map V.str)) ∧ Nms l ∧ 1 ≤ l.length ∧ ∀ H', Same H H' → Q (.bl true) H'
section
variable {P : Program} {w : World} {K : PySem.W.Frag} {mg : Str → Option Value} {base : Heap}
theorem ok_is_name (T : Tx K mg) : Cal P w K mg base 1 "is_name" spIsName := by
  have sc : FnScope ["value", "letter"] ["value"] (defScope s_is_name) := ⟨rfl, rfl, rfl, by decide +kernel, rfl, by decide +kernel, by decide +kernel⟩
  have nd := sc.nd
  refine cal_of T.f_is_name T.g_is_name sc (fun z F => F.bindsN fun _ _ _ _ _ _ us hl => match us, hl with | [_], _ => rfl) (fun vs H Q E h => ?_) fun cdv A outer s H vs Q E hr h => ?_
  · obtain ⟨n, rfl, _⟩ := h
    rfl
  obtain ⟨n, rfl, hn, q⟩ := h
  refine ⟨_, (pss_cons (ps_if (PW.pt (pw_or (pt_not (pt_val (pe_callB call_isi rfl T.b_isinstance (by decide +kernel) (pa_cons (pv 0) (pa_cons (pe_bltn (v := .ty "str") rfl T.b_str PyProof.Rows.boot_str rfl) pa_nil))))) (pw_or1 (pt_not (pt_chain op_le op_le pe_int (pe_callB call_len (by rfl) T.b_len PySem.boot_len (pa_cons (pv 0) pa_nil)) (pe_gc rfl (gcI T.c_MOST_LETTERS))))))) (pss_one (ps_ret pe_bl)) pss_nil)
      (pss_one (ps_ret (pe_callB (cr_all rfl) rfl T.b_all (by decide +kernel) (pa_cons (pe_lc (own := [("letter", 1)]) (g := (gName 1)) (tt := tYes) rfl nd (pi_str (pv 0)) (blkOk_by (by rfl)) (fun _ _ _ _ _ => (pg_name (i := 1) nd rfl (.inl rfl))) (fun _ _ _ _ _ => pts_nil) (fun _ _ _ _ _ => (pe_cmpR op_in_sign (pv 1) (pe_gc rfl (gcS T.c_LETTERS)) (by rfl)))) pa_nil))))), ?_⟩
  have l8 : n.length ≤ sizeLine := by
    have := hn.2.1
    rw [sizeLine_eq]
    omega
  refine ⟨_, rfl, _, _, _, _, _, rfl, .ty _, .base (.str _), rfl, true, rfl, ifN rfl ?_⟩
  refine ⟨_, rfl, _, _, rfl, ⟨l8, rfl⟩, _, _, rfl, rfl, _, rfl, ?_⟩
  have h1 : decide ((1 : Int) ≤ (n.length : Nat)) = true := decide_eq_true (by have := hn.1; omega)
  have h2 : decide (((n.length : Nat) : Int) ≤ 8) = true := decide_eq_true (by have := hn.2.1; omega)
  refine ifT h1 ⟨_, _, rfl, rfl, true, congrArg V.bl h2, ifN rfl ?_⟩
  -- all([letter in LETTERS for letter in value])
  refine ⟨_, rfl, _, rfl, fun D hD => ?_⟩
  refine lc_same walk_str hD (fun _ _ => trivial) (fun _ => .bl true) (fun _ => true) ?_ fun H2 s2 e2 => ?_
  · rintro i x H2 H' hi lc ⟨rfl, c, e, rfl⟩
    refine ⟨rfl, ⟨_, rfl, c, letters, rfl, rfl, lc.yes (by have z : n.cps.size = n.length := rfl; have := hn.2.1; omega) rfl ?_ (Same.refl _)⟩⟩
    rw [decide_eq_true (hn.2.2 c (by rw [← Array.getElem?_toList] at e; exact List.mem_of_getElem? e))]
  · refine ⟨D, (List.range n.cps.size).map fun _ => true, rfl, .inl (.inl ?_), ?_⟩
    · rw [e2, picks_all, List.map_map]
      rfl
    · rw [show ((List.range n.cps.size).map fun _ => true).all id = true from List.all_eq_true.mpr fun b hb => by
        obtain ⟨_, _, rfl⟩ := List.mem_map.mp hb
        rfl]
      exact q _ s2
theorem ok_is_integer (T : Tx K mg) : Cal P w K mg base 1 "is_integer" spIsInt := by
  have sc : FnScope ["value"] ["value"] (defScope s_is_integer) := ⟨rfl, rfl, rfl, by decide +kernel, rfl, by decide +kernel, by decide +kernel⟩
  have nd := sc.nd
  refine cal_of T.f_is_integer T.g_is_integer sc (fun z F => F.bindsN fun _ _ _ _ _ _ us hl => match us, hl with | [_], _ => rfl) (fun vs H Q E h => ?_) fun cdv A outer s H vs Q E hr h => ?_
  · obtain ⟨n, rfl, _⟩ := h
    rfl
  obtain ⟨n, rfl, q⟩ := h
  refine ⟨_, (pss_one (ps_ret (pe_and (pe_callB call_isi rfl T.b_isinstance (by decide +kernel) (pa_cons (pv 0) (pa_cons (pe_bltn (v := .ty "int") rfl T.b_int PyProof.Rows.boot_int rfl) pa_nil))) (pe_one (pe_not (pe_callB call_isi rfl T.b_isinstance (by decide +kernel) (pa_cons (pv 0) (pa_cons (pe_bltn (v := .ty "bool") rfl T.b_bool (by decide +kernel) rfl) pa_nil)))))))), ?_⟩
  refine ⟨_, rfl, _, _, _, _, _, rfl, .ty _, .base (.int _), rfl, true, rfl, iteT ⟨_, rfl, _, _, _, _, _, rfl, .ty _, .base (.int _), rfl, false, rfl, q⟩⟩
theorem ok_want_names (T : Tx K mg) : Cal P w K mg base 2 "want_names" (spWantNames K) := by
  have sc : FnScope ["values", "value"] ["values"] (defScope s_want_names) := ⟨rfl, rfl, rfl, by decide +kernel, rfl, by decide +kernel, by decide +kernel⟩
  have nd := sc.nd
  refine cal_of T.f_want_names T.g_want_names sc (fun z F => F.bindsN fun _ _ _ _ _ _ us hl => match us, hl with | [_], _ => rfl) (fun vs H Q E h => ?_) fun cdv A outer s H vs Q E hr h => ?_
  · obtain ⟨a, l, rfl, _⟩ := h
    rfl
  obtain ⟨a, l, rfl, ha, hl, hlen, q⟩ := h
  refine ⟨_, (pss_one (ps_for PassesOwn.never rfl (pi_list (pv 0)) (pg_name (i := 1) nd rfl (.inl rfl)) (pss_one (ps_if (pt_not (pt_val (pe_c (ok_is_name T) hr (by decide) rfl (pa_cons (pv 1) pa_nil)))) (pss_one ps_never) pss_nil)))), ?_⟩
  refine ⟨_, rfl, a, rfl, ⟨_, ha⟩, for_it walk_list (fun i σ H' => ∃ v, σ = [some (.ref a), v] ∧ Same H H') ⟨none, rfl, Same.refl H⟩ (fun i σ H' _ ⟨_, _, s⟩ => s.seq ha) ?_ ?_⟩
  · rintro i x σ H' _ hi ⟨v, rfl, s⟩ ⟨rfl, e⟩
    rw [List.getElem?_map] at e
    obtain ⟨n, e1, rfl⟩ := Option.map_eq_some_iff.mp e
    refine ⟨_, rfl, n, rfl, hl n (List.mem_of_getElem? e1), fun H2 s2 => ⟨true, rfl, ?_⟩⟩
    exact ⟨_, rfl, s.trans s2⟩
  · rintro σ H' ⟨v, rfl, s⟩
    exact q _ s
theorem kAt_str {l : List Str} (h : l.Nodup) : sz (kAt (l.map Sum.inr)) l.length = l.length := by
  refine sz_inj (n := l.length) (fun i j hij hj e => ?_) _ (Nat.le_refl _)
  unfold kAt at e
  rw [List.getD_eq_getElem?_getD, List.getD_eq_getElem?_getD, List.getElem?_map, List.getElem?_map, List.getElem?_eq_getElem (by omega), List.getElem?_eq_getElem hj] at e
  have e2 : l[i] = l[j] := Sum.inr.inj e
  exact List.pairwise_iff_getElem.mp h i j (by omega) hj hij e2
theorem ok_are_modules (T : Tx K mg) : Cal P w K mg base 2 "are_modules" spAreModules := by
  have sc : FnScope ["value", "name"] ["value"] (defScope s_are_modules) := ⟨rfl, rfl, rfl, by decide +kernel, rfl, by decide +kernel, by decide +kernel⟩
  have nd := sc.nd
  refine cal_of T.f_are_modules T.g_are_modules sc (fun z F => F.bindsN fun _ _ _ _ _ _ us hl => match us, hl with | [_], _ => rfl) (fun vs H Q E h => ?_) fun cdv A outer s H vs Q E hr h => ?_
  · obtain ⟨n, l, rfl, _⟩ := h
    rfl
  obtain ⟨a, l, rfl, ha, hl, h1, q⟩ := h
  refine ⟨_, (pss_cons (ps_if (PW.pt (pw_or (pt_not (pt_val (pe_callB call_isiT rfl T.b_isinstance (by decide +kernel) (pa_cons (pv 0) (pa_cons (pe_tup (pa_cons (pe_bltn (v := .ty "list") rfl T.b_list (by decide +kernel) rfl) (pa_cons (pe_bltn (v := .ty "tuple") rfl T.b_tuple (by decide +kernel) rfl) pa_nil))) pa_nil))))) (pw_or1 (pt_not (pt_chain op_le op_le pe_int (pe_callB call_len_seq (by rfl) T.b_len PySem.boot_len (pa_cons (pv 0) pa_nil)) (pe_gc rfl (gcI T.c_MOST_MODULES))))))) (pss_one (ps_ret pe_bl)) pss_nil)
      (pss_one (ps_ret (pe_and (pe_callB (cr_all rfl) rfl T.b_all (by decide +kernel) (pa_cons (pe_lc (own := [("name", 1)]) (g := (gName 1)) (tt := tYes) rfl nd (pi_list (pv 0)) (blkOk_by (by rfl)) (fun _ _ _ _ _ => (pg_name (i := 1) nd rfl (.inl rfl))) (fun _ _ _ _ _ => pts_nil) (fun _ _ _ _ _ => (pe_c (ok_is_name T) hr (by decide) rfl (pa_cons (pv 1) pa_nil)))) pa_nil)) (pe_one (pe_cmpR op_eq (pe_lenSetK rfl rfl T.b_len rfl T.b_set (pv 0)) (pe_callB call_len_seq (by rfl) T.b_len PySem.boot_len (pa_cons (pv 0) pa_nil)) (nomark _))))))), ?_⟩
  refine ⟨_, rfl, by rw [sizeLine_eq]; decide, fun t ht => ?_⟩
  have e1 : decide ((1 : Int) ≤ ((l.map V.str).length : Nat)) = true := decide_eq_true (by rw [List.length_map]; omega)
  have e2 : decide ((((l.map V.str).length : Nat) : Int) ≤ 40) = true := decide_eq_true (by have := hl.le; rw [List.length_map]; omega)
  refine ⟨_, t, _, _, [.type "list", .type "tuple"], true, rfl, upd_same, .cons (.ty _) (.cons (.ty _) .nil), .base (.lst (sameNew ht _ _ ha)), rfl, true, rfl, ifN rfl ?_⟩
  refine ⟨_, rfl, a, _, rfl, .inl (.inl (.inl (sameNew ht _ _ ha))), _, _, rfl, rfl, _, rfl, ifT e1 ⟨_, _, rfl, rfl, true, congrArg V.bl e2, ifN rfl ?_⟩⟩
  refine ⟨_, rfl, a, rfl, ⟨_, .inl (.inl (sameNew ht _ _ ha))⟩, fun D hD => lc_same walk_list hD (fun H3 s3 => .inl (.inl (s3 _ _ (sameNew ht _ _ ha)))) (fun _ => .bl true) (fun _ => true) ?_ fun H3 s3 e3 => ?_⟩
  · rintro i x H3 H' hi lc ⟨rfl, e⟩
    rw [List.getElem?_map] at e
    obtain ⟨n, en, rfl⟩ := Option.map_eq_some_iff.mp e
    rw [List.length_map] at hi
    refine ⟨rfl, ⟨_, rfl, n, rfl, hl.nm n (List.mem_of_getElem? en), fun H4 s4 => lc.yes (by have := hl.le; omega) rfl rfl s4⟩⟩
  · refine ⟨D, (List.range (l.map V.str).length).map fun _ => true, rfl, .inl (.inl ?_), true, ?_, ?_⟩
    · rw [e3, picks_all, List.map_map]
      rfl
    · rw [show ((List.range (l.map V.str).length).map fun _ => true).all id = true from List.all_eq_true.mpr fun b hb => by
        obtain ⟨_, _, rfl⟩ := List.mem_map.mp hb
        rfl]
    · have ha3 := s3 _ _ (sameNew ht _ _ ha)
      refine ⟨_, rfl, a, l.map Sum.inr, rfl, .inl (.inl (by rw [ha3, List.map_map]; rfl)), by have := hl.le; rw [List.length_map]; omega, _, rfl, a, _, rfl, .inl (.inl (.inl ha3)), rfl, ?_⟩
      rw [List.length_map, List.length_map, kAt_str hl.nd, decide_eq_true rfl]
      exact q _ ((sameNew ht).trans s3)
end
end Cy
end

section
set_option maxHeartbeats 4000000
/-! needs.py -/
namespace Cy
open PySem PySem.Spec PyProof.Rows
open L2 hiding St
/-! ### a graph of needs -/
inductive NR | p | dx | d | t (s : Str)
structure Gr where
  S : List Str
  T : Str → List Str
def atT (A : NR → Addr) (s : Str) (p : Addr) : NR → Addr
  | .t y => if y = s then p else A (.t y)
  | x => A x
def obN (C : Addr) (A : NR → Addr) (g : Gr) : NR → Option HO
  | .p => some (.ins C (A .dx) [("own_targets", .ref (A .d))])
  | .dx => none
  | .d => some (.dK (kvS g.S fun s => .ref (A (.t s))))
  | .t s => if s ∈ g.S then some (.dK (kvS (g.T s) fun _ => .bl true)) else none
theorem obN_nt (C : Addr) (A : NR → Addr) (g : Gr) (l : NR) (xs : List V) : obN C A g l ≠ some (.tup xs) := fun z => by
  cases l with
  | t s =>
    have z : (if s ∈ g.S then some (HO.dK (kvS (g.T s) fun _ => .bl true)) else none) = some (.tup xs) := z
    split at z <;> cases z
  | _ => cases z
structure GrOk (N : List Str) (g : Gr) : Prop where
  sn : g.S.Nodup
  ss : ∀ s ∈ g.S, s ∈ N
  tn : ∀ s, (g.T s).Nodup
  ts : ∀ s, ∀ t ∈ g.T s, t ∈ N
  te : ∀ s, s ∉ g.S → g.T s = []
def Gr.rcd (g : Gr) (s t : Str) : Gr := ⟨addS g.S s, setS g.T s (addS (g.T s) t)⟩
def Gr.prs (g : Gr) : List Pr := g.S.flatMap fun s => (g.T s).map fun t => (s, t)
theorem GrOk.rcd {N : List Str} {g : Gr} (h : GrOk N g) {s t : Str} (hs : s ∈ N) (ht : t ∈ N) : GrOk N (g.rcd s t) := by
  refine ⟨nodup_addS h.sn, fun x hx => ?_, fun x => ?_, fun x y hy => ?_, fun x hx => ?_⟩
  · rcases mem_addS.mp hx with q | rfl
    · exact h.ss x q
    · exact hs
  · show (setS g.T s (addS (g.T s) t) x).Nodup
    unfold setS
    by_cases e : x = s
    · rw [if_pos e]
      exact nodup_addS (h.tn s)
    · rw [if_neg e]
      exact h.tn x
  · have hy : y ∈ setS g.T s (addS (g.T s) t) x := hy
    unfold setS at hy
    by_cases e : x = s
    · rw [if_pos e] at hy
      rcases mem_addS.mp hy with q | rfl
      · exact h.ts s y q
      · exact ht
    · rw [if_neg e] at hy
      exact h.ts x y hy
  · show setS g.T s (addS (g.T s) t) x = []
    rw [setS_ne fun z => hx (mem_addS.mpr (.inr z))]
    exact h.te x fun z => hx (mem_addS.mpr (.inl z))
theorem Gr.mem_rec {g : Gr} {s t a b : Str} : b ∈ (g.rcd s t).T a ↔ b ∈ g.T a ∨ (a = s ∧ b = t) := by
  show b ∈ setS g.T s (addS (g.T s) t) a ↔ _
  unfold setS
  by_cases e : a = s
  · rw [if_pos e, mem_addS, e]
    exact ⟨fun h => h.imp id fun z => ⟨rfl, z⟩, fun h => h.imp id fun z => z.2⟩
  · rw [if_neg e]
    exact ⟨.inl, fun h => h.resolve_right fun z => e z.1⟩
theorem Gr.mem_prs {N : List Str} {g : Gr} (h : GrOk N g) {q : Pr} : q ∈ g.prs ↔ q.2 ∈ g.T q.1 := by
  unfold Gr.prs
  rw [List.mem_flatMap]
  constructor
  · rintro ⟨s, _, hq⟩
    obtain ⟨t, ht, rfl⟩ := List.mem_map.mp hq
    exact ht
  · intro hq
    refine ⟨q.1, ?_, List.mem_map.mpr ⟨q.2, hq, rfl⟩⟩
    by_cases e : q.1 ∈ g.S
    · exact e
    · rw [h.te _ e] at hq
      cases hq
theorem Gr.nd_prs {N : List Str} {g : Gr} (h : GrOk N g) : g.prs.Nodup := by
  unfold Gr.prs
  have z : ∀ l : List Str, l.Nodup → (l.flatMap fun s => (g.T s).map fun t => ((s, t) : Pr)).Nodup := by
    intro l
    induction l with
    | nil => exact fun _ => List.nodup_nil
    | cons s l ih =>
      intro nd
      obtain ⟨n1, n2⟩ := List.nodup_cons.mp nd
      rw [List.flatMap_cons]
      refine List.nodup_append.mpr ⟨?_, ih n2, ?_⟩
      · exact List.Pairwise.map _ (fun a b hab e => hab (congrArg Prod.snd e)) (h.tn s)
      · intro a ha b hb e
        obtain ⟨t, _, rfl⟩ := List.mem_map.mp ha
        obtain ⟨s', hs', hb⟩ := List.mem_flatMap.mp hb
        obtain ⟨t', _, rfl⟩ := List.mem_map.mp hb
        exact n1 (by rw [show s = s' from congrArg Prod.fst e]; exact hs')
  exact z _ h.sn
/-! ### promises -/
def spN_init (C : Addr) : Sp := fun vs H Q _ => ∃ (p dx : Addr), vs = [.ref p] ∧ H p = some (.ins C dx []) ∧ ∀ d, H d = none → Q .non (upd (upd H d (.dK [])) p (.ins C dx [("own_targets", .ref d)]))
def spN_targets (C : Addr) : Sp := fun vs H Q _ => ∃ (A : NR → Addr) (N : List Str) (g : Gr) (n : Str), vs = [.ref (A .p), .str n] ∧ At H A (obN C A g) ∧ Nms N ∧ GrOk N g ∧
  ∀ H' l (ys : List Str), Same H H' → H l = none → H' l = some (.lst (ys.map V.str)) → ys.Perm (g.T n) → Q (.ref l) H'
def spN_paths (C : Addr) : Sp := fun vs H Q _ => ∃ (A : NR → Addr) (N : List Str) (g : Gr) (n : Str), vs = [.ref (A .p), .str n] ∧ At H A (obN C A g) ∧ Nms N ∧ GrOk N g ∧ n ∈ N ∧
  ∀ H' d (F : List Str) f, Same H H' → H' d = some (.dK (kvS F f)) → F.Nodup → F.length ≤ 10 → (∀ m, m ∈ F ↔ Rc g.T n m) → Q (.ref d) H'
def spN_depends (C : Addr) : Sp := fun vs H Q _ => ∃ (A : NR → Addr) (N : List Str) (g : Gr) (n m : Str), vs = [.ref (A .p), .str n, .str m] ∧ At H A (obN C A g) ∧ Nms N ∧ GrOk N g ∧ n ∈ N ∧ m ∈ N ∧
  ∀ H' c, Same H H' → (c = true ↔ Rc g.T n m) → Q (.bl c) H'
def spN_closure (C : Addr) : Sp := fun vs H Q _ => ∃ (A : NR → Addr) (N : List Str) (g : Gr) (n : Str), vs = [.ref (A .p), .str n] ∧ At H A (obN C A g) ∧ Nms N ∧ GrOk N g ∧ n ∈ N ∧
  ∀ H' l (ys : List Str), Same H H' → H' l = some (.lst (ys.map V.str)) → ys.length ≤ 10 → (∀ m, m ∈ ys ↔ Rc g.T n m) → Q (.ref l) H'
def spN_record (C : Addr) : Sp := fun vs H Q _ => ∃ (A : NR → Addr) (N : List Str) (g : Gr) (s t : Str), vs = [.ref (A .p), .str s, .str t] ∧ At H A (obN C A g) ∧ Nms N ∧ GrOk N g ∧ s ∈ N ∧ t ∈ N ∧
  ∀ H' (A' : NR → Addr) b, At H' A' (obN C A' (g.rcd s t)) → A' .p = A .p → Fr (Fp A (obN C A g)) (Fp A' (obN C A' (g.rcd s t))) H H' → Q (.bl b) H'
def spN_clone (C : Addr) : Sp := fun vs H Q _ => ∃ (A : NR → Addr) (N : List Str) (g : Gr), vs = [.ref (A .p)] ∧ At H A (obN C A g) ∧ Nms N ∧ GrOk N g ∧
  ∀ H' (A' : NR → Addr), Same H H' → At H' A' (obN C A' g) → Q (.ref (A' .p)) H'
def IsPrs (H : Hp) (bs : List (Addr × Pr)) : Prop := ∀ e ∈ bs, H e.1 = some (.tup [.str e.2.1, .str e.2.2])
def spN_pairs (C : Addr) : Sp := fun vs H Q _ => ∃ (A : NR → Addr) (N : List Str) (g : Gr), vs = [.ref (A .p)] ∧ At H A (obN C A g) ∧ Nms N ∧ GrOk N g ∧
  ∀ H' l (bs : List (Addr × Pr)), Same H H' → H' l = some (.lst (bs.map fun e => V.ref e.1)) → IsPrs H' bs → srtP (bs.map (·.2)) → (bs.map (·.2)).Perm g.prs → Q (.ref l) H'
theorem hu64 {A : Around} {k : Nat} (hr : Room k A) : A.units + 64 < cLine := hr.units
theorem hu65 {A : Around} {k : Nat} (hr : Room k A) : A.units + 65 < cLine := by have := hr.un; omega
theorem dp_strs {K : PySem.W.Frag} {H : Hp} {a : Addr} {l : List Str} (h : SqL K H a (l.map V.str)) : Dp K H (.ref a) (.list (l.map PyData.str)) := .lst h (dpAll_strs l)
theorem strOk_nm {n : Str} (h : isNm n) : PyData.strOk n = true := by
  have z : ∀ c ∈ letters.cps.toList, c < 0x110000 := by decide +kernel
  unfold PyData.strOk
  rw [← Array.all_toList, List.all_eq_true]
  exact fun c hc => decide_eq_true (z c (h.2.2 c hc))
theorem canLay_strs : ∀ l : List Str, (∀ n ∈ l, isNm n) → PyData.canLayAll0 (l.map PyData.str) = true
  | [], _ => by simp [PyData.canLayAll0]
  | x :: l, h => by simp [PyData.canLayAll0, PyData.canLay0, canLay_strs l fun n hn => h n (List.mem_cons_of_mem _ hn), strOk_nm (h x List.mem_cons_self)]
theorem shaped_strs {l : List Str} (h : ∀ n ∈ l, isNm n) : SeqAt.shaped (.list (l.map PyData.str)) = true := by
  unfold SeqAt.shaped
  simp [PyData.canLay0, canLay_strs l h, PyData.depth, depth_strs]
theorem eqv_nil (l : List Str) : PyData.eqv (.list (l.map PyData.str)) (.list []) = l.isEmpty := by
  cases l <;> simp [PyData.eqv, PyData.eqvAll]
theorem nil_strs (K : PySem.W.Frag) {H : Hp} {p : Addr} (h : H p = some (.lst [])) : Dp K H (.ref p) (.list []) := .lst (.inl (.inl h)) .nil
theorem shaped_nil : SeqAt.shaped (.list []) = true := shaped_strs (l := []) fun _ h => (List.not_mem_nil h).elim
theorem seq0 {α : Type} {a : α} (l : List α) : seqIndex? 0 (a :: l).length = some 0 := by
  simp [seqIndex?]
/-! ### the search -/
structure Pf (H0 : Hp) (T : Str → List Str) (N : List Str) (n : Str) (d wl : Addr) (busy : Str → Prop) (F W : List Str) (la : Str → Addr) (H : Hp) : Prop where
  same : Same H0 H
  d0 : H0 d = none
  w0 : H0 wl = none
  hd : H d = some (.dK (kvS F fun m => .ref (la m)))
  hw : H wl = some (.lst (W.map V.str))
  pa : ∀ m ∈ F, ∃ xs, H (la m) = some (.lst xs) ∧ xs.length ≤ F.length
  pw : ∀ m ∈ F, la m ≠ wl
  nd : F.Nodup
  sub : ∀ m ∈ F, m ∈ N
  me : n ∈ F
  rc : ∀ m ∈ F, Rc T n m
  wf : ∀ m ∈ W, m ∈ F
  wn : W.length ≤ F.length
  cl : ∀ m ∈ F, m ∈ W ∨ busy m ∨ ∀ t ∈ T m, t ∈ F
section
variable {H0 H H1 : Hp} {T : Str → List Str} {N : List Str} {n x t : Str} {d wl p : Addr} {busy : Str → Prop} {F W : List Str} {la : Str → Addr}
theorem Pf.keep (q : Pf H0 T N n d wl busy F W la H) (s : Same H H1) : Pf H0 T N n d wl busy F W la H1 :=
  ⟨q.same.trans s, q.d0, q.w0, s _ _ q.hd, s _ _ q.hw, fun m hm => let ⟨xs, e, l⟩ := q.pa m hm; ⟨xs, s _ _ e, l⟩, q.pw, q.nd, q.sub, q.me, q.rc, q.wf, q.wn, q.cl⟩
theorem Pf.dw (q : Pf H0 T N n d wl busy F W la H) : d ≠ wl := fun z => by
  have h := q.hd
  rw [z, q.hw] at h
  cases h
theorem Pf.pop (q : Pf H0 T N n d wl (fun _ => False) F (x :: W) la H) : Pf H0 T N n d wl (fun m => m = x) F W la (upd H wl (.lst (W.map V.str))) :=
  ⟨sameTo q.same q.w0, q.d0, q.w0, by rw [upd_ne q.dw]; exact q.hd, upd_same, fun m hm => let ⟨xs, e, l⟩ := q.pa m hm; ⟨xs, by rw [upd_ne (q.pw m hm)]; exact e, l⟩, q.pw, q.nd, q.sub, q.me, q.rc,
    fun m hm => q.wf m (List.mem_cons_of_mem _ hm), Nat.le_trans (Nat.le_succ _) q.wn, fun m hm => by
      rcases q.cl m hm with z | z | z
      · rcases List.mem_cons.mp z with z | z
        · exact .inr (.inl z)
        · exact .inl z
      · exact z.elim
      · exact .inr (.inr z)⟩
theorem Pf.fin (q : Pf H0 T N n d wl (fun m => m = x) F W la H) (h : ∀ t ∈ T x, t ∈ F) : Pf H0 T N n d wl (fun _ => False) F W la H :=
  ⟨q.same, q.d0, q.w0, q.hd, q.hw, q.pa, q.pw, q.nd, q.sub, q.me, q.rc, q.wf, q.wn, fun m hm => by
    rcases q.cl m hm with z | z | z
    · exact .inl z
    · exact .inr (.inr (by rw [z]; exact h))
    · exact .inr (.inr z)⟩
theorem Pf.add (q : Pf H0 T N n d wl (fun m => m = x) F W la H) (hx : x ∈ F) (ht : t ∈ T x) (hn : t ∉ F) (htN : t ∈ N) (s : Same H H1) (hp : H p = none) {xs : List V} (h1 : H1 p = some (.lst xs)) (hl : xs.length ≤ F.length + 1) :
    Pf H0 T N n d wl (fun m => m = x) (F ++ [t]) (W ++ [t]) (setS la t p) (upd (upd H1 d (.dK (putK (kvS F fun m => .ref (la m)) (.inr t) (.ref p)))) wl (.lst (W.map V.str ++ [.str t]))) := by
  have r := q.keep s
  have pd : p ≠ d := fun z => by rw [z, q.hd] at hp; cases hp
  have pw : p ≠ wl := fun z => by rw [z, q.hw] at hp; cases hp
  have ne : ∀ m ∈ F, m ≠ t := fun m hm z => hn (by rw [← z]; exact hm)
  have ld : ∀ m ∈ F, la m ≠ d := fun m hm z => by
    obtain ⟨xs, e, _⟩ := q.pa m hm
    rw [z, q.hd] at e
    cases e
  refine ⟨sameTo (sameTo r.same q.d0) q.w0, q.d0, q.w0, ?_, ?_, fun m hm => ?_, fun m hm => ?_, ?_, fun m hm => ?_, List.mem_append_left _ q.me, fun m hm => ?_, fun m hm => ?_, ?_, fun m hm => ?_⟩
  · rw [upd_ne q.dw, upd_same, putK_new _ (kvS_no hn), kvS_app]
    have z : kvS F (fun m => .ref (la m)) = kvS F (fun m => .ref (setS la t p m)) := kvS_congr fun m hm => by rw [setS_ne (ne m hm)]
    rw [z]
    show _ = some (HO.dK (_ ++ [((Sum.inr t : Key), V.ref (setS la t p t))]))
    rw [setS_same]
  · rw [upd_same, List.map_append]
    rfl
  · rcases List.mem_append.mp hm with hm | hm
    · obtain ⟨ys, e, l⟩ := r.pa m hm
      rw [setS_ne (ne m hm), upd_ne (q.pw m hm), upd_ne (ld m hm), List.length_append]
      exact ⟨ys, e, by omega⟩
    · rw [List.mem_singleton.mp hm, setS_same, upd_ne pw, upd_ne pd, List.length_append]
      exact ⟨xs, h1, hl⟩
  · rcases List.mem_append.mp hm with hm | hm
    · rw [setS_ne (ne m hm)]
      exact q.pw m hm
    · rw [List.mem_singleton.mp hm, setS_same]
      exact pw
  · exact List.nodup_append.mpr ⟨q.nd, by simp, fun a ha b hb z => hn (by rw [← List.mem_singleton.mp hb, ← z]; exact ha)⟩
  · rcases List.mem_append.mp hm with hm | hm
    · exact q.sub m hm
    · rw [List.mem_singleton.mp hm]
      exact htN
  · rcases List.mem_append.mp hm with hm | hm
    · exact q.rc m hm
    · rw [List.mem_singleton.mp hm]
      exact (q.rc x hx).step ht
  · rcases List.mem_append.mp hm with hm | hm
    · exact List.mem_append_left _ (q.wf m hm)
    · exact List.mem_append_right _ hm
  · rw [List.length_append, List.length_append]
    exact Nat.add_le_add_right q.wn 1
  · rcases List.mem_append.mp hm with hm | hm
    · rcases q.cl m hm with z | z | z
      · exact .inl (List.mem_append_left _ z)
      · exact .inr (.inl z)
      · exact .inr (.inr fun y hy => List.mem_append_left _ (z y hy))
    · exact .inl (List.mem_append_right _ hm)
theorem Pf.done (q : Pf H0 T N n d wl (fun _ => False) F [] la H) : ∀ m, m ∈ F ↔ Rc T n m := fun m =>
  ⟨q.rc m, fun h => h.closed (C := fun m => m ∈ F) (fun a b ha hb => by
    rcases q.cl a ha with z | z | z
    · cases z
    · exact z.elim
    · exact z b hb) q.me⟩
theorem Pf.len (q : Pf H0 T N n d wl busy F W la H) (hN : N.length ≤ 10) : F.length ≤ 10 := Nat.le_trans (nodup_len q.nd q.sub) hN
end
section
variable {P : Program} {w : World} {K : PySem.W.Frag} {mg : Str → Option Value} {base : Heap}
theorem ok_N_init (T : Tx K mg) : Mak P w K mg base 1 "Needs" (He.ga K "Needs") (spN_init (He.ga K "Needs")) := by
  have sc : FnScope ["self"] ["self"] (defScope sN_init) := ⟨rfl, rfl, rfl, by decide +kernel, rfl, by decide +kernel, by decide +kernel⟩
  have nd := sc.nd
  refine mak_of T.fN_init T.mkN T.g_Needs sc (fun z F => F.bindsN fun _ _ _ _ _ _ us hl => match us, hl with | [_], _ => rfl) (fun vs H Q E h => ?_) fun cdv A outer s H vs Q E hr h => ?_
  · obtain ⟨p, dx, rfl, _⟩ := h
    rfl
  obtain ⟨p, dx, rfl, hp, q⟩ := h
  refine ⟨_, (pss_one (ps_fld (pv 0) pe_dnewK rfl)), ?_⟩
  intro d hd
  refine ⟨_, rfl, p, _, dx, [], rfl, by rw [upd_ne (ne_of_none hp hd)]; exact hp, T.clN, T.nN_own_targets, by decide, q d hd⟩
theorem ok_N_targets (T : Tx K mg) : Met P w K mg base 1 (He.ga K "Needs") "targets" (spN_targets (He.ga K "Needs")) := by
  have sc : FnScope ["self", "name"] ["self", "name"] (defScope sN_targets) := ⟨rfl, rfl, rfl, by decide +kernel, rfl, by decide +kernel, by decide +kernel⟩
  have nd := sc.nd
  refine met_of T.fN_targets T.clN T.mN_targets sc (fun z F => F.bindsN fun _ _ _ _ _ _ us hl => match us, hl with | [_, _], _ => rfl) (fun vs H Q E h => ?_) fun cdv A outer s H vs Q E hr h => ?_
  · obtain ⟨A, N, g, n, rfl, _⟩ := h
    rfl
  obtain ⟨A, N, g, n, rfl, at_, hN, hg, q⟩ := h
  have hp := at_.is .p _ rfl
  have hd := at_.is .d _ rfl
  refine ⟨_, (pss_one (ps_ret (pe_ifExp (PW.pt (pw_and (pt_val (pe_callB call_isi rfl T.b_isinstance (by decide +kernel) (pa_cons (pv 1) (pa_cons (pe_bltn (v := .ty "str") rfl T.b_str PyProof.Rows.boot_str rfl) pa_nil)))) (pw_and1 (pt_cmp (pc_din (hu hr) (pv 1) (pe_fldK K (pv 0))))))) (pe_callB (call_sortedD rfl) rfl T.b_sorted (by decide +kernel) (pa_cons (pe_dget (hu hr) (pe_fldK K (pv 0)) (pv 1) (fun _ _ => rfl)) pa_nil)) (pe_lst pa_nil)))), ?_⟩
  refine ⟨_, rfl, _, _, _, _, _, rfl, .ty _, .base (.str _), rfl, true, rfl, _, rfl, _, rfl, _, _, _, _, _, rfl, hp, T.clN, T.nN_own_targets, rfl, _, _, rfl, dgS (.inl hd), _, rfl, ?_⟩
  by_cases e : n ∈ g.S
  · rw [if_pos e]
    have ht := at_.is (.t n) _ (if_pos e)
    refine ⟨_, rfl, _, _, _, _, _, rfl, hp, T.clN, T.nN_own_targets, rfl, _, rfl, _, _, rfl, dgY (.inl hd) e, ?_⟩
    refine ⟨_, _, _, rfl, .inl ht, kvS_keys, ?_, fun ys l pm so hl => q _ l ys (sameNew hl) hl upd_same pm⟩
    have := nodup_len (hg.tn n) (hg.ts n)
    have := hN.le
    omega
  · rw [if_neg e]
    exact ⟨by rw [sizeLine_eq]; decide, fun l hl => q _ l [] (sameNew hl) hl upd_same (by rw [hg.te n e])⟩
theorem ok_N_paths (T : Tx K mg) : Met P w K mg base 2 (He.ga K "Needs") "paths_from" (spN_paths (He.ga K "Needs")) := by
  have sc : FnScope ["self", "name", "found", "waiting", "here", "target"] ["self", "name"] (defScope sN_paths_from) := ⟨rfl, rfl, rfl, by decide +kernel, rfl, by decide +kernel, by decide +kernel⟩
  have nd := sc.nd
  refine met_of T.fN_paths_from T.clN T.mN_paths_from sc (fun z F => F.bindsN fun _ _ _ _ _ _ us hl => match us, hl with | [_, _], _ => rfl) (fun vs H Q E h => ?_) fun cdv A outer s H vs Q E hr h => ?_
  · obtain ⟨A, N, g, n, rfl, _⟩ := h
    rfl
  obtain ⟨A, N, g, n, rfl, at_, hN, hg, hn, q⟩ := h
  have hs : 1000 ≤ sizeLine := by rw [sizeLine_eq]; decide
  refine ⟨_, (pss_cons (ps_set (i := 2) nd rfl (.inl rfl) (pe_disp (pps_cons (pv 1) (pe_lst (pa_cons (pv 1) pa_nil)) pps_nil) rfl rfl (by decide) (by decide)))
      (pss_cons (ps_set (i := 3) nd rfl (.inl rfl) (pe_lst (pa_cons (pv 1) pa_nil)))
      (pss_cons (ps_while PassesOwn.never (pt_cmpR (op_neD (hu64 hr)) (pv 3) (pe_lst pa_nil) (nomark _)) (pss_cons (ps_set (i := 4) nd rfl (.inl rfl) (pe_bm PySem.F.plainAttrs_list PySem.F.slot_list_pop PySem.F.type_list_pop mt_popAt (pv 3) (pa_cons pe_int pa_nil)))
      (pss_one (ps_for PassesOwn.never rfl (pi_list (pe_mt (ok_N_targets T) hr (by decide) (pv 0) (pa_cons (pv 4) pa_nil))) (pg_name (i := 5) nd rfl (.inl rfl)) (pss_one (ps_if (pt_cmp (pc_dnotin (hu hr) (pv 5) (pv 2))) (pss_cons (ps_dput (hu hr) (pv 2) (pv 5) (pe_op op_cat (pe_dget (hu hr) (pv 2) (pv 4) (fun _ _ => rfl)) (pe_lst (pa_cons (pv 5) pa_nil))) rfl)
      (pss_one (ps_expr (pe_bm PySem.F.plainAttrs_list PySem.F.slot_list_append PySem.F.type_list_append mt_append (pv 3) (pa_cons (pv 5) pa_nil))))) pss_nil))))))
      (pss_one (ps_ret (pv 2)))))), ?_⟩
  intro d hd
  refine ⟨_, rfl, _, rfl, (by show 1 ≤ sizeLine; omega), fun a0 ha0 => ?_⟩
  have da : d ≠ a0 := fun z => by rw [← z, upd_same] at ha0; cases ha0
  have ha1 : H a0 = none := by rw [upd_ne da.symm] at ha0; exact ha0
  refine ⟨by rw [upd_ne da, upd_same], [(.inr n, .ref a0)], rfl, (by show 1 ≤ 15; omega), ?_⟩
  refine ⟨_, rfl, (by show 1 ≤ sizeLine; omega), fun wl hw => ?_⟩
  have wa : wl ≠ a0 := fun z => by rw [z, upd_ne da.symm, upd_same] at hw; cases hw
  have wd : wl ≠ d := fun z => by rw [z, upd_same] at hw; cases hw
  have hw1 : H wl = none := by rw [upd_ne wd, upd_ne wa, upd_ne wd] at hw; exact hw
  -- the loop
  let Wv : Nat → L2.St → Hp → Prop := fun m σ H' => ∃ F W la h t, σ = [some (.ref (A .p)), some (.str n), some (.ref d), some (.ref wl), h, t] ∧ Pf H g.T N n d wl (fun _ => False) F W la H' ∧ m = 2 * (10 - F.length) + W.length
  refine ⟨Wv, ⟨_, [n], [n], fun _ => a0, none, none, rfl, ⟨?_, hd, hw1, ?_, upd_same, fun m hm => ⟨[.str n], ?_, Nat.le_refl 1⟩, fun m _ => wa.symm, by simp, fun m hm => ?_, by simp, fun m hm => ?_, fun m hm => hm, Nat.le_refl 1, fun m hm => .inl hm⟩, rfl⟩, ?_⟩
  · exact sameTo (sameTo (sameTo (sameNew hd) ha1) hd) hw1
  · rw [upd_ne wd.symm, upd_same]
    rfl
  · rw [upd_ne wa.symm, upd_ne da.symm, upd_same]
  · rw [List.mem_singleton.mp hm]
    exact hn
  · rw [List.mem_singleton.mp hm]
    exact .refl
  rintro m σ H1 ⟨F, W, la, h, t, rfl, pf, rfl⟩
  have lF := pf.len hN.le
  refine ⟨_, rfl, (by show 0 ≤ sizeLine; omega), fun z hz => ?_⟩
  have pf := pf.keep (sameNew (o := .lst []) hz)
  refine ⟨_, _, dp_strs (.inl (.inl pf.hw)), nil_strs K upd_same, shaped_strs fun m hm => hN.nm m (pf.sub m (pf.wf m hm)), shaped_nil, _, rfl, ?_⟩
  rw [eqv_nil]
  cases W with
  | nil =>
    refine iteF ⟨_, rfl, ?_⟩
    exact q _ d F _ pf.same pf.hd pf.nd lF pf.done
  | cons x W =>
    refine iteT ⟨fun σ' H' => ∃ m', m' < 2 * (10 - F.length) + (x :: W).length ∧ Wv m' σ' H', fun σ' H' z => z, ?_⟩
    refine ⟨_, rfl, .inl ⟨rfl, _, .inl (.inl pf.hw)⟩, wl, _, 0, 0, .str x, rfl, rfl, pf.hw, by decide, by decide, seq0 _, rfl, ?_⟩
    have p2 := pf.pop
    have xF := pf.wf x List.mem_cons_self
    have a2 := at_.same p2.same
    refine ⟨_, rfl, _, _, _, rfl, a2.is .p _ rfl, rfl, _, rfl, A, N, g, x, rfl, a2, hN, hg, fun H3 l ys s3 hl el pm => ?_⟩
    have p3 := p2.keep s3
    have ld : l ≠ d := (ne_of_none p2.hd hl).symm
    have lw : l ≠ wl := (ne_of_none p2.hw hl).symm
    refine ⟨l, rfl, ⟨_, .inl (.inl el)⟩, for_it walk_list (fun i σ H' => ∃ F' W' la' t', σ = [some (.ref (A .p)), some (.str n), some (.ref d), some (.ref wl), some (.str x), t'] ∧ Pf H g.T N n d wl (fun m => m = x) F' W' la' H' ∧ H' l = some (.lst (ys.map V.str)) ∧
      x ∈ F' ∧ (∀ t ∈ ys.take i, t ∈ F') ∧ 2 * (10 - F'.length) + W'.length ≤ 2 * (10 - F.length) + W.length) ⟨F, W, la, _, rfl, p3, el, xF, fun t ht => (List.not_mem_nil ht).elim, Nat.le_refl _⟩ (fun i σ H' _ ⟨_, _, _, _, _, _, e, _⟩ => .inl (.inl e)) ?_ ?_⟩
    · rintro i y σ H4 _ hi ⟨F', W', la', t', rfl, pf4, e4, x4, tk4, m4⟩ ⟨rfl, ey⟩
      rw [List.getElem?_map] at ey
      obtain ⟨t, et, rfl⟩ := Option.map_eq_some_iff.mp ey
      have tT : t ∈ g.T x := pm.mem_iff.mp (List.mem_of_getElem? et)
      refine ⟨_, rfl, _, rfl, _, _, rfl, dgS (.inl pf4.hd), _, rfl, ?_⟩
      by_cases c : t ∈ F'
      · rw [if_pos c]
        refine ⟨F', W', la', _, rfl, pf4, e4, x4, fun y hy => ?_, m4⟩
        rw [take_at et] at hy
        rcases List.mem_append.mp hy with hy | hy
        · exact tk4 y hy
        · rw [List.mem_singleton.mp hy]
          exact c
      · rw [if_neg c]
        obtain ⟨xs, ex, lx⟩ := pf4.pa x x4
        have l4 := pf4.len hN.le
        refine ⟨_, rfl, _, rfl, _, _, rfl, dgY (.inl pf4.hd) x4, _, rfl, (by show 1 ≤ sizeLine; omega), fun q1 hq1 => ?_⟩
        have s5 := sameNew (o := .lst [.str t]) hq1
        refine ⟨_, _, xs, [.str t], rfl, rfl, s5 _ _ ex, upd_same, (by show xs.length + 1 ≤ sizeLine; omega), fun p5 hp5 => ?_⟩
        have s6 := s5.trans (sameNew (o := .lst (xs ++ [.str t])) hp5)
        have p6 := pf4.add x4 tT c (hg.ts x t tT) s6 (s5.free hp5) upd_same (by rw [List.length_append]; show xs.length + 1 ≤ _; omega)
        refine ⟨_, rfl, _, rfl, d, _, rfl, .inl ⟨_, .inr t, s6 _ _ pf4.hd, rfl, by rw [kvS_len]; omega, rfl⟩, ?_⟩
        refine ⟨_, rfl, .inl ⟨rfl, W'.map V.str, .inl (.inl ?_)⟩, _, rfl, wl, W'.map V.str, _, rfl, rfl, ?_, ?_, ?_⟩
        · rw [upd_ne pf4.dw.symm]
          exact s6 _ _ pf4.hw
        · rw [upd_ne pf4.dw.symm]
          exact s6 _ _ pf4.hw
        · have z := pf4.wn
          rw [List.length_map]
          omega
        · have l5 := p6.len hN.le
          refine ⟨_, _, _, _, rfl, p6, ?_, List.mem_append_left _ x4, fun y hy => ?_, ?_⟩
          · rw [upd_ne lw, upd_ne ld]
            exact s6 _ _ e4
          · rw [take_at et] at hy
            rcases List.mem_append.mp hy with hy | hy
            · exact List.mem_append_left _ (tk4 y hy)
            · exact List.mem_append_right _ hy
          · rw [List.length_append] at l5 ⊢
            rw [List.length_append]
            simp only [List.length_cons, List.length_nil] at l5 ⊢
            omega
    · rintro σ H4 ⟨F', W', la', t', rfl, pf4, e4, x4, tk4, m4⟩
      refine ⟨_, ?_, F', W', la', _, _, rfl, pf4.fin fun t ht => tk4 t ?_, rfl⟩
      · show _ < _ + (W.length + 1)
        omega
      · rw [List.length_map, List.take_length]
        exact pm.mem_iff.mpr ht
theorem ok_N_depends (T : Tx K mg) : Met P w K mg base 3 (He.ga K "Needs") "depends" (spN_depends (He.ga K "Needs")) := by
  have sc : FnScope ["self", "one", "other"] ["self", "one", "other"] (defScope sN_depends) := ⟨rfl, rfl, rfl, by decide +kernel, rfl, by decide +kernel, by decide +kernel⟩
  have nd := sc.nd
  refine met_of T.fN_depends T.clN T.mN_depends sc (fun z F => F.bindsN fun _ _ _ _ _ _ us hl => match us, hl with | [_, _, _], _ => rfl) (fun vs H Q E h => ?_) fun cdv A outer s H vs Q E hr h => ?_
  · obtain ⟨A, N, g, n, m, rfl, _⟩ := h
    rfl
  obtain ⟨A, N, g, n, m, rfl, at_, hN, hg, hn, hm, q⟩ := h
  refine ⟨_, (pss_cons (ps_expr (pe_c (ok_want_names T) hr (by decide) rfl (pa_cons (pe_lst (pa_cons (pv 1) (pa_cons (pv 2) pa_nil))) pa_nil)))
      (pss_one (ps_ret (pe_cmp (pc_din (hu hr) (pv 2) (pe_mt (ok_N_paths T) hr (by decide) (pv 0) (pa_cons (pv 1) pa_nil))))))), ?_⟩
  refine ⟨_, rfl, _, rfl, (by rw [sizeLine_eq]; show 2 ≤ _; decide), fun l hl => ?_⟩
  refine ⟨l, [n, m], rfl, .inl (.inl upd_same), fun x hx => ?_, (by show 2 ≤ 100; decide), fun H2 s2 => ?_⟩
  · rcases List.mem_cons.mp hx with rfl | hx
    · exact hN.nm _ hn
    · rw [List.mem_singleton.mp hx]
      exact hN.nm _ hm
  have s3 := (sameNew hl).trans s2
  refine ⟨_, rfl, _, rfl, _, _, _, rfl, (at_.same s3).is .p _ rfl, rfl, _, rfl, A, N, g, n, rfl, at_.same s3, hN, hg, hn, fun H4 d F f s4 e4 _ _ hF => ?_⟩
  refine ⟨_, _, rfl, dgS (.inl e4), q _ _ (s3.trans s4) ?_⟩
  rw [← hF]
  by_cases c : m ∈ F
  · rw [if_pos c]
    exact ⟨fun _ => c, fun _ => rfl⟩
  · rw [if_neg c]
    exact ⟨fun z => (by cases z), fun z => absurd z c⟩
theorem ok_N_closure (T : Tx K mg) : Met P w K mg base 3 (He.ga K "Needs") "closure" (spN_closure (He.ga K "Needs")) := by
  have sc : FnScope ["self", "name"] ["self", "name"] (defScope sN_closure) := ⟨rfl, rfl, rfl, by decide +kernel, rfl, by decide +kernel, by decide +kernel⟩
  have nd := sc.nd
  refine met_of T.fN_closure T.clN T.mN_closure sc (fun z F => F.bindsN fun _ _ _ _ _ _ us hl => match us, hl with | [_, _], _ => rfl) (fun vs H Q E h => ?_) fun cdv A outer s H vs Q E hr h => ?_
  · obtain ⟨A, N, g, n, rfl, _⟩ := h
    rfl
  obtain ⟨A, N, g, n, rfl, at_, hN, hg, hn, q⟩ := h
  refine ⟨_, (pss_cons (ps_expr (pe_c (ok_want_names T) hr (by decide) rfl (pa_cons (pe_lst (pa_cons (pv 1) pa_nil)) pa_nil)))
      (pss_one (ps_ret (pe_callB (call_sortedD rfl) rfl T.b_sorted (by decide +kernel) (pa_cons (pe_mt (ok_N_paths T) hr (by decide) (pv 0) (pa_cons (pv 1) pa_nil)) pa_nil))))), ?_⟩
  refine ⟨_, rfl, (by rw [sizeLine_eq]; show 1 ≤ _; decide), fun l hl => ?_⟩
  refine ⟨l, [n], rfl, .inl (.inl upd_same), fun x hx => ?_, (by show 1 ≤ 100; decide), fun H2 s2 => ?_⟩
  · rw [List.mem_singleton.mp hx]
    exact hN.nm _ hn
  have s3 := (sameNew hl).trans s2
  refine ⟨_, rfl, _, _, _, rfl, (at_.same s3).is .p _ rfl, rfl, _, rfl, A, N, g, n, rfl, at_.same s3, hN, hg, hn, fun H4 d F f s4 e4 ndF lF hF => ?_⟩
  refine ⟨d, _, F, rfl, .inl e4, kvS_keys, by omega, fun ys p pm _ hp => q _ p ys ((s3.trans s4).trans (sameNew hp)) upd_same (by rw [pm.length_eq]; exact lF) fun m => ?_⟩
  rw [pm.mem_iff, hF]
theorem ok_N_record (T : Tx K mg) : Met P w K mg base 3 (He.ga K "Needs") "record" (spN_record (He.ga K "Needs")) := by
  have sc : FnScope ["self", "source", "target", "is_new"] ["self", "source", "target"] (defScope sN_record) := ⟨rfl, rfl, rfl, by decide +kernel, rfl, by decide +kernel, by decide +kernel⟩
  have nd := sc.nd
  refine met_of T.fN_record T.clN T.mN_record sc (fun z F => F.bindsN fun _ _ _ _ _ _ us hl => match us, hl with | [_, _, _], _ => rfl) (fun vs H Q E h => ?_) fun cdv A outer sh H vs Q E hr h => ?_
  · obtain ⟨A, N, g, n, m, rfl, _⟩ := h
    rfl
  obtain ⟨A, N, g, s, t, rfl, at_, hN, hg, hs, ht, q⟩ := h
  refine ⟨_, (pss_cons (ps_expr (pe_c (ok_want_names T) hr (by decide) rfl (pa_cons (pe_lst (pa_cons (pv 1) (pa_cons (pv 2) pa_nil))) pa_nil)))
      (C8.pss_cut (ps_if (pt_cmp (pc_dnotin (hu hr) (pv 1) (pe_fldK K (pv 0)))) (pss_one (ps_dput (hu hr) (pe_fldK K (pv 0)) (pv 1) pe_dnewK rfl)) pss_nil)
      (pss_cons (ps_set (i := 3) nd rfl (.inl rfl) (pe_cmp (pc_dnotin (hu hr) (pv 2) (pe_dget (hu hr) (pe_fldK K (pv 0)) (pv 1) (fun _ _ => rfl)))))
      (pss_cons (ps_dput (hu hr) (pe_dget (hu hr) (pe_fldK K (pv 0)) (pv 1) (fun _ _ => rfl)) (pv 2) pe_bl rfl)
      (pss_one (ps_ret (pv 3))))))), ?_⟩
  refine ⟨_, rfl, _, rfl, (by rw [sizeLine_eq]; show 2 ≤ _; decide), fun l hl => ?_⟩
  refine ⟨l, [s, t], rfl, .inl (.inl upd_same), fun x hx => ?_, (by show 2 ≤ 100; decide), fun H2 s2 => ?_⟩
  · rcases List.mem_cons.mp hx with rfl | hx
    · exact hN.nm _ hs
    · rw [List.mem_singleton.mp hx]
      exact hN.nm _ ht
  have s3 := (sameNew hl).trans s2
  have a3 := at_.same s3
  have hp := a3.is .p _ rfl
  have hd := a3.is .d _ rfl
  have sz : 1000 ≤ sizeLine := by rw [sizeLine_eq]; decide
  have lS := nodup_len hg.sn hg.ss
  have lT := nodup_len (hg.tn s) (hg.ts s)
  have lN := hN.le
  let g1 : Gr := ⟨addS g.S s, g.T⟩
  refine ⟨fun σ' H' => σ' = [some (.ref (A .p)), some (.str s), some (.str t), none] ∧ ∃ A1, At H' A1 (obN (He.ga K "Needs") A1 g1) ∧ A1 .p = A .p ∧ Fr (Fp A (obN (He.ga K "Needs") A g)) (Fp A1 (obN (He.ga K "Needs") A1 g1)) H H', ?_, ?_⟩
  · refine ⟨_, rfl, _, rfl, _, _, _, _, _, rfl, hp, T.clN, T.nN_own_targets, rfl, _, _, rfl, dgS (.inl hd), _, rfl, ?_⟩
    by_cases c : s ∈ g.S
    · rw [if_pos c]
      have e1 : g1 = g := by
        show Gr.mk (addS g.S s) g.T = g
        rw [show addS g.S s = g.S from if_pos c]
      rw [e1]
      exact ⟨rfl, A, a3, rfl, .of_same s3 fun _ z => z⟩
    · rw [if_neg c]
      intro p5 hp5
      have pp : A .p ≠ p5 := ne_of_none hp hp5
      have pd : A .d ≠ p5 := ne_of_none hd hp5
      refine ⟨_, rfl, _, _, _, _, _, rfl, by rw [upd_ne pp]; exact hp, T.clN, T.nN_own_targets, rfl, _, rfl, A .d, _, rfl, .inl ⟨_, .inr s, by rw [upd_ne pd]; exact hd, rfl, by rw [kvS_len]; omega, rfl⟩, rfl, atT A s p5, ?_⟩
      have z := At.new (A' := atT A s p5) (ob := obN (He.ga K "Needs") A g) (ob' := obN (He.ga K "Needs") (atT A s p5) g1) a3 (l0 := .d) (l1 := .t s) (o1 := .dK []) (o0' := .dK (putK (kvS g.S fun s => .ref (A (.t s))) (.inr s) (.ref p5))) rfl (fun z => by cases z) hp5 ?_ ?_ (fun _ z => by cases z) (fun _ z => by cases z) (fun m h0 h1 => ?_) (if_pos rfl) fun m h1 => ?_
      · exact ⟨z.1, rfl, (Fr.of_same s3 fun _ z => z).trans z.2⟩
      · show (if s ∈ addS g.S s then some (HO.dK (kvS (g.T s) fun _ => .bl true)) else none) = _
        rw [if_pos (mem_addS.mpr (.inr rfl)), hg.te s c]
        rfl
      · rw [kvS_put]
        show some (HO.dK (kvS (addS g.S s) _)) = some (HO.dK (kvS (addS g.S s) _))
        congr 2
        refine kvS_congr fun m _ => ?_
        show V.ref (if m = s then p5 else A (.t m)) = setS _ s _ m
        unfold setS
        split <;> rfl
      · cases m with
        | p => rfl
        | dx => rfl
        | d => exact absurd rfl h0
        | t x =>
          have hx : x ≠ s := fun z => h1 (by rw [z])
          show (if x ∈ addS g.S s then some (HO.dK (kvS (g.T x) fun _ => .bl true)) else none) = if x ∈ g.S then _ else none
          by_cases cx : x ∈ g.S
          · rw [if_pos cx, if_pos (mem_addS.mpr (.inl cx))]
          · rw [if_neg cx, if_neg fun z => (mem_addS.mp z).elim cx hx]
      · cases m with
        | t x =>
          have hx : x ≠ s := fun z => h1 (by rw [z])
          exact if_neg hx
        | _ => rfl
  · rintro σ' H3 ⟨rfl, A1, a4, hAp, f4⟩
    have c : s ∈ g1.S := mem_addS.mpr (.inr rfl)
    have lS1 : g1.S.length ≤ 1000 := by
      have : (addS g.S s).length ≤ g.S.length + 1 := by
        unfold addS
        split
        · omega
        · rw [List.length_append]
          exact Nat.le_refl _
      show (addS g.S s).length ≤ 1000
      omega
    rw [← hAp]
    have hp := a4.is .p _ rfl
    have hd := a4.is .d _ rfl
    have hs3 := a4.is (.t s) _ (if_pos c)
    refine ⟨_, rfl, _, rfl, _, _, _, _, _, rfl, hp, T.clN, T.nN_own_targets, rfl, _, rfl, _, _, rfl, dgY (.inl hd) c, _, _, rfl, dgS (.inl hs3), ?_⟩
    refine ⟨_, rfl, _, _, _, _, _, rfl, hp, T.clN, T.nN_own_targets, rfl, _, rfl, _, _, rfl, dgY (.inl hd) c, _, rfl, A1 (.t s), _, rfl, .inl ⟨_, .inr t, hs3, rfl, by rw [kvS_len]; show (g.T s).length < _; omega, rfl⟩, ?_⟩
    have z := At.putf (ob := obN (He.ga K "Needs") A1 g1) (ob' := obN (He.ga K "Needs") A1 (g.rcd s t)) (o' := .dK (putK (kvS (g.T s) fun _ => .bl true) (.inr t) (.bl true))) a4 (l := .t s) (if_pos c) ?_ (fun _ z => by cases z) fun m hm => ?_
    · exact ⟨_, rfl, q _ A1 _ z.1 hAp (f4.trans z.2)⟩
    · show (if s ∈ addS g.S s then some (HO.dK (kvS (setS g.T s (addS (g.T s) t) s) fun _ => .bl true)) else none) = _
      rw [if_pos c, setS_same, kvS_put]
      congr 2
      exact kvS_congr fun m _ => by unfold setS; split <;> rfl
    · cases m with
      | t x =>
        have hx : x ≠ s := fun z => hm (by rw [z])
        show (if x ∈ addS g.S s then some (HO.dK (kvS (setS g.T s (addS (g.T s) t) x) fun _ => .bl true)) else none) = _
        rw [setS_ne hx]
        rfl
      | _ => rfl
theorem ok_N_clone (T : Tx K mg) : Met P w K mg base 3 (He.ga K "Needs") "clone" (spN_clone (He.ga K "Needs")) := by
  have sc : FnScope ["self", "found", "source", "targets"] ["self"] (defScope sN_clone) := ⟨rfl, rfl, rfl, by decide +kernel, rfl, by decide +kernel, by decide +kernel⟩
  have nd := sc.nd
  refine met_of T.fN_clone T.clN T.mN_clone sc (fun z F => F.bindsN fun _ _ _ _ _ _ us hl => match us, hl with | [_], _ => rfl) (fun vs H Q E h => ?_) fun cdv A outer sh H vs Q E hr h => ?_
  · obtain ⟨A, N, g, rfl, _⟩ := h
    rfl
  obtain ⟨A, N, g, rfl, at_, hN, hg, q⟩ := h
  refine ⟨_, (C8.pss_cut (ps_set (i := 1) nd rfl (.inl rfl) (pe_mk0 (ok_N_init T) hr (by decide) rfl))
      (pss_cons (ps_fld (pv 1) (pe_lock (pe_dc (own := [("source", 2), ("targets", 3)]) (g := (gTup K 2 (gCons (gName 2) (gCons (gName 3) gNil)))) (tt := tYes) rfl nd (pi_items (pe_fldK K (pv 0))) (blkOk_by (by rfl)) (fun _ _ _ _ _ => (pg_tup rfl (pgs_cons (pg_name (i := 2) nd rfl (.inl rfl)) (pgs_cons (pg_name (i := 3) nd rfl (.inl rfl)) pgs_nil)))) (fun _ _ _ _ _ => pts_nil) (fun _ _ _ _ _ => (pv 2)) (fun _ _ _ _ _ => (pe_callTy call_dictD rfl T.b_dict (by decide +kernel) (pa_cons (pv 3) pa_nil))))) rfl)
      (pss_one (ps_ret (pv 1))))), ?_⟩
  refine ⟨fun σ' H1 => ∃ x dx d0, σ' = [some (.ref (A .p)), some (.ref x), none, none] ∧ H x = none ∧ Same H H1 ∧ H1 x = some (.ins (He.ga K "Needs") dx [("own_targets", .ref d0)]), ?_, ?_⟩
  · intro x dx hx hdx nx
    refine ⟨x, dx, rfl, upd_same, fun d0 hd0 => ⟨rfl, x, dx, d0, rfl, hx, ?_, upd_same⟩⟩
    have hd1 : H d0 = none := (sameTo (o := .ins (He.ga K "Needs") dx []) (sameNew (o := .own x) hdx) hx).free hd0
    exact sameTo (sameTo (sameTo (sameNew hdx) hx) hd1) hx
  rintro σ' H1 ⟨x, dx, d0, rfl, hx, s1, e1⟩
  have a1 := at_.same s1
  have hp := a1.is .p _ rfl
  have hd := a1.is .d _ rfl
  have npd : A .p ≠ A .d := fun z => by rw [z, hd] at hp; cases hp
  refine ⟨A .d, _, hd, trivial, fun od => ?_⟩
  have dt : ∀ s ∈ g.S, A (.t s) ≠ A .d := fun s hs z => by
    have y := a1.inj (.t s) .d _ _ (if_pos hs) rfl z
    cases y
  refine ⟨_, rfl, _, _, _, _, _, rfl, by rw [upd_ne npd]; exact hp, T.clN, T.nN_own_targets, rfl, A .d, od, _, rfl, upd_same, fun D hD => ?_⟩
  have lS := Nat.le_trans (nodup_len hg.sn hg.ss) hN.le
  refine gen_it walk_itemsS (Dn _ D g.S fun s => .dK (kvS (g.T s) fun _ => .bl true)) (Dn.start hD) (fun i H' _ q => q.same _ _ upd_same) ?_ fun H3 q3 => ?_
  · rintro i v H3 H4 hi q3 ⟨T1, n, en, rfl, hT, rfl⟩
    have nS := List.mem_of_getElem? en
    refine ⟨T1, [.str n, .ref (A (.t n))], rfl, .inl (.inl upd_same), rfl, _, _, rfl, _, _, rfl, rfl, rfl, ?_⟩
    refine ⟨_, rfl, _, rfl, A (.t n), _, rfl, .inl ((q3.same.trans (sameNew hT)) _ _ (by rw [upd_ne (dt n nS)]; exact a1.is (.t n) _ (if_pos nS))), fun p hp => ?_⟩
    exact q3.step hg.sn (by omega) en (sameTo (sameNew hT) ((sameNew hT).free hp)) ((sameNew hT).free hp) upd_same
  · obtain ⟨a, h1, h2, h3⟩ := q3.done (Nat.le_refl _)
    obtain ⟨u1, u2⟩ := unlock hd q3.same
    refine ⟨u1, ?_⟩
    have aD : D ≠ A .d := fun z => by rw [z, upd_same] at hD; cases hD
    have hD1 : H1 D = none := by rw [upd_ne aD] at hD; exact hD
    have ad : ∀ m ∈ g.S, a m ≠ A .d := fun m hm z => by
      have y := (h2 m hm).2.1
      rw [z, upd_same] at y
      cases y
    have xm : ∀ m ∈ g.S, a m ≠ x := fun m hm z => by
      have y := (h2 m hm).2.1
      have xd : x ≠ A .d := fun z => by rw [z, hd] at e1; cases e1
      rw [z, upd_ne xd, e1] at y
      cases y
    have xD : x ≠ D := ne_of_none e1 hD1
    refine ⟨_, rfl, x, _, dx, _, rfl, u2 _ _ e1, T.clN, T.nN_own_targets, (by show 1 < 1000; decide), _, rfl, ?_⟩
    refine q _ (fun r => match r with | .p => x | .dx => dx | .d => D | .t s => a s) ?_ ?_
    · exact sameTo (s1.trans u2) hx
    · refine ⟨fun l o e => ?_, fun l l' o o' e e' z => ?_, fun l xs z => ?_⟩
      · cases l with
        | p =>
          obtain rfl := Option.some.inj e
          show upd _ x _ x = _
          rw [upd_same]
          rfl
        | dx => cases e
        | d =>
          obtain rfl := Option.some.inj e
          show upd _ x _ D = _
          rw [upd_ne xD.symm, upd_ne aD]
          exact h1
        | t s =>
          have e : (if s ∈ g.S then some (HO.dK (kvS (g.T s) fun _ => .bl true)) else none) = some o := e
          by_cases c : s ∈ g.S
          · rw [if_pos c] at e
            obtain rfl := Option.some.inj e
            show upd _ x _ (a s) = _
            rw [upd_ne (xm s c), upd_ne (ad s c)]
            exact (h2 s c).1
          · rw [if_neg c] at e
            cases e
      · have inS : ∀ s o, obN (He.ga K "Needs") (fun r => match r with | .p => x | .dx => dx | .d => D | .t s => a s) g (.t s) = some o → s ∈ g.S := fun s o e => by
          have e : (if s ∈ g.S then some (HO.dK (kvS (g.T s) fun _ => .bl true)) else none) = some o := e
          by_cases c : s ∈ g.S
          · exact c
          · rw [if_neg c] at e
            cases e
        exact match l, l', e, e', z with
          | .p, .p, _, _, _ => rfl
          | .dx, _, e, _, _ => nomatch e
          | .p, .dx, _, e', _ => nomatch e'
          | .d, .dx, _, e', _ => nomatch e'
          | .t _, .dx, _, e', _ => nomatch e'
          | .d, .d, _, _, _ => rfl
          | .p, .d, _, _, z => absurd z xD
          | .d, .p, _, _, z => absurd z.symm xD
          | .p, .t s, _, e', z => absurd z.symm (xm s (inS s _ e'))
          | .t s, .p, e, _, z => absurd z (xm s (inS s _ e))
          | .d, .t s, _, e', z => absurd z.symm (h2 s (inS s _ e')).2.2
          | .t s, .d, e, _, z => absurd z (h2 s (inS s _ e)).2.2
          | .t s, .t s', e, e', z => congrArg NR.t (h3 s s' (inS s _ e) (inS s' _ e') z)
      · exact obN_nt _ _ _ _ _ z
theorem ok_N_pairs (T : Tx K mg) : Met P w K mg base 1 (He.ga K "Needs") "pairs" (spN_pairs (He.ga K "Needs")) := by
  have sc : FnScope ["self", "source", "targets", "target"] ["self"] (defScope sN_pairs) := ⟨rfl, rfl, rfl, by decide +kernel, rfl, by decide +kernel, by decide +kernel⟩
  have nd := sc.nd
  refine met_of T.fN_pairs T.clN T.mN_pairs sc (fun z F => F.bindsN fun _ _ _ _ _ _ us hl => match us, hl with | [_], _ => rfl) (fun vs H Q E h => ?_) fun cdv A outer sh H vs Q E hr h => ?_
  · obtain ⟨A, N, g, rfl, _⟩ := h
    rfl
  obtain ⟨A, N, g, rfl, at_, hN, hg, q⟩ := h
  refine ⟨_, (pss_one (ps_ret (pe_callB cr_sortP rfl T.b_sorted (by decide +kernel) (pa_cons (pe_lks (pe_lc2 (own := [("source", 1), ("targets", 2), ("target", 3)]) (g := (gTup K 2 (gCons (gName 1) (gCons (gName 2) gNil)))) (tt := tYes) (g1 := (gName 3)) (tt1 := tYes) (vs1 := [3]) rfl nd (pi_items (pe_fldK K (pv 0))) (blkOk_by (by rfl)) (by decide) (fun _ _ _ _ _ => (pg_tup rfl (pgs_cons (pg_name (i := 1) nd rfl (.inl rfl)) (pgs_cons (pg_name (i := 2) nd rfl (.inl rfl)) pgs_nil)))) (fun _ _ _ _ _ => pts_nil) (fun _ _ _ _ _ => (pi_keys (pv 2))) (fun _ _ _ _ _ => (pg_name (i := 3) nd rfl (.inl rfl))) (fun _ _ _ _ _ => pts_nil) (fun _ _ _ _ _ => (pe_tup (pa_cons (pv 1) (pa_cons (pv 3) pa_nil)))))) pa_nil)))), ?_⟩
  have hd := at_.is .d _ rfl
  refine ⟨A .d :: g.S.map fun s => A (.t s), lk_ok _ ?_ H _ ?_ fun HL Qc h1 h2 h3 => ?_⟩
  · refine List.nodup_cons.mpr ⟨fun hm => ?_, ?_⟩
    · obtain ⟨s, hs, e⟩ := List.mem_map.mp hm
      have y := at_.inj (.t s) .d _ _ (if_pos hs) rfl e
      cases y
    · exact List.pairwise_map.mpr (hg.sn.imp_of_mem fun ha hb hab e => hab (NR.t.inj (at_.inj _ _ _ _ (if_pos ha) (if_pos hb) e)))
  · intro d hm
    rcases List.mem_cons.mp hm with rfl | hm
    · exact ⟨_, hd⟩
    · obtain ⟨s, hs, rfl⟩ := List.mem_map.mp hm
      exact ⟨_, at_.is (.t s) _ (if_pos hs)⟩
  have hp : HL (A .p) = some (.ins (He.ga K "Needs") (A .dx) [("own_targets", .ref (A .d))]) := by
    rw [h1]
    · exact at_.is .p _ rfl
    · intro hm
      rcases List.mem_cons.mp hm with e | hm
      · have y := at_.inj .p .d _ _ rfl rfl e
        cases y
      · obtain ⟨s, hs, e⟩ := List.mem_map.mp hm
        have y := at_.inj (.t s) .p _ _ (if_pos hs) rfl e
        cases y
  obtain ⟨od, kvs, e1, e2⟩ := h2 _ List.mem_cons_self
  rw [hd] at e1
  obtain rfl := (HO.dK.inj (Option.some.inj e1)).symm
  have ht : ∀ s ∈ g.S, ∃ od, HL (A (.t s)) = some (.frz od (.dK (kvS (g.T s) fun _ => .bl true))) := fun s hs => by
    obtain ⟨od, kvs, e1, e2⟩ := h2 (A (.t s)) (List.mem_cons_of_mem _ (List.mem_map.mpr ⟨s, hs, rfl⟩))
    rw [at_.is (.t s) _ (if_pos hs)] at e1
    obtain rfl := (HO.dK.inj (Option.some.inj e1)).symm
    exact ⟨od, e2⟩
  refine ⟨_, rfl, _, _, _, _, _, rfl, hp, T.clN, T.nN_own_targets, rfl, A .d, od, _, rfl, e2, fun D hD => ?_⟩
  -- what was collected
  let rows : Nat → List Pr := fun i => (g.S.take i).flatMap fun s => (g.T s).map fun t => (s, t)
  refine gen_it walk_itemsS (fun i H' => Same HL H' ∧ ∃ bs : List (Addr × Pr), H' D = some (.lst (bs.map fun e => V.ref e.1)) ∧ IsPrs H' bs ∧ bs.map (·.2) = rows i) ⟨sameNew hD, [], upd_same, fun _ h => (List.not_mem_nil h).elim, rfl⟩ (fun i H' _ q => q.1 _ _ e2) ?_ ?_
  · rintro i v H1 H2 hi ⟨s1, bs, eD, hbs, er⟩ ⟨T1, n, en, rfl, hT, rfl⟩
    have nS := List.mem_of_getElem? en
    obtain ⟨od2, eT⟩ := ht n nS
    have s2 := s1.trans (sameNew (o := .tup [V.str n, .ref (A (.t n))]) hT)
    refine ⟨T1, [.str n, .ref (A (.t n))], rfl, .inl (.inl upd_same), rfl, _, _, rfl, _, _, rfl, rfl, rfl, ?_⟩
    refine ⟨_, rfl, A (.t n), od2, rfl, .inl ⟨_, s2 _ _ eT, ?_⟩⟩
    have lb : ∀ l : List Str, (l.flatMap fun s => (g.T s).map fun t => ((s, t) : Pr)).length ≤ 10 * l.length := by
      intro l
      induction l with
      | nil => exact Nat.le_refl _
      | cons x l ih =>
        rw [List.flatMap_cons, List.length_append, List.length_map, List.length_cons]
        have := Nat.le_trans (nodup_len (hg.tn x) (hg.ts x)) hN.le
        omega
    have lS := Nat.le_trans (nodup_len hg.sn hg.ss) hN.le
    have lT := Nat.le_trans (nodup_len (hg.tn n) (hg.ts n)) hN.le
    refine gen_it walk_keysS (fun j H' => Same HL H' ∧ ∃ bs : List (Addr × Pr), H' D = some (.lst (bs.map fun e => V.ref e.1)) ∧ IsPrs H' bs ∧ bs.map (·.2) = rows i ++ ((g.T n).take j).map fun t => (n, t)) ⟨s2, bs, ?_, ?_, by rw [er]; simp⟩ (fun i H' _ q => q.1 _ _ eT) ?_ ?_
    · exact sameNew hT _ _ eD
    · exact fun e he => sameNew hT _ _ (hbs e he)
    · rintro j x H3 H4 hj ⟨s3, cs, eD3, hcs, er3⟩ ⟨rfl, t, et, rfl⟩
      refine ⟨rfl, _, rfl, _, rfl, (by rw [sizeLine_eq]; show 2 ≤ _; decide), fun p hp => ?_⟩
      have pD : p ≠ D := (ne_of_none eD3 hp).symm
      refine ⟨_, by rw [upd_ne pD.symm]; exact eD3, ?_, sameTo (sameTo s3 (s3.free hp)) hD, cs ++ [(p, (n, t))], ?_, ?_, ?_⟩
      · have z := congrArg List.length er3
        rw [List.length_map, List.length_append, List.length_map, List.length_take] at z
        have := lb (g.S.take i)
        rw [List.length_take] at this
        have e : (rows i).length = ((g.S.take i).flatMap fun s => (g.T s).map fun t => ((s, t) : Pr)).length := rfl
        rw [List.length_map, sizeLine_eq]
        omega
      · rw [upd_same, List.map_append]
        rfl
      · intro e he
        rcases List.mem_append.mp he with he | he
        · rw [upd_ne (ne_of (hcs e he) eD3 (by intro q; cases q)), upd_ne (ne_of_none (hcs e he) hp)]
          exact hcs e he
        · rw [List.mem_singleton.mp he]
          show upd _ D _ p = _
          rw [upd_ne pD, upd_same]
      · rw [List.map_append, er3, take_at et, List.map_append, List.append_assoc]
        rfl
    · rintro H3 ⟨s3, cs, eD3, hcs, er3⟩
      refine ⟨s3, cs, eD3, hcs, ?_⟩
      rw [er3, List.take_length]
      show _ = (g.S.take (i + 1)).flatMap _
      rw [take_at en, List.flatMap_append]
      show _ = _ ++ ([n].flatMap fun s => (g.T s).map fun t => ((s, t) : Pr))
      rw [show ([n].flatMap fun s => (g.T s).map fun t => ((s, t) : Pr)) = (g.T n).map fun t => (n, t) from by simp]
  · rintro H3 ⟨s3, bs, eD, hbs, er⟩
    refine h3 _ _ s3 fun H4 off s4 => ?_
    have inds : ∀ b, b ∈ (A .d :: g.S.map fun s => A (.t s)) → ∃ od kvs, H3 b = some (.frz od (.dK kvs)) := fun b hb => by
      obtain ⟨od, kvs, _, e⟩ := h2 b hb
      exact ⟨od, kvs, s3 _ _ e⟩
    have eD4 : H4 D = some (.lst (bs.map fun e => V.ref e.1)) := by
      rw [off D fun hb => by obtain ⟨od, kvs, e⟩ := inds D hb; rw [eD] at e; cases e]
      exact eD
    have hbs4 : IsPrs H4 bs := fun e he => by
      rw [off e.1 fun hb => by obtain ⟨od, kvs, y⟩ := inds e.1 hb; rw [hbs e he] at y; cases y]
      exact hbs e he
    refine ⟨D, bs, rfl, .inl (.inl eD4), hbs4, fun cs p pm so hp => q _ p cs (s4.trans (sameNew hp)) upd_same (fun e he => sameNew hp _ _ (hbs4 e (pm.mem_iff.mp he))) so ?_⟩
    have z := pm.map (·.2)
    rw [er] at z
    refine z.trans (.of_eq ?_)
    show (g.S.take g.S.length).flatMap _ = g.S.flatMap _
    rw [List.take_length]
end
end Cy
end

section
set_option maxHeartbeats 4000000
/-! registry.py, first part: what reads. -/
namespace Cy
open PySem PySem.Spec PyProof.Rows
open L2 hiding St
/-! ### a registry -/
inductive RR | p | dx | st | ex | e (n : Str) | nd (x : NR) | rc (x : NR) | er | hd | ch
structure Rg where
  N : List Str
  st : Str → Str
  exs : Str → List (Str × Int)
  g : Gr
  P : List Pr
def exK (l : List (Str × Int)) : List (Key × V) := l.map fun e => (.inr e.1, .int e.2)
def erK (P : List Pr) : List (List Key × V) := P.map fun q => (pk q, .bl true)
def flR (A : RR → Addr) : List (Str × V) := [("own_states", .ref (A .st)), ("own_exports", .ref (A .ex)), ("own_needs", .ref (A (.nd .p))), ("own_recorded", .ref (A (.rc .p))), ("own_early", .ref (A .er)), ("own_held", .ref (A .hd)), ("own_chains", .ref (A .ch))]
def obR (CR CN : Addr) (A : RR → Addr) (r : Rg) : RR → Option HO
  | .p => some (.ins CR (A .dx) (flR A))
  | .dx => none
  | .st => some (.dK (kvS r.N fun n => .str (r.st n)))
  | .ex => some (.dK (kvS r.N fun n => .ref (A (.e n))))
  | .e n => if n ∈ r.N then some (.dK (exK (r.exs n))) else none
  | .nd x => obN CN (fun y => A (.nd y)) r.g x
  | .rc x => obN CN (fun y => A (.rc y)) r.g x
  | .er => some (.dT (erK r.P))
  | .hd => some (.dK [])
  | .ch => some (.dK [])
theorem obR_nt (CR CN : Addr) (A : RR → Addr) (r : Rg) (l : RR) (xs : List V) : obR CR CN A r l ≠ some (.tup xs) := fun z => by
  cases l with
  | e n =>
    have z : (if n ∈ r.N then some (HO.dK (exK (r.exs n))) else none) = some (.tup xs) := z
    split at z <;> cases z
  | nd x => exact obN_nt CN (fun y => A (.nd y)) r.g x xs z
  | rc x => exact obN_nt CN (fun y => A (.rc y)) r.g x xs z
  | _ => cases z
structure ROk (r : Rg) : Prop where
  hN : Nms r.N
  gok : GrOk r.N r.g
  el : ∀ n, (r.exs n).length ≤ 1
  pn : r.P.Nodup
  pl : r.P.length ≤ 100
abbrev RAt (K : PySem.W.Frag) (H : Hp) (A : RR → Addr) (r : Rg) : Prop := At H A (obR (He.ga K "Registry") (He.ga K "Needs") A r)
abbrev RFp (K : PySem.W.Frag) (A : RR → Addr) (r : Rg) : Addr → Prop := Fp A (obR (He.ga K "Registry") (He.ga K "Needs") A r)
abbrev NAt (K : PySem.W.Frag) (H : Hp) (A : NR → Addr) (g : Gr) : Prop := At H A (obN (He.ga K "Needs") A g)
theorem RAt.nd {K : PySem.W.Frag} {H : Hp} {A : RR → Addr} {r : Rg} (a : RAt K H A r) : NAt K H (fun x => A (.nd x)) r.g := At.sub a RR.nd fun _ _ e => RR.nd.inj e
def optV : Option Str → V
  | none => .non
  | some s => .str s
def gReq (g : Gr) : Option Str → Str → Gr
  | some s, t => g.rcd s t
  | none, _ => g
def Rg.req (r : Rg) (s : Option Str) (t : Str) : Rg :=
  { r with g := gReq r.g s t, st := if r.st t = "new" then setS r.st t "running" else r.st }
def early (P : List Pr) (T : Str → List Str) (s t : Str) : Prop := (s, t) ∈ P ∨ Rc T t s
inductive AnsIs (st : Str → Str) (P : List Pr) (T : Str → List Str) (s t : Str) : Str → Prop
  | ready (h : st t = "ready") : AnsIs st P T s t "ready"
  | early (h : st t ≠ "ready") (e : early P T s t) : AnsIs st P T s t "early"
  | wait (h : st t ≠ "ready") (e : ¬ early P T s t) : AnsIs st P T s t "wait"
def addP (P : List Pr) (q : Pr) : List Pr := if q ∈ P then P else P ++ [q]
def okSt (st : Str → Str) (m : Str) : Prop := st m = "done" ∨ st m = "ready"
def compl (st : Str → Str) (T : Str → List Str) (n : Str) : Prop := ∀ m, Rc T n m → okSt st m
theorem inV_strs {n : Str} {l : List Str} : inV (.str n) (l.map V.str) = decide (n ∈ l) := by
  unfold inV
  rw [List.any_map, Bool.eq_iff_iff, List.any_eq_true, decide_eq_true_eq]
  constructor
  · rintro ⟨x, hx, e⟩
    have e : (x == n) = true := e
    rw [← beq_iff_eq.mp e]
    exact hx
  · exact fun h => ⟨n, h, show (n == n) = true from beq_self_eq_true n⟩
theorem flat_strs (l : List Str) : (l.map V.str).all flatV = true := List.all_eq_true.mpr fun v hv => by
  obtain ⟨_, _, rfl⟩ := List.mem_map.mp hv
  rfl
theorem erK_in {P : List Pr} {q : Pr} (h : q ∈ P) : valV (erK P) (pk q) = some (.bl true) := by
  induction P with
  | nil => cases h
  | cons x P ih =>
    by_cases e : x = q
    · exact valV_pos (p := (pk x, V.bl true)) (by rw [e])
    · rw [show erK (x :: P) = (pk x, V.bl true) :: erK P from rfl, valV_neg fun z => e (pk_inj z)]
      exact ih ((List.mem_cons.mp h).resolve_left fun z => e z.symm)
theorem erK_no {P : List Pr} {q : Pr} (h : q ∉ P) : valV (erK P) (pk q) = none := by
  induction P with
  | nil => rfl
  | cons x P ih =>
    rw [show erK (x :: P) = (pk x, V.bl true) :: erK P from rfl, valV_neg fun z => h (by rw [pk_inj z]; exact List.mem_cons_self)]
    exact ih fun z => h (List.mem_cons_of_mem _ z)
theorem paired_imp {α β : Type} {R S : α → β → Prop} (h : ∀ a b, R a b → S a b) : ∀ {l : List α} {m : List β}, Paired R l m → Paired S l m
  | _, _, .nil => .nil
  | _, _, .cons a b => .cons (h _ _ a) (paired_imp h b)
theorem mergeK_one {l : List (Str × Int)} (h : l.length ≤ 1) : mergeK [] (exK l) = exK l := by
  match l, h with
  | [], _ => rfl
  | [_], _ => rfl
def okB (st : Str → Str) (m : Str) : Bool := decide (st m ∈ ([("done" : Str), "ready"] : List Str))
theorem okB_iff {st : Str → Str} {m : Str} : okB st m = true ↔ okSt st m := by
  unfold okB okSt
  rw [decide_eq_true_eq, List.mem_cons, List.mem_singleton]
/-! ### promises -/
section
variable (K : PySem.W.Frag)
def spR_want_module : Sp := fun vs H Q _ => ∃ (A : RR → Addr) (r : Rg) (n : Str), vs = [.ref (A .p), .str n] ∧ RAt K H A r ∧ ROk r ∧ n ∈ r.N ∧ ∀ H', Same H H' → Q .non H'
def spR_want_state : Sp := fun vs H Q _ => ∃ (A : RR → Addr) (r : Rg) (n s : Str), vs = [.ref (A .p), .str n, .str s] ∧ RAt K H A r ∧ ROk r ∧ n ∈ r.N ∧ r.st n = s ∧ ∀ H', Same H H' → Q .non H'
def spR_state_of : Sp := fun vs H Q _ => ∃ (A : RR → Addr) (r : Rg) (n : Str), vs = [.ref (A .p), .str n] ∧ RAt K H A r ∧ ROk r ∧ n ∈ r.N ∧ ∀ H', Same H H' → Q (.str (r.st n)) H'
def spR_is_state : Sp := fun vs H Q _ => ∃ s : Str, vs = [.str s] ∧ (s = "running" ∨ s = "done") ∧ ∀ H', Same H H' → Q (.bl true) H'
def spR_in_state : Sp := fun vs H Q _ => ∃ (A : RR → Addr) (r : Rg) (s : Str), vs = [.ref (A .p), .str s] ∧ RAt K H A r ∧ ROk r ∧ (s = "running" ∨ s = "done") ∧
  ∀ H' l, Same H H' → H l = none → H' l = some (.lst ((r.N.filter fun n => decide (r.st n = s)).map V.str)) → Q (.ref l) H'
def spR_needs : Sp := fun vs H Q _ => ∃ (A : RR → Addr) (r : Rg), vs = [.ref (A .p)] ∧ RAt K H A r ∧ ROk r ∧ ∀ H' (A' : NR → Addr), Same H H' → NAt K H' A' r.g → Q (.ref (A' .p)) H'
def spR_early : Sp := fun vs H Q _ => ∃ (A : RR → Addr) (r : Rg), vs = [.ref (A .p)] ∧ RAt K H A r ∧ ROk r ∧
  ∀ H' l (bs : List (Addr × Pr)), Same H H' → H' l = some (.lst (bs.map fun e => V.ref e.1)) → IsPrs H' bs → srtP (bs.map (·.2)) → (bs.map (·.2)).Perm r.P → Q (.ref l) H'
def spR_want_request : Sp := fun vs H Q _ => ∃ (A : RR → Addr) (r : Rg) (s : Option Str) (t : Str), vs = [.ref (A .p), optV s, .str t] ∧ RAt K H A r ∧ ROk r ∧ t ∈ r.N ∧ (∀ x, s = some x → x ∈ r.N ∧ r.st x = "running") ∧ ∀ H', Same H H' → Q .non H'
def spR_request : Sp := fun vs H Q _ => ∃ (A : RR → Addr) (r : Rg) (s : Option Str) (t : Str), vs = [.ref (A .p), optV s, .str t] ∧ RAt K H A r ∧ ROk r ∧ t ∈ r.N ∧ (∀ x, s = some x → x ∈ r.N ∧ r.st x = "running") ∧
  ∀ H' (A' : RR → Addr), RAt K H' A' (r.req s t) → A' .p = A .p → Fr (RFp K A r) (RFp K A' (r.req s t)) H H' → Q (.bl (decide (r.st t = "new"))) H'
def spR_is_early : Sp := fun vs H Q _ => ∃ (A : RR → Addr) (r : Rg) (s t : Str), vs = [.ref (A .p), .str s, .str t] ∧ RAt K H A r ∧ ROk r ∧ s ∈ r.N ∧ t ∈ r.N ∧ ∀ H' c, Same H H' → (c = true ↔ early r.P r.g.T s t) → Q (.bl c) H'
def spR_answer : Sp := fun vs H Q _ => ∃ (A : RR → Addr) (r : Rg) (s t : Str), vs = [.ref (A .p), .str s, .str t] ∧ RAt K H A r ∧ ROk r ∧ s ∈ r.N ∧ r.st s = "running" ∧ t ∈ r.N ∧ r.st t ≠ "failed" ∧ t ∈ r.g.T s ∧
  ∀ H' v, Same H H' → AnsIs r.st r.P r.g.T s t v → Q (.str v) H'
def spR_access : Sp := fun vs H Q _ => ∃ (A : RR → Addr) (r : Rg) (s t : Str), vs = [.ref (A .p), .str s, .str t] ∧ RAt K H A r ∧ ROk r ∧ r.P.length ≤ 100 ∧ s ∈ r.N ∧ r.st s = "running" ∧ t ∈ r.N ∧ r.st t ≠ "failed" ∧ t ∈ r.g.T s ∧ ¬ AnsIs r.st r.P r.g.T s t "wait" ∧
  ∀ H' (A' : RR → Addr) v r', RAt K H' A' r' → A' .p = A .p → Fr (RFp K A r) (RFp K A' r') H H' → AnsIs r.st r.P r.g.T s t v → (v = "early" → r' = { r with P := addP r.P (s, t) }) → (v ≠ "early" → r' = r) → Q (.str v) H'
def spR_export : Sp := fun vs H Q _ => ∃ (A : RR → Addr) (r : Rg) (m x : Str) (v : Int), vs = [.ref (A .p), .str m, .str x, .int v] ∧ RAt K H A r ∧ ROk r ∧ m ∈ r.N ∧ r.st m = "running" ∧ r.exs m = [] ∧ isNm x ∧
  ∀ H', RAt K H' A { r with exs := setS r.exs m [(x, v)] } → Fr (RFp K A r) (RFp K A { r with exs := setS r.exs m [(x, v)] }) H H' → Q .non H'
def spR_exports : Sp := fun vs H Q _ => ∃ (A : RR → Addr) (r : Rg) (n : Str), vs = [.ref (A .p), .str n] ∧ RAt K H A r ∧ ROk r ∧ n ∈ r.N ∧ ∀ H' d, Same H H' → H' d = some (.dK (exK (r.exs n))) → Q (.ref d) H'
def spR_is_complete : Sp := fun vs H Q _ => ∃ (A : RR → Addr) (r : Rg) (n : Str), vs = [.ref (A .p), .str n] ∧ RAt K H A r ∧ ROk r ∧ n ∈ r.N ∧ ∀ H' c, Same H H' → (c = true ↔ compl r.st r.g.T n) → Q (.bl c) H'
def spR_forget : Sp := fun vs H Q _ => ∃ (A : RR → Addr) (r : Rg) (l : Addr) (ys : List Str), vs = [.ref (A .p), .ref l] ∧ RAt K H A r ∧ ROk r ∧ H l = some (.lst (ys.map V.str)) ∧
  ∀ H' (A' : RR → Addr), RAt K H' A' { r with P := r.P.filter fun q => decide (q.1 ∉ ys) } → A' .p = A .p → Fr (RFp K A r) (RFp K A' { r with P := r.P.filter fun q => decide (q.1 ∉ ys) }) H H' → Q .non H'
def Rg.fin (r : Rg) (m : Str) (ys : List Str) : Rg :=
  { r with st := fun n => if n ∈ ys then "ready" else setS r.st m "done" n, P := r.P.filter fun q => decide (q.1 ∉ ys) }
def spR_finish : Sp := fun vs H Q _ => ∃ (A : RR → Addr) (r : Rg) (m : Str), vs = [.ref (A .p), .str m] ∧ RAt K H A r ∧ ROk r ∧ m ∈ r.N ∧ r.st m = "running" ∧
  ∀ H' (A' : RR → Addr) l (p : Str → Bool) ys, ys = r.N.filter p → (∀ n, p n = true ↔ (setS r.st m "done" n = "done" ∧ compl (setS r.st m "done") r.g.T n)) → RAt K H' A' (r.fin m ys) → A' .p = A .p → Fr (RFp K A r) (RFp K A' (r.fin m ys)) H H' →
    H l = none → H' l = some (.lst (ys.map V.str)) → ¬ RFp K A' (r.fin m ys) l → Q (.ref l) H'
end
section
variable {P : Program} {w : World} {K : PySem.W.Frag} {mg : Str → Option Value} {base : Heap}
theorem ok_R_want_module (T : Tx K mg) : Met P w K mg base 1 (He.ga K "Registry") "want_module" (spR_want_module K) := by
  have sc : FnScope ["self", "value"] ["self", "value"] (defScope sR_want_module) := ⟨rfl, rfl, rfl, by decide +kernel, rfl, by decide +kernel, by decide +kernel⟩
  have nd := sc.nd
  refine met_of T.fR_want_module T.clR T.mR_want_module sc (fun z F => F.bindsN fun _ _ _ _ _ _ us hl => match us, hl with | [_, _], _ => rfl) (fun vs H Q E h => ?_) fun cdv A outer sh H vs Q E hr h => ?_
  · obtain ⟨A, r, n, rfl, _⟩ := h
    rfl
  obtain ⟨A, r, n, rfl, at_, ok, hn, q⟩ := h
  refine ⟨_, (pss_one (ps_if (PW.pt (pw_or (pt_not (pt_val (pe_callB call_isi rfl T.b_isinstance (by decide +kernel) (pa_cons (pv 1) (pa_cons (pe_bltn (v := .ty "str") rfl T.b_str PyProof.Rows.boot_str rfl) pa_nil))))) (pw_or1 (pt_cmp (pc_dnotin (hu hr) (pv 1) (pe_fldK K (pv 0))))))) (pss_one ps_never) pss_nil)), ?_⟩
  have hp := at_.is .p _ rfl
  have hs := at_.is .st _ rfl
  refine ⟨_, rfl, _, _, _, _, _, rfl, .ty _, .base (.str _), rfl, true, rfl, _, rfl, _, rfl, _, _, _, _, _, rfl, hp, T.clR, T.nR_own_states, rfl, _, _, rfl, dgY (.inl hs) hn, _, rfl, q _ (Same.refl _)⟩
theorem ok_R_want_state (T : Tx K mg) : Met P w K mg base 2 (He.ga K "Registry") "want_state" (spR_want_state K) := by
  have sc : FnScope ["self", "module", "state"] ["self", "module", "state"] (defScope sR_want_state) := ⟨rfl, rfl, rfl, by decide +kernel, rfl, by decide +kernel, by decide +kernel⟩
  have nd := sc.nd
  refine met_of T.fR_want_state T.clR T.mR_want_state sc (fun z F => F.bindsN fun _ _ _ _ _ _ us hl => match us, hl with | [_, _, _], _ => rfl) (fun vs H Q E h => ?_) fun cdv A outer sh H vs Q E hr h => ?_
  · obtain ⟨A, r, n, s, rfl, _⟩ := h
    rfl
  obtain ⟨A, r, n, s, rfl, at_, ok, hn, es, q⟩ := h
  refine ⟨_, (pss_cons (ps_expr (pe_mt (ok_R_want_module T) hr (by decide) (pv 0) (pa_cons (pv 1) pa_nil)))
      (pss_one (ps_if (pt_cmpR op_ne (pe_dget (hu hr) (pe_fldK K (pv 0)) (pv 1) (fun _ _ => rfl)) (pv 2) (nomark _)) (pss_one ps_never) pss_nil))), ?_⟩
  refine ⟨_, rfl, _, _, _, rfl, at_.is .p _ rfl, rfl, _, rfl, A, r, n, rfl, at_, ok, hn, fun H1 s1 => ?_⟩
  have a1 := at_.same s1
  refine ⟨_, rfl, _, _, _, _, _, rfl, a1.is .p _ rfl, T.clR, T.nR_own_states, rfl, _, rfl, _, _, rfl, dgY (.inl (a1.is .st _ rfl)) hn, _, rfl, rfl, _, rfl, ?_⟩
  rw [es, decide_eq_true rfl]
  exact q _ s1
theorem ok_R_state_of (T : Tx K mg) : Met P w K mg base 2 (He.ga K "Registry") "state_of" (spR_state_of K) := by
  have sc : FnScope ["self", "module"] ["self", "module"] (defScope sR_state_of) := ⟨rfl, rfl, rfl, by decide +kernel, rfl, by decide +kernel, by decide +kernel⟩
  have nd := sc.nd
  refine met_of T.fR_state_of T.clR T.mR_state_of sc (fun z F => F.bindsN fun _ _ _ _ _ _ us hl => match us, hl with | [_, _], _ => rfl) (fun vs H Q E h => ?_) fun cdv A outer sh H vs Q E hr h => ?_
  · obtain ⟨A, r, n, rfl, _⟩ := h
    rfl
  obtain ⟨A, r, n, rfl, at_, ok, hn, q⟩ := h
  refine ⟨_, (pss_cons (ps_expr (pe_mt (ok_R_want_module T) hr (by decide) (pv 0) (pa_cons (pv 1) pa_nil)))
      (pss_one (ps_ret (pe_dget (hu hr) (pe_fldK K (pv 0)) (pv 1) (fun _ _ => rfl))))), ?_⟩
  refine ⟨_, rfl, _, _, _, rfl, at_.is .p _ rfl, rfl, _, rfl, A, r, n, rfl, at_, ok, hn, fun H1 s1 => ?_⟩
  have a1 := at_.same s1
  exact ⟨_, rfl, _, _, _, _, _, rfl, a1.is .p _ rfl, T.clR, T.nR_own_states, rfl, _, rfl, _, _, rfl, dgY (.inl (a1.is .st _ rfl)) hn, q _ s1⟩
theorem ok_R_is_state (T : Tx K mg) : ∃ fd, FnOk P w K mg base CX0 1 (smF K) fd ["value"] spR_is_state ∧ PySem.W.keepIn K (.ref (smF K)) = true ∧ Binds K fd ["value"] [] := by
  have sc : FnScope ["value"] ["value"] (defScope sR_is_state) := ⟨rfl, rfl, rfl, by decide +kernel, rfl, by decide +kernel, by decide +kernel⟩
  have nd := sc.nd
  obtain ⟨z, F⟩ := T.fR_is_state
  refine ⟨z, fn_ok F sc (fun vs H Q E h => ?_) (fun cdv A outer sh H vs Q E hr h => ?_), F.kp, F.bindsN fun _ _ _ _ _ _ us hl => match us, hl with | [_], _ => rfl⟩
  · obtain ⟨n, rfl, _⟩ := h
    rfl
  obtain ⟨n, rfl, hn, q⟩ := h
  refine ⟨_, (pss_one (ps_ret (pe_and (pe_callB call_isi rfl T.b_isinstance (by decide +kernel) (pa_cons (pv 0) (pa_cons (pe_bltn (v := .ty "str") rfl T.b_str PyProof.Rows.boot_str rfl) pa_nil))) (pe_one (pe_cmpR (op_in_seqK K) (pv 0) (ClX.pe_cval (pe_glob (v := .ref (He.ga K "Registry")) rfl T.g_Registry rfl)) (by rfl)))))), ?_⟩
  refine ⟨_, rfl, _, _, _, _, _, rfl, .ty _, .base (.str _), rfl, true, rfl, ?_⟩
  refine ⟨_, rfl, _, _, _, _, rfl, T.clsRd, T.stVal, stA K, stNames, rfl, .inr (T.states H), rfl, by decide, ?_⟩
  rcases hn with rfl | rfl
  · exact q _ (Same.refl H)
  · exact q _ (Same.refl H)
theorem sinst (T : Tx K mg) : SInst K (He.ga K "Registry") "is_state" (smP K) (smF K) := ⟨T.clR, T.smIc, T.smAt, T.smTy, T.smGet, T.smTk, by decide +kernel, T.smRc⟩
theorem ok_R_in_state (T : Tx K mg) : Met P w K mg base 2 (He.ga K "Registry") "in_state" (spR_in_state K) := by
  have sc : FnScope ["self", "state", "name", "present"] ["self", "state"] (defScope sR_in_state) := ⟨rfl, rfl, rfl, by decide +kernel, rfl, by decide +kernel, by decide +kernel⟩
  have nd := sc.nd
  obtain ⟨zst, Fst, kst, bst⟩ := ok_R_is_state (P := P) (w := w) (base := base) T
  refine met_of T.fR_in_state T.clR T.mR_in_state sc (fun z F => F.bindsN fun _ _ _ _ _ _ us hl => match us, hl with | [_, _], _ => rfl) (fun vs H Q E h => ?_) fun cdv A outer sh H vs Q E hr h => ?_
  · obtain ⟨A, r, n, rfl, _⟩ := h
    rfl
  obtain ⟨A, r, s, rfl, at_, ok, hs, q⟩ := h
  refine ⟨_, (pss_cons (ps_if (pt_not (pt_val (pe_smeth (pv 0) (sinst T) Fst kst hr (by decide) bst (pa_cons (pv 1) pa_nil)))) (pss_one (ps_ret (pe_lst pa_nil))) pss_nil)
      (pss_one (ps_ret (pe_lock (pe_lc (own := [("name", 2), ("present", 3)]) (g := (gTup K 2 (gCons (gName 2) (gCons (gName 3) gNil)))) rfl nd (pi_items (pe_fldK K (pv 0))) (blkOk_by (by rfl)) (fun _ _ _ _ _ => (pg_tup rfl (pgs_cons (pg_name (i := 2) nd rfl (.inl rfl)) (pgs_cons (pg_name (i := 3) nd rfl (.inl rfl)) pgs_nil)))) (fun _ _ _ _ _ => pts_one (pt_cmpR op_eq (pv 3) (pv 1) (nomark _))) (fun _ _ _ _ _ => (pv 2))))))), ?_⟩
  refine ⟨_, rfl, _, _, _, rfl, at_.is .p _ rfl, rfl, _, rfl, s, rfl, hs, fun H1 s1 => ⟨_, rfl, ?_⟩⟩
  have a1 := at_.same s1
  have hp := a1.is .p _ rfl
  have hd := a1.is .st _ rfl
  have npd : A .p ≠ A .st := fun z => by rw [z, hd] at hp; cases hp
  refine ⟨A .st, _, hd, trivial, fun od => ?_⟩
  refine ⟨_, rfl, _, _, _, _, _, rfl, by rw [upd_ne npd]; exact hp, T.clR, T.nR_own_states, rfl, A .st, od, _, rfl, upd_same, fun D hD => ?_⟩
  refine lc_same walk_itemsS hD (fun H3 s3 => s3 _ _ upd_same) (fun i => .str (r.N.getD i "")) (fun i => decide (r.st (r.N.getD i "") = s)) ?_ fun H3 s3 e3 => ?_
  · rintro i v H3 H4 hi lc ⟨T1, n, en, rfl, hT, rfl⟩
    have eN : r.N.getD i "" = n := by rw [List.getD_eq_getElem?_getD, en]; rfl
    refine ⟨T1, [.str n, .str (r.st n)], rfl, .inl (.inl upd_same), rfl, _, _, rfl, _, _, rfl, rfl, rfl, ?_⟩
    refine ⟨_, rfl, _, rfl, rfl, _, rfl, ?_⟩
    have l10 := ok.hN.le
    have ed : decide (V.str (r.st n) = V.str s) = decide (r.st n = s) := decide_eq_decide.mpr ⟨V.str.inj, congrArg V.str⟩
    rw [ed]
    by_cases c : r.st n = s
    · refine ifT (decide_eq_true c) ?_
      exact ⟨_, rfl, lc.yes (by omega) (by show decide (r.st (r.N.getD i "") = s) = true; rw [eN]; exact decide_eq_true c) (by show V.str n = V.str (r.N.getD i ""); rw [eN]) (sameNew hT)⟩
    · refine ifN (decide_eq_false c) ?_
      exact lc.no (by omega) (by show decide (r.st (r.N.getD i "") = s) = false; rw [eN]; exact decide_eq_false c) (sameNew hT)
  · obtain ⟨u1, u2⟩ := unlock hd s3
    have Dst : D ≠ A .st := fun z => by rw [z, upd_same] at hD; cases hD
    have hD1 : H1 D = none := by rw [upd_ne Dst] at hD; exact hD
    refine ⟨u1, q _ D (s1.trans u2) (s1.free hD1) ?_⟩
    rw [upd_ne Dst, e3]
    congr 2
    rw [← picks_list (f := fun i => V.str (r.N.getD i "")) (p := fun i => decide (r.st (r.N.getD i "") = s)) (l := r.N) (g := V.str) (q := fun n => decide (r.st n = s)) fun i x e => ?_]
    have eN : r.N.getD i "" = x := by rw [List.getD_eq_getElem?_getD, e]; rfl
    show V.str (r.N.getD i "") = V.str x ∧ decide (r.st (r.N.getD i "") = s) = decide (r.st x = s)
    rw [eN]
    exact ⟨rfl, rfl⟩
theorem ok_R_needs (T : Tx K mg) : Met P w K mg base 4 (He.ga K "Registry") "needs" (spR_needs K) := by
  have sc : FnScope ["self"] ["self"] (defScope sR_needs) := ⟨rfl, rfl, rfl, by decide +kernel, rfl, by decide +kernel, by decide +kernel⟩
  have nd := sc.nd
  refine met_of T.fR_needs T.clR T.mR_needs sc (fun z F => F.bindsN fun _ _ _ _ _ _ us hl => match us, hl with | [_], _ => rfl) (fun vs H Q E h => ?_) fun cdv A outer sh H vs Q E hr h => ?_
  · obtain ⟨A, r, rfl, _⟩ := h
    rfl
  obtain ⟨A, r, rfl, at_, ok, q⟩ := h
  refine ⟨_, (pss_one (ps_ret (pe_mt0 (ok_N_clone T) hr (by decide) (pe_fldK K (pv 0))))), ?_⟩
  have a2 := RAt.nd at_
  exact ⟨_, rfl, _, _, _, _, _, rfl, at_.is .p _ rfl, T.clR, T.nR_own_needs, rfl, _, _, _, rfl, a2.is .p _ rfl, rfl, _, r.N, r.g, rfl, a2, ok.hN, ok.gok, fun H' A' s n => q H' A' s n⟩
theorem ok_R_early (T : Tx K mg) : Met P w K mg base 1 (He.ga K "Registry") "early" (spR_early K) := by
  have sc : FnScope ["self"] ["self"] (defScope sR_early) := ⟨rfl, rfl, rfl, by decide +kernel, rfl, by decide +kernel, by decide +kernel⟩
  have nd := sc.nd
  refine met_of T.fR_early T.clR T.mR_early sc (fun z F => F.bindsN fun _ _ _ _ _ _ us hl => match us, hl with | [_], _ => rfl) (fun vs H Q E h => ?_) fun cdv A outer sh H vs Q E hr h => ?_
  · obtain ⟨A, r, rfl, _⟩ := h
    rfl
  obtain ⟨A, r, rfl, at_, ok, q⟩ := h
  refine ⟨_, (pss_one (ps_ret (pe_callB (cr_sortDT rfl) rfl T.b_sorted (by decide +kernel) (pa_cons (pe_fldK K (pv 0)) pa_nil)))), ?_⟩
  refine ⟨_, rfl, _, _, _, _, _, rfl, at_.is .p _ rfl, T.clR, T.nR_own_early, rfl, A .er, erK r.P, r.P, rfl, .inl (at_.is .er _ rfl), by unfold erK; rw [List.map_map]; rfl, fun bs l pm so tu hl => ?_⟩
  exact q _ l bs (sameNew hl) upd_same (fun e he => sameNew hl _ _ (tu e he)) so pm
theorem ok_R_want_request (T : Tx K mg) : Met P w K mg base 3 (He.ga K "Registry") "want_request" (spR_want_request K) := by
  have sc : FnScope ["self", "source", "target"] ["self", "source", "target"] (defScope sR_want_request) := ⟨rfl, rfl, rfl, by decide +kernel, rfl, by decide +kernel, by decide +kernel⟩
  have nd := sc.nd
  refine met_of T.fR_want_request T.clR T.mR_want_request sc (fun z F => F.bindsN fun _ _ _ _ _ _ us hl => match us, hl with | [_, _, _], _ => rfl) (fun vs H Q E h => ?_) fun cdv A outer sh H vs Q E hr h => ?_
  · obtain ⟨A, r, s, t, rfl, _⟩ := h
    rfl
  obtain ⟨A, r, s, t, rfl, at_, ok, ht, hs, q⟩ := h
  refine ⟨_, (pss_cons (ps_if (pt_cmp (pc_notN (pv 1))) (pss_one (ps_expr (pe_mt (ok_R_want_module T) hr (by decide) (pv 0) (pa_cons (pv 1) pa_nil)))) pss_nil)
      (pss_cons (ps_expr (pe_mt (ok_R_want_module T) hr (by decide) (pv 0) (pa_cons (pv 2) pa_nil)))
      (pss_one (ps_if (pt_cmp (pc_notN (pv 1))) (pss_one (ps_expr (pe_mt (ok_R_want_state T) hr (by decide) (pv 0) (pa_cons (pv 1) (pa_cons (pe_gc rfl (gcS T.c_RUNNING)) pa_nil))))) pss_nil)))), ?_⟩
  cases s with
  | none =>
    refine ⟨_, rfl, _, rfl, ?_⟩
    refine ⟨_, rfl, _, _, _, rfl, at_.is .p _ rfl, rfl, _, rfl, A, r, t, rfl, at_, ok, ht, fun H1 s1 => ⟨_, rfl, _, rfl, q _ s1⟩⟩
  | some s =>
    obtain ⟨hsN, hsr⟩ := hs s rfl
    refine ⟨_, rfl, _, rfl, ?_⟩
    refine ⟨_, rfl, _, _, _, rfl, at_.is .p _ rfl, rfl, _, rfl, A, r, s, rfl, at_, ok, hsN, fun H1 s1 => ?_⟩
    have a1 := at_.same s1
    refine ⟨_, rfl, _, _, _, rfl, a1.is .p _ rfl, rfl, _, rfl, A, r, t, rfl, a1, ok, ht, fun H2 s2 => ⟨_, rfl, _, rfl, ?_⟩⟩
    have a2 := a1.same s2
    exact ⟨_, rfl, _, _, _, rfl, a2.is .p _ rfl, rfl, _, rfl, A, r, s, _, rfl, a2, ok, hsN, hsr, fun H3 s3 => q _ ((s1.trans s2).trans s3)⟩
theorem ok_R_is_early (T : Tx K mg) : Met P w K mg base 4 (He.ga K "Registry") "is_early" (spR_is_early K) := by
  have sc : FnScope ["self", "source", "target"] ["self", "source", "target"] (defScope sR_is_early) := ⟨rfl, rfl, rfl, by decide +kernel, rfl, by decide +kernel, by decide +kernel⟩
  have nd := sc.nd
  refine met_of T.fR_is_early T.clR T.mR_is_early sc (fun z F => F.bindsN fun _ _ _ _ _ _ us hl => match us, hl with | [_, _, _], _ => rfl) (fun vs H Q E h => ?_) fun cdv A outer sh H vs Q E hr h => ?_
  · obtain ⟨A, r, s, t, rfl, _⟩ := h
    rfl
  obtain ⟨A, r, s, t, rfl, at_, ok, hs, ht, q⟩ := h
  refine ⟨_, (pss_cons (ps_if (pt_cmp (pc_isN (pv 1))) (pss_one (ps_ret pe_bl)) pss_nil)
      (pss_one (ps_ret (pe_or (pe_cmp (pc_din (hu hr) (pe_tup (pa_cons (pv 1) (pa_cons (pv 2) pa_nil))) (pe_fldK K (pv 0)))) (pe_one (pe_mt (ok_N_depends T) hr (by decide) (pe_fldK K (pv 0)) (pa_cons (pv 2) (pa_cons (pv 1) pa_nil)))))))), ?_⟩
  refine ⟨_, rfl, _, rfl, ?_⟩
  refine ⟨_, rfl, _, rfl, (by rw [sizeLine_eq]; show 2 ≤ _; decide), fun p hp => ?_⟩
  have a1 := at_.same (sameNew (o := .tup [V.str s, V.str t]) hp)
  refine ⟨_, rfl, _, _, _, _, _, rfl, a1.is .p _ rfl, T.clR, T.nR_own_early, rfl, _, _, rfl, .inr ⟨_, pk (s, t), p, .inl (a1.is .er _ rfl), rfl, upd_same, rfl⟩, _, rfl, ?_⟩
  by_cases c : (s, t) ∈ r.P
  · rw [erK_in c]
    exact q _ _ (sameNew hp) ⟨fun _ => .inl c, fun _ => rfl⟩
  · rw [erK_no c]
    have a2 := RAt.nd a1
    refine ⟨_, rfl, _, _, _, _, _, rfl, a1.is .p _ rfl, T.clR, T.nR_own_needs, rfl, _, _, _, rfl, a2.is .p _ rfl, rfl, _, rfl, _, rfl, _, r.N, r.g, t, s, rfl, a2, ok.hN, ok.gok, ht, hs, fun H' c2 s2 e2 => ?_⟩
    exact q _ _ ((sameNew hp).trans s2) ⟨fun z => .inr (e2.mp z), fun z => z.elim (fun z => absurd z c) fun z => e2.mpr z⟩
theorem ok_R_answer (T : Tx K mg) : Met P w K mg base 5 (He.ga K "Registry") "answer" (spR_answer K) := by
  have sc : FnScope ["self", "source", "target"] ["self", "source", "target"] (defScope sR_answer) := ⟨rfl, rfl, rfl, by decide +kernel, rfl, by decide +kernel, by decide +kernel⟩
  have nd := sc.nd
  refine met_of T.fR_answer T.clR T.mR_answer sc (fun z F => F.bindsN fun _ _ _ _ _ _ us hl => match us, hl with | [_, _, _], _ => rfl) (fun vs H Q E h => ?_) fun cdv A outer sh H vs Q E hr h => ?_
  · obtain ⟨A, r, s, t, rfl, _⟩ := h
    rfl
  obtain ⟨A, r, s, t, rfl, at_, ok, hs, hr2, ht, hf, hT, q⟩ := h
  refine ⟨_, (pss_cons (ps_expr (pe_mt (ok_R_want_request T) hr (by decide) (pv 0) (pa_cons (pv 1) (pa_cons (pv 2) pa_nil))))
      (pss_cons (ps_if (PW.pt (pw_and (pt_cmp (pc_notN (pv 1))) (pw_and1 (pt_cmpR (op_notIn_seqK K) (pv 2) (pe_mt (ok_N_targets T) hr (by decide) (pe_fldK K (pv 0)) (pa_cons (pv 1) pa_nil)) (by rfl))))) (pss_one ps_never) pss_nil)
      (pss_cons (ps_if (pt_cmpR (op_in_seqK K) (pe_dget (hu hr) (pe_fldK K (pv 0)) (pv 2) (fun _ _ => rfl)) (pe_tup (pa_cons (pe_gc rfl (gcS T.c_READY)) (pa_cons (pe_gc rfl (gcS T.c_FAILED)) pa_nil))) (by rfl)) (pss_one (ps_ret (pe_dget (hu hr) (pe_fldK K (pv 0)) (pv 2) (fun _ _ => rfl)))) pss_nil)
      (pss_one (ps_ret (pe_ifExp (pt_val (pe_mt (ok_R_is_early T) hr (by decide) (pv 0) (pa_cons (pv 1) (pa_cons (pv 2) pa_nil)))) (pe_gc rfl (gcS T.c_EARLY)) (pe_gc rfl (gcS T.c_WAIT)))))))), ?_⟩
  refine ⟨_, rfl, _, _, _, rfl, at_.is .p _ rfl, rfl, _, rfl, _, rfl, A, r, some s, t, rfl, at_, ok, ht, (fun x e => by cases e; exact ⟨hs, hr2⟩), fun H1 s1 => ?_⟩
  have a1 := at_.same s1
  have a2 := RAt.nd a1
  refine ⟨_, rfl, _, rfl, _, rfl, _, rfl, _, _, _, _, _, rfl, a1.is .p _ rfl, T.clR, T.nR_own_needs, rfl, _, _, _, rfl, a2.is .p _ rfl, rfl, _, rfl, _, r.N, r.g, s, rfl, a2, ok.hN, ok.gok, fun H3 l ys s3 hl el pm => ?_⟩
  refine ⟨l, _, rfl, .inl (.inl (.inl el)), rfl, flat_strs ys, _, rfl, ?_⟩
  rw [inV_strs, decide_eq_true (pm.mem_iff.mpr hT)]
  have a3 := a1.same s3
  refine ⟨_, rfl, _, _, _, _, _, rfl, a3.is .p _ rfl, T.clR, T.nR_own_states, rfl, _, rfl, _, _, rfl, dgY (.inl (a3.is .st _ rfl)) ht, (by rw [sizeLine_eq]; show 2 ≤ _; decide), fun p hp => ?_⟩
  have a4 := a3.same (sameNew (o := .tup [V.str "ready", V.str "failed"]) hp)
  refine ⟨p, [V.str "ready", V.str "failed"], rfl, .inr (.inl (.inl upd_same)), rfl, rfl, _, rfl, ?_⟩
  have s4 : Same H (upd H3 p (.tup [V.str "ready", V.str "failed"])) := (s1.trans s3).trans (sameNew hp)
  rw [show inV (V.str (r.st t)) [V.str "ready", V.str "failed"] = decide (r.st t ∈ ([("ready" : Str), "failed"] : List Str)) from inV_strs (l := [("ready" : Str), "failed"])]
  by_cases c : r.st t = "ready"
  · rw [decide_eq_true (by rw [c]; exact List.mem_cons_self)]
    refine ⟨_, rfl, _, _, _, _, _, rfl, a4.is .p _ rfl, T.clR, T.nR_own_states, rfl, _, rfl, _, _, rfl, dgY (.inl (a4.is .st _ rfl)) ht, ?_⟩
    rw [c]
    exact q _ _ s4 (.ready c)
  · rw [decide_eq_false (by intro z; rcases List.mem_cons.mp z with z | z; exact c z; exact hf (List.mem_singleton.mp z))]
    refine ⟨_, rfl, _, _, _, rfl, a4.is .p _ rfl, rfl, _, rfl, _, rfl, A, r, s, t, rfl, a4, ok, hs, ht, fun H5 c5 s5 e5 => ⟨_, rfl, ?_⟩⟩
    cases c5 with
    | true => exact q _ _ (s4.trans s5) (.early c (e5.mp rfl))
    | false => exact q _ _ (s4.trans s5) (.wait c fun z => by cases e5.mpr z)
theorem ok_R_exports (T : Tx K mg) : Met P w K mg base 2 (He.ga K "Registry") "exports" (spR_exports K) := by
  have sc : FnScope ["self", "module"] ["self", "module"] (defScope sR_exports) := ⟨rfl, rfl, rfl, by decide +kernel, rfl, by decide +kernel, by decide +kernel⟩
  have nd := sc.nd
  refine met_of T.fR_exports T.clR T.mR_exports sc (fun z F => F.bindsN fun _ _ _ _ _ _ us hl => match us, hl with | [_, _], _ => rfl) (fun vs H Q E h => ?_) fun cdv A outer sh H vs Q E hr h => ?_
  · obtain ⟨A, r, n, rfl, _⟩ := h
    rfl
  obtain ⟨A, r, n, rfl, at_, ok, hn, q⟩ := h
  refine ⟨_, (pss_cons (ps_expr (pe_mt (ok_R_want_module T) hr (by decide) (pv 0) (pa_cons (pv 1) pa_nil)))
      (pss_one (ps_ret (pe_callTy (call_dictP rfl) rfl T.b_dict (by decide +kernel) (pa_cons (pe_callB (cr_sortItems1 rfl) rfl T.b_sorted (by decide +kernel) (pa_cons (pe_bm0 PySem.F.plainAttrs_dict PySem.F.slot_dict_items PySem.F.type_dict_items mt_itemsK (pe_dget (hu hr) (pe_fldK K (pv 0)) (pv 1) (fun _ _ => rfl))) pa_nil)) pa_nil))))), ?_⟩
  refine ⟨_, rfl, _, _, _, rfl, at_.is .p _ rfl, rfl, _, rfl, A, r, n, rfl, at_, ok, hn, fun H1 s1 => ?_⟩
  have a1 := at_.same s1
  have he := a1.is (.e n) _ (if_pos hn)
  refine ⟨_, rfl, _, _, _, _, _, rfl, a1.is .p _ rfl, T.clR, T.nR_own_exports, rfl, _, rfl, _, _, rfl, dgY (.inl (a1.is .ex _ rfl)) hn, .inr (.inr (.inl ⟨rfl, .inl ⟨_, he⟩⟩)), A (.e n), _, rfl, rfl, he, fun p hp => ?_⟩
  have l1 := ok.el n
  refine ⟨p, A (.e n), _, rfl, upd_same, sameNew hp _ _ he, by rw [exK, List.length_map]; exact l1, fun H2 l ts s2 hl el pr => ?_⟩
  refine ⟨l, ts, _, rfl, .inl (.inl el), paired_imp (fun a b h => .inl (.inl h)) pr, fun d hd => ?_⟩
  refine q _ d (((s1.trans (sameNew hp)).trans s2).trans (sameNew hd)) ?_
  rw [upd_same, mergeK_one l1]
theorem ok_R_is_complete (T : Tx K mg) : Met P w K mg base 4 (He.ga K "Registry") "is_complete" (spR_is_complete K) := by
  have sc : FnScope ["self", "module", "name"] ["self", "module"] (defScope sR_is_complete) := ⟨rfl, rfl, rfl, by decide +kernel, rfl, by decide +kernel, by decide +kernel⟩
  have nd := sc.nd
  refine met_of T.fR_is_complete T.clR T.mR_is_complete sc (fun z F => F.bindsN fun _ _ _ _ _ _ us hl => match us, hl with | [_, _], _ => rfl) (fun vs H Q E h => ?_) fun cdv A outer sh H vs Q E hr h => ?_
  · obtain ⟨A, r, n, rfl, _⟩ := h
    rfl
  obtain ⟨A, r, n, rfl, at_, ok, hn, q⟩ := h
  have a0 := RAt.nd at_
  refine ⟨_, (pss_one (ps_ret (pe_callB (cr_all rfl) rfl T.b_all (by decide +kernel) (pa_cons (pe_lc (own := [("name", 2)]) (g := (gName 2)) (tt := tYes) rfl nd (pi_list (pe_mt (ok_N_closure T) hr (by decide) (pe_fldK K (pv 0)) (pa_cons (pv 1) pa_nil))) (blkOk_by (by rfl)) (fun _ _ _ _ _ => (pg_name (i := 2) nd rfl (.inl rfl))) (fun _ _ _ _ _ => pts_nil) (fun _ _ _ _ _ => (pe_cmpR (op_in_seqK K) (pe_dget (hu hr) (pe_fldK K (pv 0)) (pv 2) (fun _ _ => rfl)) (pe_tup (pa_cons (pe_gc rfl (gcS T.c_DONE)) (pa_cons (pe_gc rfl (gcS T.c_READY)) pa_nil))) (by rfl)))) pa_nil)))), ?_⟩
  refine ⟨_, rfl, _, _, _, _, _, rfl, at_.is .p _ rfl, T.clR, T.nR_own_needs, rfl, _, _, _, rfl, a0.is .p _ rfl, rfl, _, rfl, _, r.N, r.g, n, rfl, a0, ok.hN, ok.gok, hn, fun H1 l ys s1 el ly hy => ?_⟩
  have yN : ∀ y ∈ ys, y ∈ r.N := fun y h => ((hy y).mp h).closed (C := fun m => m ∈ r.N) (fun a b _ hb => ok.gok.ts a b hb) hn
  have l10 := ok.hN.le
  refine ⟨l, rfl, ⟨_, .inl (.inl el)⟩, fun D hD => lc_same walk_names hD (fun H2 s2 => .inl (.inl (s2 _ _ el))) (fun i => .bl (okB r.st (ys.getD i ""))) (fun _ => true) ?_ fun H2 s2 e2 => ?_⟩
  · rintro i x H2 H3 hi lc ⟨rfl, y, ey, rfl⟩
    have eY : ys.getD i "" = y := by rw [List.getD_eq_getElem?_getD, ey]; rfl
    have a2 := at_.same (s1.trans lc.same)
    refine ⟨rfl, ⟨_, rfl, _, _, _, _, _, rfl, a2.is .p _ rfl, T.clR, T.nR_own_states, rfl, _, rfl, _, _, rfl, dgY (.inl (a2.is .st _ rfl)) (yN y (List.mem_of_getElem? ey)), (by rw [sizeLine_eq]; show 2 ≤ _; decide), fun p hp => ?_⟩⟩
    refine ⟨p, [V.str "done", V.str "ready"], rfl, .inr (.inl (.inl upd_same)), rfl, rfl, lc.yes (by omega) rfl ?_ (sameNew hp)⟩
    show V.bl (inV (V.str (r.st y)) [V.str "done", V.str "ready"]) = V.bl (okB r.st (ys.getD i ""))
    rw [eY]
    exact congrArg V.bl (inV_strs (n := r.st y) (l := [("done" : Str), "ready"]))
  · refine ⟨D, (List.range ys.length).map fun i => okB r.st (ys.getD i ""), rfl, .inl (.inl ?_), q _ _ (s1.trans s2) ?_⟩
    · rw [e2, picks_all, List.map_map]
      rfl
    · rw [List.all_eq_true]
      constructor
      · intro h m hm
        obtain ⟨i, hi, e⟩ := List.mem_iff_getElem.mp ((hy m).mpr hm)
        have z := h _ (List.mem_map.mpr ⟨i, List.mem_range.mpr hi, rfl⟩)
        have eY : ys.getD i "" = m := by rw [List.getD_eq_getElem?_getD, List.getElem?_eq_getElem hi, ← e]; rfl
        have z : okB r.st (ys.getD i "") = true := z
        rw [eY] at z
        exact okB_iff.mp z
      · intro h b hb
        obtain ⟨i, hi, rfl⟩ := List.mem_map.mp hb
        have hi := List.mem_range.mp hi
        have eY : ys.getD i "" = ys[i] := by rw [List.getD_eq_getElem?_getD, List.getElem?_eq_getElem hi]; rfl
        show okB r.st (ys.getD i "") = true
        rw [eY]
        exact okB_iff.mpr (h _ ((hy _).mp (List.getElem_mem hi)))
end
end Cy
end

section
set_option maxHeartbeats 4000000
/-! registry.py, second part: what changes. -/
namespace Cy
open PySem PySem.Spec PyProof.Rows
open L2 hiding St
/-! ### its graphs, one behind the other -/
def obM (CR CN : Addr) (A : RR → Addr) (r : Rg) (g2 : Gr) : RR → Option HO
  | .rc x => obN CN (fun y => A (.rc y)) g2 x
  | l => obR CR CN A r l
def putN (A : RR → Addr) (B : NR → Addr) : RR → Addr
  | .nd y => B y
  | l => A l
def putC (A : RR → Addr) (B : NR → Addr) : RR → Addr
  | .rc y => B y
  | l => A l
abbrev MAt (K : PySem.W.Frag) (H : Hp) (A : RR → Addr) (r : Rg) (g2 : Gr) : Prop := At H A (obM (He.ga K "Registry") (He.ga K "Needs") A r g2)
abbrev MFp (K : PySem.W.Frag) (A : RR → Addr) (r : Rg) (g2 : Gr) : Addr → Prop := Fp A (obM (He.ga K "Registry") (He.ga K "Needs") A r g2)
section
variable {K : PySem.W.Frag} {H H' : Hp} {A : RR → Addr} {A2 : NR → Addr} {r : Rg} {g g' : Gr}
theorem RAt.glueN (a : RAt K H A r) (b : NAt K H' A2 g') (e : A2 .p = A (.nd .p)) (f : Fr (Fp (fun y => A (.nd y)) (obN (He.ga K "Needs") (fun y => A (.nd y)) r.g)) (Fp A2 (obN (He.ga K "Needs") A2 g')) H H') :
    MAt K H' (putN A A2) { r with g := g' } r.g ∧ Fr (RFp K A r) (MFp K (putN A A2) { r with g := g' } r.g) H H' := by
  refine At.glue a RR.nd (A2 := A2) (o2 := obN (He.ga K "Needs") A2 g') (fun _ _ e => RR.nd.inj e) b f (fun x => ⟨rfl, rfl⟩) fun l hl => ⟨?_, ?_⟩
  · cases l with
    | nd x => exact absurd rfl (hl x)
    | _ => rfl
  · cases l with
    | nd x => exact absurd rfl (hl x)
    | p =>
      show some (HO.ins _ (A .dx) (flR (putN A A2))) = some (HO.ins _ (A .dx) (flR A))
      congr 2
      show [_, _, ((("own_needs" : Str)), V.ref (A2 .p)), _, _, _, _] = [_, _, _, _, _, _, _]
      rw [e]
      rfl
    | _ => rfl
theorem RAt.glueC (a : MAt K H A r g) (b : NAt K H' A2 r.g) (e : A2 .p = A (.rc .p)) (f : Fr (Fp (fun y => A (.rc y)) (obN (He.ga K "Needs") (fun y => A (.rc y)) g)) (Fp A2 (obN (He.ga K "Needs") A2 r.g)) H H') :
    RAt K H' (putC A A2) r ∧ Fr (MFp K A r g) (RFp K (putC A A2) r) H H' := by
  refine At.glue a RR.rc (A2 := A2) (o2 := obN (He.ga K "Needs") A2 r.g) (fun _ _ e => RR.rc.inj e) b f (fun x => ⟨rfl, rfl⟩) fun l hl => ⟨?_, ?_⟩
  · cases l with
    | rc x => exact absurd rfl (hl x)
    | _ => rfl
  · cases l with
    | rc x => exact absurd rfl (hl x)
    | p =>
      show some (HO.ins _ (A .dx) (flR (putC A A2))) = some (HO.ins _ (A .dx) (flR A))
      congr 2
      show [_, _, _, ((("own_recorded" : Str)), V.ref (A2 .p)), _, _, _] = [_, _, _, _, _, _, _]
      rw [e]
      rfl
    | _ => rfl
theorem MAt.rc (a : MAt K H A r g) : NAt K H (fun x => A (.rc x)) g := At.sub a RR.rc fun _ _ e => RR.rc.inj e
end
theorem erK_put {P : List Pr} {q : Pr} : putK (erK P) (pk q) (.bl true) = erK (addP P q) := by
  unfold addP
  by_cases c : q ∈ P
  · rw [if_pos c]
    unfold putK
    rw [valV_any, erK_in c]
    show (erK P).map _ = _
    unfold erK
    rw [List.map_map]
    refine List.map_congr_left fun x _ => ?_
    show (if pk x = pk q then (pk x, V.bl true) else (pk x, .bl true)) = (pk x, .bl true)
    split <;> rfl
  · rw [if_neg c, putK_new _ (erK_no c)]
    unfold erK
    rw [List.map_append]
    rfl
section
variable {P : Program} {w : World} {K : PySem.W.Frag} {mg : Str → Option Value} {base : Heap}
theorem ok_R_request (T : Tx K mg) : Met P w K mg base 4 (He.ga K "Registry") "request" (spR_request K) := by
  have sc : FnScope ["self", "source", "target", "is_new"] ["self", "source", "target"] (defScope sR_request) := ⟨rfl, rfl, rfl, by decide +kernel, rfl, by decide +kernel, by decide +kernel⟩
  have nd := sc.nd
  refine met_of T.fR_request T.clR T.mR_request sc (fun z F => F.bindsN fun _ _ _ _ _ _ us hl => match us, hl with | [_, _, _], _ => rfl) (fun vs H Q E h => ?_) fun cdv A outer sh H vs Q E hr h => ?_
  · obtain ⟨A, r, s, t, rfl, _⟩ := h
    rfl
  obtain ⟨A, r, s, t, rfl, at_, ok, ht, hs, q⟩ := h
  refine ⟨_, (pss_cons (ps_expr (pe_mt (ok_R_want_request T) hr (by decide) (pv 0) (pa_cons (pv 1) (pa_cons (pv 2) pa_nil))))
      (C8.pss_cut (ps_if (pt_cmp (pc_notN (pv 1))) (pss_cons (ps_expr (pe_mt (ok_N_record T) hr (by decide) (pe_fldK K (pv 0)) (pa_cons (pv 1) (pa_cons (pv 2) pa_nil))))
      (pss_one (ps_expr (pe_mt (ok_N_record T) hr (by decide) (pe_fldK K (pv 0)) (pa_cons (pv 1) (pa_cons (pv 2) pa_nil)))))) pss_nil)
      (pss_cons (ps_set (i := 3) nd rfl (.inl rfl) (pe_cmpR op_eq (pe_dget (hu hr) (pe_fldK K (pv 0)) (pv 2) (fun _ _ => rfl)) (pe_gc rfl (gcS T.c_NEW)) (nomark _)))
      (C8.pss_cut (ps_if (pt_val (pv 3)) (pss_one (ps_dput (hu hr) (pe_fldK K (pv 0)) (pv 2) (pe_gc rfl (gcS T.c_RUNNING)) rfl)) pss_nil)
      (pss_one (ps_ret (pv 3))))))), ?_⟩
  refine ⟨_, rfl, _, _, _, rfl, at_.is .p _ rfl, rfl, _, rfl, _, rfl, A, r, s, t, rfl, at_, ok, ht, hs, fun H1 s1 => ?_⟩
  have a1 := at_.same s1
  let g1 : Gr := gReq r.g s t
  have fr0 : Fr (RFp K A r) (RFp K A r) H H1 := .of_same s1 fun _ z => z
  refine ⟨fun σ' H' => σ' = [some (.ref (A .p)), some (optV s), some (.str t), none] ∧ ∃ A1 : RR → Addr, RAt K H' A1 { r with g := g1 } ∧ A1 .p = A .p ∧ Fr (RFp K A r) (RFp K A1 { r with g := g1 }) H H', ?_, ?_⟩
  · cases s with
    | none => exact ⟨_, rfl, _, rfl, rfl, A, a1, rfl, fr0⟩
    | some s =>
      obtain ⟨hsN, hsr⟩ := hs s rfl
      refine ⟨_, rfl, _, rfl, ?_⟩
      have n1 := RAt.nd a1
      refine ⟨_, rfl, _, _, _, _, _, rfl, a1.is .p _ rfl, T.clR, T.nR_own_needs, rfl, _, _, _, rfl, n1.is .p _ rfl, rfl, _, rfl, _, rfl, _, r.N, r.g, s, t, rfl, n1, ok.hN, ok.gok, hsN, ht, fun H2 A2 b2 n2 e2 f2 => ?_⟩
      obtain ⟨m2, k2⟩ := RAt.glueN a1 n2 e2 f2
      have n3 := MAt.rc m2
      refine ⟨_, rfl, _, _, _, _, _, rfl, m2.is .p _ rfl, T.clR, T.nR_own_recorded, rfl, _, _, _, rfl, n3.is .p _ rfl, rfl, _, rfl, _, rfl, _, r.N, r.g, s, t, rfl, n3, ok.hN, ok.gok, hsN, ht, fun H3 A3 b3 n4 e3 f3 => ?_⟩
      obtain ⟨m4, k4⟩ := RAt.glueC (r := { r with g := r.g.rcd s t }) m2 n4 e3 f3
      exact ⟨rfl, _, m4, rfl, (fr0.trans k2).trans k4⟩
  rintro σ' H2 ⟨rfl, A1, a2, eA, f2⟩
  rw [← eA]
  refine ⟨_, rfl, _, _, _, _, _, rfl, a2.is .p _ rfl, T.clR, T.nR_own_states, rfl, _, rfl, _, _, rfl, dgY (.inl (a2.is .st _ rfl)) ht, rfl, ?_⟩
  have ed : decide (V.str (r.st t) = V.str "new") = decide (r.st t = "new") := decide_eq_decide.mpr ⟨V.str.inj, congrArg V.str⟩
  refine ⟨fun σ' H' => σ' = [some (.ref (A1 .p)), some (optV s), some (.str t), some (.bl (decide (r.st t = "new")))] ∧ RAt K H' A1 (r.req s t) ∧ Fr (RFp K A r) (RFp K A1 (r.req s t)) H H', ?_, ?_⟩
  · refine ⟨_, rfl, _, rfl, ?_⟩
    show (if decide (V.str (r.st t) = V.str "new") = true then _ else _)
    rw [ed]
    by_cases c : r.st t = "new"
    · refine ifT (decide_eq_true c) ?_
      refine ⟨_, rfl, _, _, _, _, _, rfl, a2.is .p _ rfl, T.clR, T.nR_own_states, rfl, _, rfl, A1 .st, _, rfl, .inl ⟨_, .inr t, a2.is .st _ rfl, rfl, ?_, rfl⟩, ?_⟩
      · rw [kvS_len, sizeLine_eq]
        have := ok.hN.le
        show r.N.length < _
        omega
      · have z := At.putf (ob := obR (He.ga K "Registry") (He.ga K "Needs") A1 { r with g := g1 }) (ob' := obR (He.ga K "Registry") (He.ga K "Needs") A1 (r.req s t)) (o' := .dK (putK (kvS r.N fun n => .str (r.st n)) (.inr t) (.str "running"))) a2 (l := .st) rfl ?_ (fun _ z => by cases z) fun m hm => ?_
        · exact ⟨rfl, z.1, f2.trans z.2⟩
        · show some (HO.dK (kvS r.N fun n => .str ((if r.st t = "new" then setS r.st t "running" else r.st) n))) = _
          rw [kvS_put_in ht, if_pos c]
          congr 2
          exact kvS_congr fun m _ => by unfold setS; split <;> rfl
        · cases m with
          | st => exact absurd rfl hm
          | _ => rfl
    · refine ifN (decide_eq_false c) ?_
      have e : r.req s t = { r with g := g1 } := by
        unfold Rg.req
        rw [if_neg c]
      rw [e]
      exact ⟨rfl, a2, f2⟩
  · rintro σ' H3 ⟨rfl, a3, f3⟩
    exact ⟨_, rfl, q _ A1 a3 eA f3⟩
theorem ok_R_access (T : Tx K mg) : Met P w K mg base 6 (He.ga K "Registry") "access" (spR_access K) := by
  have sc : FnScope ["self", "source", "target", "answer"] ["self", "source", "target"] (defScope sR_access) := ⟨rfl, rfl, rfl, by decide +kernel, rfl, by decide +kernel, by decide +kernel⟩
  have nd := sc.nd
  refine met_of T.fR_access T.clR T.mR_access sc (fun z F => F.bindsN fun _ _ _ _ _ _ us hl => match us, hl with | [_, _, _], _ => rfl) (fun vs H Q E h => ?_) fun cdv A outer sh H vs Q E hr h => ?_
  · obtain ⟨A, r, s, t, rfl, _⟩ := h
    rfl
  obtain ⟨A, r, s, t, rfl, at_, ok, pl, hs, hr2, ht, hf, hT, nw, q⟩ := h
  refine ⟨_, (pss_cons (ps_set (i := 3) nd rfl (.inl rfl) (pe_mt (ok_R_answer T) hr (by decide) (pv 0) (pa_cons (pv 1) (pa_cons (pv 2) pa_nil))))
      (pss_cons (ps_if (pt_cmpR op_eq (pv 3) (pe_gc rfl (gcS T.c_WAIT)) (nomark _)) (pss_one ps_never) pss_nil)
      (pss_cons (ps_if (pt_cmpR op_eq (pv 3) (pe_gc rfl (gcS T.c_EARLY)) (nomark _)) (pss_one (ps_dput (hu hr) (pe_fldK K (pv 0)) (pe_tup (pa_cons (pv 1) (pa_cons (pv 2) pa_nil))) pe_bl rfl)) pss_nil)
      (pss_cons (ps_if (PW.pt (pw_and (pt_cmpR op_eq (pv 3) (pe_gc rfl (gcS T.c_FAILED)) (nomark _)) (pw_and1 (pt_cmp (pc_notN (pv 1)))))) (pss_one ps_never) pss_nil)
      (pss_one (ps_ret (pv 3))))))), ?_⟩
  refine ⟨_, rfl, _, _, _, rfl, at_.is .p _ rfl, rfl, _, rfl, _, rfl, A, r, s, t, rfl, at_, ok, hs, hr2, ht, hf, hT, fun H1 v s1 av => ?_⟩
  have a1 := at_.same s1
  have f1 : Fr (RFp K A r) (RFp K A r) H H1 := .of_same s1 fun _ z => z
  have fin : ∀ (c : v = "ready" ∨ v = "early"), v ≠ "wait" ∧ v ≠ "failed" := fun c => by
    rcases c with rfl | rfl
    · exact ⟨by decide +kernel, by decide +kernel⟩
    · exact ⟨by decide +kernel, by decide +kernel⟩
  cases av with
  | wait h e => exact absurd (.wait h e) nw
  | ready h =>
    refine ⟨_, rfl, rfl, _, rfl, ?_⟩
    refine ifN (by decide +kernel) ?_
    refine ⟨_, rfl, rfl, _, rfl, ifN (by decide +kernel) ?_⟩
    refine ⟨_, rfl, rfl, _, rfl, ifN (by decide +kernel) (ifN rfl ?_)⟩
    exact ⟨_, rfl, q _ A _ r a1 rfl f1 (.ready h) (fun z => absurd z (by decide +kernel)) fun _ => rfl⟩
  | early h e =>
    refine ⟨_, rfl, rfl, _, rfl, ?_⟩
    refine ifN (by decide +kernel) ?_
    refine ⟨_, rfl, rfl, _, rfl, ifT (by decide +kernel) ?_⟩
    refine ⟨_, rfl, _, _, _, _, _, rfl, a1.is .p _ rfl, T.clR, T.nR_own_early, rfl, _, rfl, _, rfl, (by rw [sizeLine_eq]; show 2 ≤ _; decide), fun p hp => ?_⟩
    have s2 := sameNew (o := .tup [V.str s, V.str t]) hp
    have a2 := a1.same s2
    have f2 := f1.trans (Fr.of_same (F := RFp K A r) (F' := RFp K A r) s2 fun _ z => z)
    have z := At.putf (ob := obR (He.ga K "Registry") (He.ga K "Needs") A r) (ob' := obR (He.ga K "Registry") (He.ga K "Needs") A { r with P := addP r.P (s, t) }) (o' := .dT (putK (erK r.P) (pk (s, t)) (.bl true))) a2 (l := .er) rfl ?_ (fun _ z => by cases z) fun m hm => ?_
    · refine ⟨A .er, _, rfl, .inr ⟨_, pk (s, t), p, a2.is .er _ rfl, rfl, upd_same, ?_, rfl⟩, ?_⟩
      · rw [erK, List.length_map, sizeLine_eq]
        omega
      · refine ⟨_, rfl, rfl, _, rfl, ifN (by decide +kernel) (ifN rfl ?_)⟩
        exact ⟨_, rfl, q _ A _ _ z.1 rfl (f2.trans z.2) (.early h e) (fun _ => rfl) fun z => absurd rfl z⟩
    · rw [erK_put]
      rfl
    · cases m with
      | er => exact absurd rfl hm
      | _ => rfl
theorem ok_R_export (T : Tx K mg) : Met P w K mg base 3 (He.ga K "Registry") "export" (spR_export K) := by
  have sc : FnScope ["self", "module", "name", "value"] ["self", "module", "name", "value"] (defScope sR_export) := ⟨rfl, rfl, rfl, by decide +kernel, rfl, by decide +kernel, by decide +kernel⟩
  have nd := sc.nd
  refine met_of T.fR_export T.clR T.mR_export sc (fun z F => F.bindsN fun _ _ _ _ _ _ us hl => match us, hl with | [_, _, _, _], _ => rfl) (fun vs H Q E h => ?_) fun cdv A outer sh H vs Q E hr h => ?_
  · obtain ⟨A, r, m, x, v, rfl, _⟩ := h
    rfl
  obtain ⟨A, r, m, x, v, rfl, at_, ok, hm, hs, he, hx, q⟩ := h
  refine ⟨_, (pss_cons (ps_expr (pe_mt (ok_R_want_state T) hr (by decide) (pv 0) (pa_cons (pv 1) (pa_cons (pe_gc rfl (gcS T.c_RUNNING)) pa_nil))))
      (pss_cons (ps_if (pt_not (pt_val (pe_c (ok_is_name T) hr (by decide) rfl (pa_cons (pv 2) pa_nil)))) (pss_one ps_never) pss_nil)
      (pss_cons (ps_if (pt_not (pt_val (pe_c (ok_is_integer T) hr (by decide) rfl (pa_cons (pv 3) pa_nil)))) (pss_one ps_never) pss_nil)
      (pss_one (ps_dput (hu hr) (pe_dget (hu hr) (pe_fldK K (pv 0)) (pv 1) (fun _ _ => rfl)) (pv 2) (pv 3) rfl))))), ?_⟩
  refine ⟨_, rfl, _, _, _, rfl, at_.is .p _ rfl, rfl, _, rfl, A, r, m, _, rfl, at_, ok, hm, hs, fun H1 s1 => ?_⟩
  have a1 := at_.same s1
  refine ⟨_, rfl, x, rfl, hx, fun H2 s2 => ⟨_, rfl, ?_⟩⟩
  have a2 := a1.same s2
  refine ⟨_, rfl, v, rfl, _, rfl, ?_⟩
  have he2 := a2.is (.e m) _ (if_pos hm)
  have z := At.putf (ob := obR (He.ga K "Registry") (He.ga K "Needs") A r) (ob' := obR (He.ga K "Registry") (He.ga K "Needs") A { r with exs := setS r.exs m [(x, v)] }) (o' := .dK (putK (exK (r.exs m)) (.inr x) (.int v))) a2 (l := .e m) (if_pos hm) ?_ (fun _ z => by cases z) fun l hl => ?_
  · refine ⟨_, rfl, _, rfl, _, _, _, _, _, rfl, a2.is .p _ rfl, T.clR, T.nR_own_exports, rfl, _, rfl, _, _, rfl, dgY (.inl (a2.is .ex _ rfl)) hm, _, rfl, A (.e m), _, rfl, .inl ⟨_, .inr x, he2, rfl, ?_, rfl⟩, ?_⟩
    · rw [he, sizeLine_eq]
      show 0 < _
      decide
    · exact q _ z.1 ((Fr.of_same (s1.trans s2) fun _ z => z).trans z.2)
  · show (if m ∈ r.N then some (HO.dK (exK (setS r.exs m [(x, v)] m))) else none) = _
    rw [if_pos hm, setS_same, he]
    rfl
  · cases l with
    | e n =>
      have hn : n ≠ m := fun z => hl (by rw [z])
      show (if n ∈ r.N then some (HO.dK (exK (setS r.exs m [(x, v)] n))) else none) = _
      rw [setS_ne hn]
      rfl
    | _ => rfl
theorem ok_R_forget (T : Tx K mg) : Met P w K mg base 1 (He.ga K "Registry") "forget_early" (spR_forget K) := by
  have sc : FnScope ["self", "sources", "pair"] ["self", "sources"] (defScope sR_forget_early) := ⟨rfl, rfl, rfl, by decide +kernel, rfl, by decide +kernel, by decide +kernel⟩
  have nd := sc.nd
  refine met_of T.fR_forget_early T.clR T.mR_forget_early sc (fun z F => F.bindsN fun _ _ _ _ _ _ us hl => match us, hl with | [_, _], _ => rfl) (fun vs H Q E h => ?_) fun cdv A outer sh H vs Q E hr h => ?_
  · obtain ⟨A, r, l, ys, rfl, _⟩ := h
    rfl
  obtain ⟨A, r, l, ys, rfl, at_, ok, hl, q⟩ := h
  refine ⟨_, (pss_one (ps_fld (pv 0) (pe_lock (pe_dcT (own := [("pair", 2)]) (g := (gName 2)) (hu0 hr) rfl nd (pi_keys (pe_fldK K (pv 0))) (blkOk_by (by rfl)) (fun _ _ _ _ _ => (pg_name (i := 2) nd rfl (.inl rfl))) (fun _ _ _ _ _ => pts_one (pt_cmpR (op_notIn_seqK K) (pe_ix (ix_tupK K) (pv 2) pe_int (fun _ _ => rfl)) (pv 1) (by rfl))) (fun _ _ _ _ _ => (pv 2)) (fun _ _ _ _ _ => pe_bl))) rfl)), ?_⟩
  have hd := at_.is .er _ rfl
  have hp := at_.is .p _ rfl
  have npd : A .p ≠ A .er := fun z => by rw [z, hd] at hp; cases hp
  have nld : l ≠ A .er := fun z => by rw [z, hd] at hl; cases hl
  refine ⟨A .er, _, hd, trivial, fun od => ?_⟩
  refine ⟨_, rfl, _, _, _, _, _, rfl, by rw [upd_ne npd]; exact hp, T.clR, T.nR_own_early, rfl, A .er, od, rfl, .inr ⟨_, upd_same, fun D hD => ?_⟩⟩
  have DA : D ≠ A .er := fun z => by rw [z, upd_same] at hD; cases hD
  have hD1 : H D = none := by rw [upd_ne DA] at hD; exact hD
  refine gen_it (walk_keysT (kvs := erK r.P)) (fun i H' => Same (upd H (A .er) (.frz od (.dT (erK r.P)))) H' ∧ H' D = some (.dT (erK ((r.P.take i).filter fun q => decide (q.1 ∉ ys))))) ⟨sameNew hD, upd_same⟩ (fun i H' _ z => z.1 _ _ upd_same) ?_ ?_
  · rintro i v H2 H3 hi ⟨s2, e2⟩ ⟨rfl, k, u, b, ek, rfl, eb⟩
    have hi2 : i < r.P.length := by rw [erK, List.length_map] at hi; exact hi
    have ek : (r.P[i]?).map (fun q => (pk q, V.bl true)) = some (k, u) := by rw [← List.getElem?_map]; exact ek
    rw [List.getElem?_eq_getElem hi2] at ek
    generalize hq : r.P[i] = pr at ek
    have en : r.P[i]? = some pr := by rw [List.getElem?_eq_getElem hi2, hq]
    obtain ⟨rfl, rfl⟩ := Prod.mk.inj (Option.some.inj ek)
    have nl : H3 l = some (.lst (ys.map V.str)) := s2 _ _ (by rw [upd_ne nld]; exact hl)
    refine ⟨rfl, _, rfl, b, _, 0, .str pr.1, rfl, rfl, .inl (.inl eb), rfl, _, rfl, l, _, rfl, .inl (.inl (.inl nl)), rfl, flat_strs ys, _, rfl, ?_⟩
    show (if (!inV (V.str pr.1) (ys.map V.str)) = true then _ else _)
    rw [inV_strs]
    have tk : ((r.P.take (i + 1)).filter fun q => decide (q.1 ∉ ys)) = ((r.P.take i).filter fun q => decide (q.1 ∉ ys)) ++ [pr].filter fun q => decide (q.1 ∉ ys) := by
      rw [take_at en, List.filter_append]
    by_cases c : pr.1 ∈ ys
    · refine ifN (by rw [decide_eq_true c]; rfl) ⟨s2, ?_⟩
      rw [tk, e2, List.filter_cons_of_neg (by rw [decide_eq_true_eq]; exact fun z => z c)]
      simp
    · refine ifT (by rw [decide_eq_false c]; rfl) ⟨_, rfl, _, pk pr, b, rfl, eb, e2, ?_, sameTo s2 hD, ?_⟩
      · have := ok.pl
        have z := List.length_filter_le (fun q : Pr => decide (q.1 ∉ ys)) (r.P.take i)
        rw [List.length_take] at z
        rw [erK, List.length_map, sizeLine_eq]
        omega
      · rw [upd_same, tk, List.filter_cons_of_pos (by rw [decide_eq_true_eq]; exact c), putK_new _ (erK_no fun z => take_no ok.pn en (List.mem_filter.mp z).1)]
        unfold erK
        rw [List.map_append]
        rfl
  · rintro H2 ⟨s2, e2⟩
    rw [show (erK r.P).length = r.P.length from by rw [erK, List.length_map], List.take_length] at e2
    obtain ⟨u1, u2⟩ := unlock hd s2
    have e3 : (upd H2 (A .er) (.dT (erK r.P))) D = some (.dT (erK (r.P.filter fun q => decide (q.1 ∉ ys)))) := by rw [upd_ne DA]; exact e2
    refine ⟨u1, ?_⟩
    let A' : RR → Addr := fun | .er => D | l => A l
    have z := At.newS (A' := A') (ob := obR (He.ga K "Registry") (He.ga K "Needs") A r) (ob' := obR (He.ga K "Registry") (He.ga K "Needs") A' { r with P := r.P.filter fun q => decide (q.1 ∉ ys) }) (l0 := .p) (l1 := .er)
      (o0' := .ins (He.ga K "Registry") (A .dx) (putF "own_early" (.ref D) (flR A))) (o1 := .dT (erK (r.P.filter fun q => decide (q.1 ∉ ys)))) at_ u2 rfl (fun z => by cases z) hD1 e3 rfl rfl (fun _ z => by cases z) (fun _ z => by cases z) (fun m h0 h1 => ?_) rfl fun m h1 => ?_
    · refine ⟨_, rfl, A .p, _, A .dx, _, rfl, u2 _ _ hp, T.clR, T.nR_own_early, (by show 7 < 1000; decide), ?_⟩
      exact q _ A' z.1 rfl z.2
    · cases m with
      | p => exact absurd rfl h0
      | er => exact absurd rfl h1
      | _ => rfl
    · cases m with
      | er => exact absurd rfl h1
      | _ => rfl
theorem ok_R_finish (T : Tx K mg) : Met P w K mg base 5 (He.ga K "Registry") "finish" (spR_finish K) := by
  have sc : FnScope ["self", "module", "found", "name"] ["self", "module"] (defScope sR_finish) := ⟨rfl, rfl, rfl, by decide +kernel, rfl, by decide +kernel, by decide +kernel⟩
  have nd := sc.nd
  refine met_of T.fR_finish T.clR T.mR_finish sc (fun z F => F.bindsN fun _ _ _ _ _ _ us hl => match us, hl with | [_, _], _ => rfl) (fun vs H Q E h => ?_) fun cdv A outer sh H vs Q E hr h => ?_
  · obtain ⟨A, r, m, rfl, _⟩ := h
    rfl
  obtain ⟨A, r, m, rfl, at_, ok, hm, hs, q⟩ := h
  refine ⟨_, (pss_cons (ps_expr (pe_mt (ok_R_want_state T) hr (by decide) (pv 0) (pa_cons (pv 1) (pa_cons (pe_gc rfl (gcS T.c_RUNNING)) pa_nil))))
      (C8.pss_cut (ps_dput (hu hr) (pe_fldK K (pv 0)) (pv 1) (pe_gc rfl (gcS T.c_DONE)) rfl)
      (C8.pss_cut (ps_setLc (i := 2) (own := [("name", 3)]) (g := (gName 3)) rfl nd rfl rfl (sw_true rfl rfl rfl (by decide +kernel)) (pi_list (pe_mt (ok_R_in_state T) hr (by decide) (pv 0) (pa_cons (pe_gc rfl (gcS T.c_DONE)) pa_nil))) (blkOk_by (by rfl)) (fun _ _ _ _ _ => (pg_name (i := 3) nd rfl (.inl rfl))) (fun _ _ _ _ _ => pts_one (pt_val (pe_mt (ok_R_is_complete T) hr (by decide) (pv 0) (pa_cons (pv 3) pa_nil)))) (fun _ _ _ _ _ => (pv 3)))
      (C8.pss_cut (ps_for PassesOwn.never rfl (pi_list (pv 2)) (pg_name (i := 3) nd rfl (.inl rfl)) (pss_one (ps_dput (hu hr) (pe_fldK K (pv 0)) (pv 3) (pe_gc rfl (gcS T.c_READY)) rfl)))
      (pss_cons (ps_expr (pe_mt (ok_R_forget T) hr (by decide) (pv 0) (pa_cons (pv 2) pa_nil)))
      (pss_one (ps_ret (pv 2)))))))), ?_⟩
  refine ⟨_, rfl, _, _, _, rfl, at_.is .p _ rfl, rfl, _, rfl, A, r, m, _, rfl, at_, ok, hm, hs, fun H1 s1 => ?_⟩
  have a1 := at_.same s1
  let r1 : Rg := { r with st := setS r.st m "done" }
  have ok1 : ROk r1 := ⟨ok.hN, ok.gok, ok.el, ok.pn, ok.pl⟩
  have l10 := ok.hN.le
  -- self.own_states[module] = DONE
  refine ⟨fun σ' H' => σ' = [some (.ref (A .p)), some (.str m), none, none] ∧ RAt K H' A r1 ∧ Fr (RFp K A r) (RFp K A r1) H H', ?_, ?_⟩
  · refine ⟨_, rfl, _, _, _, _, _, rfl, a1.is .p _ rfl, T.clR, T.nR_own_states, rfl, _, rfl, A .st, _, rfl, .inl ⟨_, .inr m, a1.is .st _ rfl, rfl, by rw [kvS_len, sizeLine_eq]; omega, rfl⟩, rfl, ?_⟩
    have z := At.putf (ob := obR (He.ga K "Registry") (He.ga K "Needs") A r) (ob' := obR (He.ga K "Registry") (He.ga K "Needs") A r1) (o' := .dK (putK (kvS r.N fun n => .str (r.st n)) (.inr m) (.str "done"))) a1 (l := .st) rfl ?_ (fun _ z => by cases z) fun l hl => ?_
    · exact ⟨z.1, (Fr.of_same s1 fun _ z => z).trans z.2⟩
    · rw [kvS_put_in hm]
      show some (HO.dK (kvS r.N fun n => .str (setS r.st m "done" n))) = _
      congr 2
      exact kvS_congr fun m _ => by unfold setS; split <;> rfl
    · cases l with
      | st => exact absurd rfl hl
      | _ => rfl
  rintro σ' H2 ⟨rfl, a2, f2⟩
  -- found
  refine ⟨fun σ' H' => ∃ (l : Addr) (p : Str → Bool), σ' = [some (.ref (A .p)), some (.str m), some (.ref l), none] ∧ Same H2 H' ∧ H2 l = none ∧ H' l = some (.lst ((r.N.filter p).map V.str)) ∧ ¬ RFp K A r1 l ∧ ∀ n, p n = true ↔ (r1.st n = "done" ∧ compl r1.st r.g.T n), ?_, ?_⟩
  · have fwd : ∀ b, RFp K A r1 b → H2 b ≠ none := fun b hb z => by
      obtain ⟨o, e, _⟩ := a2.fp hb
      rw [e] at z
      cases z
    let pc : Str → Bool := fun n => @decide (compl r1.st r.g.T n) (Classical.propDecidable _)
    have pce : ∀ n, pc n = true ↔ compl r1.st r.g.T n := fun n => @decide_eq_true_iff (compl r1.st r.g.T n) (Classical.propDecidable _)
    let ds := r.N.filter fun n => decide (r1.st n = "done")
    refine ⟨_, rfl, _, _, _, rfl, a2.is .p _ rfl, rfl, A, r1, "done", rfl, a2, ok1, .inr rfl, fun H3 l0 s3 hl0 el0 => ?_⟩
    refine ⟨l0, rfl, ⟨_, .inl (.inl el0)⟩, fun D hD => lc_same (walk_names (l := ds)) hD (fun H4 s4 => .inl (.inl (s4 _ _ el0))) (fun i => .str (ds.getD i "")) (fun i => pc (ds.getD i "")) ?_ fun H4 s4 e4 => ?_⟩
    · rintro i x H4 H5 hi lc ⟨rfl, n, en, rfl⟩
      have hi10 : i < 10000 := by
        have : ds.length ≤ r.N.length := List.length_filter_le _ _
        omega
      have eN : ds.getD i "" = n := by rw [List.getD_eq_getElem?_getD, en]; rfl
      have nN : n ∈ r.N := (List.mem_filter.mp (List.mem_of_getElem? en)).1
      have a5 := a2.same (s3.trans lc.same)
      refine ⟨rfl, _, rfl, _, _, _, rfl, a5.is .p _ rfl, rfl, _, rfl, A, r1, n, rfl, a5, ok1, nN, fun H6 c s6 e6 => ⟨c, rfl, ?_⟩⟩
      have ec : c = pc n := Bool.eq_iff_iff.mpr (e6.trans (pce n).symm)
      by_cases c1 : pc n = true
      · exact ifT (ec.trans c1) ⟨_, rfl, lc.yes hi10 (by rw [eN]; exact c1) (by rw [eN]) s6⟩
      · exact ifN (ec.trans (Bool.eq_false_iff.mpr c1)) (lc.no hi10 (by rw [eN]; exact Bool.eq_false_iff.mpr c1) s6)
    · have hD2 := s3.free hD
      refine ⟨D, fun n => decide (r1.st n = "done") && pc n, rfl, s3.trans s4, hD2, ?_, fun z => fwd D z hD2, fun n => ?_⟩
      · rw [e4, picks_list (l := ds) (g := V.str) (q := pc) fun i x e => ?_, List.filter_filter]
        · rw [show (fun n => pc n && decide (r1.st n = "done")) = fun n => decide (r1.st n = "done") && pc n from funext fun n => Bool.and_comm _ _]
        · have eN : ds.getD i "" = x := by rw [List.getD_eq_getElem?_getD, e]; rfl
          show V.str (ds.getD i "") = V.str x ∧ pc (ds.getD i "") = pc x
          rw [eN]
          exact ⟨rfl, rfl⟩
      · rw [Bool.and_eq_true, decide_eq_true_eq, pce]
  rintro σ' H3 ⟨l, p, rfl, s3, hl, el, nl, hp⟩
  have a3 := a2.same s3
  have f3 : Fr (RFp K A r) (RFp K A r1) H H3 := f2.trans (.of_same s3 fun _ z => z)
  generalize hys : r.N.filter p = ys at el
  have yN : ∀ n ∈ ys, n ∈ r.N := fun n h => (List.mem_filter.mp (hys ▸ h)).1
  let r2 : Nat → Rg := fun i => { r1 with st := fun n => if n ∈ ys.take i then "ready" else r1.st n }
  have fps : ∀ i b, RFp K A (r2 i) b → RFp K A r1 b := fun i b ⟨l, o, e, z⟩ => by
    cases l with
    | st => exact ⟨.st, _, rfl, z⟩
    | p => exact ⟨.p, o, e, z⟩
    | dx => exact ⟨.dx, o, e, z⟩
    | ex => exact ⟨.ex, o, e, z⟩
    | e n => exact ⟨.e n, o, e, z⟩
    | nd x => exact ⟨.nd x, o, e, z⟩
    | rc x => exact ⟨.rc x, o, e, z⟩
    | er => exact ⟨.er, o, e, z⟩
    | hd => exact ⟨.hd, o, e, z⟩
    | ch => exact ⟨.ch, o, e, z⟩
  refine ⟨fun σ' H' => ∃ v, σ' = [some (.ref (A .p)), some (.str m), some (.ref l), v] ∧ RAt K H' A (r2 ys.length) ∧ Fr (RFp K A r) (RFp K A (r2 ys.length)) H H' ∧ H' l = some (.lst (ys.map V.str)), ?_, ?_⟩
  · refine ⟨_, rfl, l, rfl, ⟨_, .inl (.inl el)⟩, for_it (walk_names (l := ys)) (fun i σ' H' => ∃ v, σ' = [some (.ref (A .p)), some (.str m), some (.ref l), v] ∧ RAt K H' A (r2 i) ∧ Fr (RFp K A r) (RFp K A (r2 i)) H H' ∧ H' l = some (.lst (ys.map V.str))) ⟨none, rfl, ?_, ?_, el⟩ (fun i σ H' _ ⟨_, _, _, _, e⟩ => .inl (.inl e)) ?_ ?_⟩
    · exact a3
    · exact f3
    · rintro i x σ H4 H5 hi ⟨v, rfl, a4, f4, e4⟩ ⟨rfl, n, en, rfl⟩
      have nN := yN n (List.mem_of_getElem? en)
      refine ⟨_, rfl, _, _, _, _, _, rfl, a4.is .p _ rfl, T.clR, T.nR_own_states, rfl, _, rfl, A .st, _, rfl, .inl ⟨_, .inr n, a4.is .st _ rfl, rfl, by rw [kvS_len, sizeLine_eq]; show r.N.length < _; omega, rfl⟩, ?_⟩
      have z := At.putf (ob := obR (He.ga K "Registry") (He.ga K "Needs") A (r2 i)) (ob' := obR (He.ga K "Registry") (He.ga K "Needs") A (r2 (i + 1))) (o' := .dK (putK (kvS r.N fun n => .str ((r2 i).st n)) (.inr n) (.str "ready"))) a4 (l := .st) rfl ?_ (fun _ z => by cases z) fun l hl => ?_
      · exact ⟨_, rfl, z.1, f4.trans z.2, by rw [upd_ne (fun z => nl (fps i _ ⟨.st, _, rfl, z.symm⟩))]; exact e4⟩
      · rw [kvS_put_in nN]
        show some (HO.dK (kvS r.N fun m => .str (if m ∈ ys.take (i + 1) then "ready" else r1.st m))) = _
        congr 2
        refine kvS_congr fun m _ => ?_
        show V.str (if m ∈ ys.take (i + 1) then "ready" else r1.st m) = setS (fun m => V.str (if m ∈ ys.take i then "ready" else r1.st m)) n (.str "ready") m
        unfold setS
        rw [take_at en]
        by_cases c : m = n
        · rw [if_pos c, if_pos (by rw [c]; simp)]
        · rw [if_neg c]
          congr 1
          by_cases c2 : m ∈ ys.take i
          · rw [if_pos c2, if_pos (List.mem_append_left _ c2)]
          · rw [if_neg c2, if_neg fun z => (List.mem_append.mp z).elim c2 fun z => c (List.mem_singleton.mp z)]
      · cases l with
        | st => exact absurd rfl hl
        | _ => rfl
    · rintro σ H4 ⟨v, rfl, a4, f4, e4⟩
      exact ⟨v, rfl, a4, f4, e4⟩
  rintro σ' H4 ⟨v, rfl, a4, f4, e4⟩
  refine ⟨_, rfl, _, _, _, rfl, a4.is .p _ rfl, rfl, _, rfl, A, r2 ys.length, l, ys, rfl, a4, ⟨ok.hN, ok.gok, ok.el, ok.pn, ok.pl⟩, e4, fun H5 A5 a5 eA f5 => ?_⟩
  have er : ({ r2 ys.length with P := (r2 ys.length).P.filter fun q => decide (q.1 ∉ ys) } : Rg) = r.fin m ys := by
    show Rg.mk _ (fun n => if n ∈ ys.take ys.length then "ready" else r1.st n) _ _ _ = Rg.mk _ _ _ _ _
    rw [List.take_length]
  rw [er] at a5 f5
  have nl4 : ¬ RFp K A (r2 ys.length) l := fun z => nl (fps _ _ z)
  have f6 := f4.trans f5
  refine ⟨_, rfl, q H5 A5 l p ys hys.symm hp a5 eA f6 ?_ (f5.keep _ _ e4 nl4) fun z => ?_⟩
  · cases e : H l with
    | none => rfl
    | some o =>
      by_cases c : RFp K A r1 l
      · exact absurd c nl
      · have z : ¬ RFp K A r l := fun ⟨l0, o, e, z⟩ => c (by
          cases l0 with
          | st => exact ⟨.st, _, rfl, z⟩
          | p => exact ⟨.p, o, e, z⟩
          | dx => exact ⟨.dx, o, e, z⟩
          | ex => exact ⟨.ex, o, e, z⟩
          | e n => exact ⟨.e n, o, e, z⟩
          | nd x => exact ⟨.nd x, o, e, z⟩
          | rc x => exact ⟨.rc x, o, e, z⟩
          | er => exact ⟨.er, o, e, z⟩
          | hd => exact ⟨.hd, o, e, z⟩
          | ch => exact ⟨.ch, o, e, z⟩)
        rw [f2.keep _ _ e z] at hl
        cases hl
  · rcases f5.new _ z with y | y
    · exact nl4 y
    · rw [e4] at y
      cases y
end
end Cy
end

section
set_option maxHeartbeats 4000000
/-! registry.py, third part: a new one. -/
namespace Cy
open PySem PySem.Spec PyProof.Rows
open L2 hiding St
section
variable {R : Type} {H : Hp} {A A' B : R → Addr} {ob ob' ob2 : R → Option HO}
theorem At.union (a : At H A ob) (b : At H B ob2) (d : ∀ x, Fp A ob x → ¬ Fp B ob2 x) (pr : R → Prop) (h1 : ∀ l, pr l → A' l = B l ∧ ob' l = ob2 l) (h2 : ∀ l, ¬ pr l → A' l = A l ∧ ob' l = ob l) :
    At H A' ob' ∧ ∀ x, Fp A' ob' x → Fp A ob x ∨ Fp B ob2 x := by
  refine ⟨⟨fun l o e => ?_, fun l l' o o' e e' z => ?_, fun l xs z => ?_⟩, fun x ⟨l, o, e, z⟩ => ?_⟩
  · by_cases c : pr l
    · rw [(h1 l c).1]
      rw [(h1 l c).2] at e
      exact b.is l o e
    · rw [(h2 l c).1]
      rw [(h2 l c).2] at e
      exact a.is l o e
  · by_cases c : pr l <;> by_cases c' : pr l'
    · rw [(h1 l c).2] at e
      rw [(h1 l' c').2] at e'
      rw [(h1 l c).1, (h1 l' c').1] at z
      exact b.inj _ _ _ _ e e' z
    · rw [(h1 l c).2] at e
      rw [(h2 l' c').2] at e'
      rw [(h1 l c).1, (h2 l' c').1] at z
      exact absurd ⟨l, o, e, z⟩ (d _ ⟨l', o', e', rfl⟩)
    · rw [(h2 l c).2] at e
      rw [(h1 l' c').2] at e'
      rw [(h2 l c).1, (h1 l' c').1] at z
      exact absurd ⟨l', o', e', z.symm⟩ (d _ ⟨l, o, e, rfl⟩)
    · rw [(h2 l c).2] at e
      rw [(h2 l' c').2] at e'
      rw [(h2 l c).1, (h2 l' c').1] at z
      exact a.inj _ _ _ _ e e' z
  · by_cases c : pr l
    · rw [(h1 l c).2] at z
      exact b.nt _ _ z
    · rw [(h2 l c).2] at z
      exact a.nt _ _ z
  · by_cases c : pr l
    · rw [(h1 l c).2] at e
      rw [(h1 l c).1] at z
      exact .inr ⟨l, o, e, z⟩
    · rw [(h2 l c).2] at e
      rw [(h2 l c).1] at z
      exact .inl ⟨l, o, e, z⟩
theorem At.lift {S : Type} {b : S → Addr} {o2 : S → Option HO} (a : At H b o2) (i : S → R) (h1 : ∀ x, A (i x) = b x ∧ ob (i x) = o2 x) (h2 : ∀ l o, ob l = some o → ∃ x, l = i x) : At H A ob ∧ ∀ x, Fp A ob x → Fp b o2 x := by
  refine ⟨⟨fun l o e => ?_, fun l l' o o' e e' z => ?_, fun l xs z => ?_⟩, fun x ⟨l, o, e, z⟩ => ?_⟩
  · obtain ⟨x, rfl⟩ := h2 l o e
    rw [(h1 x).1]
    exact a.is x o (by rw [← (h1 x).2]; exact e)
  · obtain ⟨x, rfl⟩ := h2 l o e
    obtain ⟨y, rfl⟩ := h2 l' o' e'
    rw [(h1 x).1, (h1 y).1] at z
    rw [(h1 x).2] at e
    rw [(h1 y).2] at e'
    rw [a.inj _ _ _ _ e e' z]
  · obtain ⟨x, rfl⟩ := h2 l _ z
    rw [(h1 x).2] at z
    exact a.nt _ _ z
  · obtain ⟨y, rfl⟩ := h2 l o e
    rw [(h1 y).1] at z
    rw [(h1 y).2] at e
    exact ⟨y, o, e, z⟩
theorem At.out (a : At H A ob) {p : Addr} {o : HO} (n : ¬ Fp A ob p) : At (upd H p o) A ob :=
  ⟨fun l q e => by rw [upd_ne (a.ne n e)]; exact a.is l q e, a.inj, a.nt⟩
theorem At.one {l0 : R} {o : HO} (h : H (A l0) = some o) (n : ∀ xs, o ≠ .tup xs) (u : ∀ l q, ob l = some q → l = l0 ∧ q = o) : At H A ob := by
  refine ⟨fun l q e => ?_, fun l l' q q' e e' _ => ?_, fun l xs z => ?_⟩
  · obtain ⟨rfl, rfl⟩ := u l q e
    exact h
  · rw [(u l q e).1, (u l' q' e').1]
  · exact n xs (u l _ z).2.symm
end
/-! ### a fresh graph -/
def g0 : Gr := ⟨[], fun _ => []⟩
def mkB (x dx d : Addr) : NR → Addr
  | .p => x
  | .dx => dx
  | .d => d
  | .t _ => 0
theorem needs0 {K : PySem.W.Frag} {H : Hp} {x dx d : Addr} (h1 : H x = some (.ins (He.ga K "Needs") dx [("own_targets", .ref d)])) (h2 : H d = some (.dK [])) : NAt K H (mkB x dx d) g0 := by
  have n : x ≠ d := fun z => by rw [z, h2] at h1; cases h1
  refine ⟨fun l o e => ?_, fun l l' o o' e e' z => ?_, obN_nt _ _ _⟩
  · cases l with
    | p => rw [← e]; exact h1
    | dx => cases e
    | d => rw [← e]; exact h2
    | t s => exact absurd (show none = some o from e) (by simp)
  · exact match l, l', e, e', z with
      | .p, .p, _, _, _ => rfl
      | .d, .d, _, _, _ => rfl
      | .p, .d, _, _, z => absurd z n
      | .d, .p, _, _, z => absurd z.symm n
      | .dx, _, e, _, _ => nomatch e
      | .p, .dx, _, e', _ => nomatch e'
      | .d, .dx, _, e', _ => nomatch e'
      | .t s, _, e, _, _ => absurd (show none = some o from e) (by simp)
      | .p, .t s, _, e', _ => absurd (show none = some o' from e') (by simp)
      | .d, .t s, _, e', _ => absurd (show none = some o' from e') (by simp)
/-! ### step by step -/
def r0 (N : List Str) : Rg := ⟨N, fun _ => "new", fun _ => [], g0, []⟩
def rk : RR → Nat
  | .p => 100
  | .dx => 100
  | .st => 1
  | .ex => 2
  | .e _ => 2
  | .nd _ => 3
  | .rc _ => 4
  | .er => 5
  | .hd => 6
  | .ch => 7
def obI (CR CN : Addr) (A : RR → Addr) (N : List Str) (k : Nat) (l : RR) : Option HO := if rk l ≤ k then obR CR CN A (r0 N) l else none
structure Ini (CR CN : Addr) (N : List Str) (p : Addr) (H H1 : Hp) (A : RR → Addr) (k : Nat) : Prop where
  at_ : At H1 A (obI CR CN A N k)
  new : ∀ b, Fp A (obI CR CN A N k) b → H b = none
  kp : ∀ b o, b ≠ p → H b = some o → H1 b = some o
  hp : H p ≠ none
  hp1 : H1 p ≠ none
theorem Ini.add {CR CN p : Addr} {N : List Str} {H H1 H2 : Hp} {A A' B : RR → Addr} {ob2 : RR → Option HO} {k : Nat} {o : HO} (I : Ini CR CN N p H H1 A k) (s : Same H1 H2) (b : At H2 B ob2) (bn : ∀ x, Fp B ob2 x → H1 x = none)
    (h1 : ∀ l, rk l = k + 1 → A' l = B l ∧ obI CR CN A' N (k + 1) l = ob2 l) (h2 : ∀ l, ¬ rk l = k + 1 → A' l = A l ∧ obI CR CN A' N (k + 1) l = obI CR CN A N k l) : Ini CR CN N p H (upd H2 p o) A' (k + 1) := by
  have a2 := I.at_.same s
  obtain ⟨c1, c2⟩ := At.union a2 b (fun x hx hy => by
    obtain ⟨q, e, _⟩ := I.at_.fp hx
    rw [bn x hy] at e
    cases e) (fun l => rk l = k + 1) h1 h2
  have nw : ∀ x, Fp A' (obI CR CN A' N (k + 1)) x → H x = none := fun x hx => by
    rcases c2 x hx with z | z
    · exact I.new x z
    · have y := bn x z
      by_cases c : x = p
      · rw [c] at y
        exact absurd y I.hp1
      · cases e : H x with
        | none => rfl
        | some q =>
          rw [I.kp x q c e] at y
          cases y
  refine ⟨c1.out fun z => I.hp (nw p z), nw, fun b q n e => ?_, I.hp, by rw [upd_same]; exact fun z => by cases z⟩
  rw [upd_ne n]
  exact s _ _ (I.kp b q n e)
theorem Ini.start {CR CN p : Addr} {N : List Str} {H H1 : Hp} {A : RR → Addr} (s : Same H H1) (hp : H p ≠ none) : Ini CR CN N p H H1 A 0 := by
  have z : ∀ l, obI CR CN A N 0 l = none := fun l => by cases l <;> rfl
  refine ⟨⟨fun l o e => ?_, fun l l' o o' e _ _ => ?_, fun l xs e => ?_⟩, fun b ⟨l, o, e, _⟩ => ?_, fun b o _ e => s b o e, hp, fun y => ?_⟩
  · rw [z] at e; cases e
  · rw [z] at e; cases e
  · rw [z] at e; cases e
  · rw [z] at e; cases e
  · cases e : H p with
    | none => exact hp e
    | some o => rw [s p o e] at y; cases y
def spR_init (K : PySem.W.Frag) : Sp := fun vs H Q _ => ∃ (p dx a : Addr) (l : List Str), vs = [.ref p, .ref a] ∧ H p = some (.ins (He.ga K "Registry") dx []) ∧ H a = some (.lst (l.map V.str)) ∧ Nms l ∧ 1 ≤ l.length ∧
  ∀ H' (A : RR → Addr) (N : List Str), A .p = p → N.Perm l → sortedS N = true → RAt K H' A (r0 N) → (∀ b o, b ≠ p → H b = some o → H' b = some o) → (∀ b, RFp K A (r0 N) b → b = p ∨ H b = none) → Q .non H'
section
variable {P : Program} {w : World} {K : PySem.W.Frag} {mg : Str → Option Value} {base : Heap}
def flI (A : RR → Addr) (k : Nat) : List (Str × V) := (flR A).take k
theorem ok_R_init (T : Tx K mg) : Mak P w K mg base 3 "Registry" (He.ga K "Registry") (spR_init K) := by
  have sc : FnScope ["self", "names", "name"] ["self", "names"] (defScope sR_init) := ⟨rfl, rfl, rfl, by decide +kernel, rfl, by decide +kernel, by decide +kernel⟩
  have nd := sc.nd
  refine mak_of T.fR_init T.mkR T.g_Registry sc (fun z F => F.bindsN fun _ _ _ _ _ _ us hl => match us, hl with | [_, _], _ => rfl) (fun vs H Q E h => ?_) fun cdv A outer s H vs Q E hr h => ?_
  · obtain ⟨p, dx, a, l, rfl, _⟩ := h
    rfl
  obtain ⟨p, dx, a, l, rfl, hp, ha, hl, h1, q⟩ := h
  refine ⟨_, (pss_cons (ps_if (pt_not (pt_val (pe_c (ok_are_modules T) hr (by decide) rfl (pa_cons (pv 1) pa_nil)))) (pss_one ps_never) pss_nil)
      (C8.pss_cut (ps_fld (pv 0) (pe_dc (own := [("name", 2)]) (g := (gName 2)) (tt := tYes) rfl nd (pi_list (pe_callB cr_sortedS rfl T.b_sorted (by decide +kernel) (pa_cons (pv 1) pa_nil))) (blkOk_by (by rfl)) (fun _ _ _ _ _ => (pg_name (i := 2) nd rfl (.inl rfl))) (fun _ _ _ _ _ => pts_nil) (fun _ _ _ _ _ => (pv 2)) (fun _ _ _ _ _ => (pe_gc rfl (gcS T.c_NEW)))) rfl)
      (C8.pss_cut (ps_fld (pv 0) (pe_lock (pe_dc (own := [("name", 2)]) (g := (gName 2)) (tt := tYes) rfl nd (pi_keys (pe_fldK K (pv 0))) (blkOk_by (by rfl)) (fun _ _ _ _ _ => (pg_name (i := 2) nd rfl (.inl rfl))) (fun _ _ _ _ _ => pts_nil) (fun _ _ _ _ _ => (pv 2)) (fun _ _ _ _ _ => pe_dnewK))) rfl)
      (C8.pss_cut (ps_fld (pv 0) (pe_mk0 (ok_N_init T) hr (by decide) rfl) rfl)
      (C8.pss_cut (ps_fld (pv 0) (pe_mk0 (ok_N_init T) hr (by decide) rfl) rfl)
      (C8.pss_cut (ps_fld (pv 0) pe_dnewT rfl)
      (C8.pss_cut (ps_fld (pv 0) pe_dnewK rfl)
      (pss_one (ps_fld (pv 0) pe_dnewK rfl))))))))), ?_⟩
  refine ⟨_, rfl, a, l, rfl, ha, hl, h1, fun H1 s1 => ⟨_, rfl, ?_⟩⟩
  have hpn : H p ≠ none := fun z => by rw [z] at hp; cases hp
  let CR := He.ga K "Registry"
  let CN := He.ga K "Needs"
  let M : Nat → L2.St → Hp → Prop := fun k σ' H' => ∃ N A, σ' = [some (.ref p), some (.ref a), none] ∧ N.Perm l ∧ sortedS N = true ∧ A .p = p ∧ A .dx = dx ∧ Ini CR CN N p H H' A k ∧ H' p = some (.ins CR dx (flI A k))
  refine ⟨M 1, ?_, ?_⟩
  · refine ⟨_, rfl, a, l, rfl, .inl (.inl (s1 _ _ ha)), by have := hl.le; omega, fun N a2 pm so ha2 => ?_⟩
    have nN : N.Nodup := pm.nodup_iff.mpr hl.nd
    have lN : N.length ≤ 10 := by rw [pm.length_eq]; exact hl.le
    refine ⟨a2, rfl, ⟨_, .inl (.inl upd_same)⟩, fun D hD => gen_it (walk_names (l := N)) (Dv _ D N fun _ => .str "new") (Dv.start hD) (fun i H' _ z => .inl (.inl (z.same _ _ upd_same))) ?_ fun H3 z => ?_⟩
    · rintro i x H3 H4 hi z ⟨rfl, n, en, rfl⟩
      exact ⟨rfl, _, rfl, z.step nN (by omega) en (Same.refl _)⟩
    · have s3 := (s1.trans (sameNew ha2)).trans z.same
      have I := Ini.start (CR := CR) (CN := CN) (N := N) (A := fun l => match l with | .p => p | .dx => dx | _ => 0) s1 hpn
      have hD1 : H1 D = none := (sameNew ha2).free hD
      refine ⟨_, rfl, p, _, dx, [], rfl, s3 _ _ hp, T.clR, T.nR_own_states, by decide, N, fun l => (match l with | .p => p | .dx => dx | .st => D | _ => 0), rfl, pm, so, rfl, rfl, ?_, upd_same⟩
      refine I.add ((sameNew ha2).trans z.same) (B := fun _ => D) (ob2 := fun l => match l with | .st => some (.dK (kvS N fun _ => .str "new")) | _ => none) (.one (l0 := .st) (o := .dK (kvS N fun _ => .str "new")) (z.done (Nat.le_refl _)) (fun _ z => by cases z) fun l q e => ?_) (fun x ⟨l, o, e, z⟩ => z ▸ hD1) (fun l e => ?_) fun l e => ?_
      · cases l with
        | st => exact ⟨rfl, (Option.some.inj e).symm⟩
        | _ => cases e
      · cases l with
        | st => exact ⟨rfl, rfl⟩
        | _ => cases e
      · cases l with
        | st => exact absurd rfl e
        | _ => exact ⟨rfl, rfl⟩
  rintro σ' H1 ⟨N, A, rfl, pm, so, eAp, eAd, I, e1⟩
  have nN : N.Nodup := pm.nodup_iff.mpr hl.nd
  have lN : N.length ≤ 10 := by rw [pm.length_eq]; exact hl.le
  refine ⟨M 2, ?_, ?_⟩
  · have hst : H1 (A .st) = some (.dK (kvS N fun _ => .str "new")) := I.at_.is .st _ rfl
    have nps : p ≠ A .st := fun z => by rw [z, hst] at e1; cases e1
    refine ⟨A .st, _, hst, trivial, fun od => ?_⟩
    refine ⟨_, rfl, p, _, dx, _, _, rfl, by rw [upd_ne nps]; exact e1, T.clR, T.nR_own_states, rfl, A .st, od, rfl, .inl ⟨_, upd_same, fun D hD => ?_⟩⟩
    refine gen_it walk_keysS (Dn _ D N fun _ => .dK []) (Dn.start hD) (fun i H' _ z => z.same _ _ upd_same) ?_ fun H3 z => ?_
    · rintro i x H3 H4 hi z ⟨rfl, n, en, rfl⟩
      exact ⟨rfl, _, rfl, fun b hb => z.step nN (by omega) en (sameNew hb) hb upd_same⟩
    · obtain ⟨b, h1, h2, h3⟩ := z.done (Nat.le_refl _)
      obtain ⟨u1, u2⟩ := unlock hst z.same
      have DA : D ≠ A .st := fun z => by rw [z, upd_same] at hD; cases hD
      have hD1 : H1 D = none := by rw [upd_ne DA] at hD; exact hD
      have bA : ∀ m ∈ N, b m ≠ A .st := fun m hm z => by
        have y := (h2 m hm).2.1
        rw [z, upd_same] at y
        cases y
      have b1 : ∀ m ∈ N, H1 (b m) = none := fun m hm => by
        have y := (h2 m hm).2.1
        rw [upd_ne (bA m hm)] at y
        exact y
      let B : RR → Addr := fun l => match l with | .ex => D | .e n => b n | _ => 0
      let ob2 : RR → Option HO := fun l => match l with | .ex => some (.dK (kvS N fun n => .ref (b n))) | .e n => if n ∈ N then some (.dK []) else none | _ => none
      have inN : ∀ n o, ob2 (.e n) = some o → n ∈ N ∧ o = .dK [] := fun n o e => by
        have e : (if n ∈ N then some (HO.dK []) else none) = some o := e
        by_cases c : n ∈ N
        · rw [if_pos c] at e
          exact ⟨c, (Option.some.inj e).symm⟩
        · rw [if_neg c] at e
          cases e
      have aB : At (upd H3 (A .st) (.dK (kvS N fun _ => .str "new"))) B ob2 := by
        refine ⟨fun l o e => ?_, fun l l' o o' e e' z => ?_, fun l xs e => ?_⟩
        · cases l with
          | ex =>
            obtain rfl := Option.some.inj e
            show upd _ _ _ D = _
            rw [upd_ne DA]
            exact h1
          | e n =>
            obtain ⟨hn, rfl⟩ := inN n o e
            show upd _ _ _ (b n) = _
            rw [upd_ne (bA n hn)]
            exact (h2 n hn).1
          | _ => cases e
        · cases l with
          | ex =>
            cases l' with
            | ex => rfl
            | e n' => exact absurd z.symm (h2 n' (inN _ _ e').1).2.2
            | _ => cases e'
          | e n =>
            cases l' with
            | ex => exact absurd z (h2 n (inN _ _ e).1).2.2
            | e n' => exact congrArg RR.e (h3 n n' (inN _ _ e).1 (inN _ _ e').1 z)
            | _ => cases e'
          | _ => cases e
        · cases l with
          | ex => cases e
          | e n => cases (inN n _ e).2
          | _ => cases e
      refine ⟨u1, _, rfl, p, _, dx, _, rfl, u2 _ _ e1, T.clR, T.nR_own_exports, (by show 1 < 1000; decide), N, fun l => (match l with | .ex => D | .e n => b n | l => A l), rfl, pm, so, eAp, eAd, ?_, ?_⟩
      · refine I.add u2 (B := B) (ob2 := ob2) aB (fun x ⟨l, o, e, z⟩ => ?_) (fun l e => ?_) fun l e => ?_
        · cases l with
          | ex => exact z ▸ hD1
          | e n => exact z ▸ b1 n (inN _ _ e).1
          | _ => cases e
        · cases l with
          | ex => exact ⟨rfl, rfl⟩
          | e n => exact ⟨rfl, rfl⟩
          | _ => cases e
        · cases l with
          | ex => exact absurd rfl e
          | e n => exact absurd rfl e
          | _ => exact ⟨rfl, rfl⟩
      · rw [upd_same]
        rfl
  clear I e1 eAp eAd pm so nN lN A N
  rintro σ' H1 ⟨N, A, rfl, pm, so, eAp, eAd, I, e1⟩
  refine ⟨M 3, ?_, ?_⟩
  · intro x dx2 hx hdx nx
    refine ⟨x, dx2, rfl, upd_same, fun d hd => ⟨rfl, ?_⟩⟩
    have hxd : x ≠ d := ne_of_none upd_same hd
    have s1 := sameTo (o := .ins CN dx2 []) (sameNew (o := .own x) hdx) hx
    have hd1 : H1 d = none := s1.free hd
    have s2 := sameTo (o := .ins CN dx2 [("own_targets", .ref d)]) (sameTo (o := .dK []) s1 hd1) hx
    have px : p ≠ x := ne_of_none e1 hx
    refine ⟨_, rfl, p, _, dx, _, rfl, s2 _ _ e1, T.clR, T.nR_own_needs, (by show 2 < 1000; decide), N, fun l => (match l with | .nd y => mkB x dx2 d y | l => A l), rfl, pm, so, eAp, eAd, ?_, ?_⟩
    · have n0 : NAt K (upd (upd (upd (upd H1 dx2 (.own x)) x (.ins CN dx2 [])) d (.dK [])) x (.ins CN dx2 [("own_targets", .ref d)])) (mkB x dx2 d) g0 := needs0 upd_same (by rw [upd_ne hxd.symm, upd_same])
      obtain ⟨a2, b2⟩ := At.lift (A := fun l => match l with | .nd y => mkB x dx2 d y | _ => 0) (ob := fun l => match l with | .nd y => obN CN (mkB x dx2 d) g0 y | _ => none) n0 RR.nd (fun x => ⟨rfl, rfl⟩) fun l o e => by
        cases l with
        | nd y => exact ⟨y, rfl⟩
        | _ => cases e
      refine I.add s2 a2 (fun y hy => ?_) (fun l e => ?_) fun l e => ?_
      · obtain ⟨l, o, e, z⟩ := b2 y hy
        cases l with
        | p => exact z ▸ hx
        | dx => cases e
        | d => exact z ▸ hd1
        | t s => exact absurd (show none = some o from e) (by simp)
      · cases l with
        | nd y => exact ⟨rfl, rfl⟩
        | _ => cases e
      · cases l with
        | nd y => exact absurd rfl e
        | _ => exact ⟨rfl, rfl⟩
    · rw [upd_same]
      rfl
  clear I e1 eAp eAd pm so N A
  rintro σ' H1 ⟨N, A, rfl, pm, so, eAp, eAd, I, e1⟩
  refine ⟨M 4, ?_, ?_⟩
  · intro x dx2 hx hdx nx
    refine ⟨x, dx2, rfl, upd_same, fun d hd => ⟨rfl, ?_⟩⟩
    have hxd : x ≠ d := ne_of_none upd_same hd
    have s1 := sameTo (o := .ins CN dx2 []) (sameNew (o := .own x) hdx) hx
    have hd1 : H1 d = none := s1.free hd
    have s2 := sameTo (o := .ins CN dx2 [("own_targets", .ref d)]) (sameTo (o := .dK []) s1 hd1) hx
    have px : p ≠ x := ne_of_none e1 hx
    refine ⟨_, rfl, p, _, dx, _, rfl, s2 _ _ e1, T.clR, T.nR_own_recorded, (by show 3 < 1000; decide), N, fun l => (match l with | .rc y => mkB x dx2 d y | l => A l), rfl, pm, so, eAp, eAd, ?_, ?_⟩
    · have n0 : NAt K (upd (upd (upd (upd H1 dx2 (.own x)) x (.ins CN dx2 [])) d (.dK [])) x (.ins CN dx2 [("own_targets", .ref d)])) (mkB x dx2 d) g0 := needs0 upd_same (by rw [upd_ne hxd.symm, upd_same])
      obtain ⟨a2, b2⟩ := At.lift (A := fun l => match l with | .rc y => mkB x dx2 d y | _ => 0) (ob := fun l => match l with | .rc y => obN CN (mkB x dx2 d) g0 y | _ => none) n0 RR.rc (fun x => ⟨rfl, rfl⟩) fun l o e => by
        cases l with
        | rc y => exact ⟨y, rfl⟩
        | _ => cases e
      refine I.add s2 a2 (fun y hy => ?_) (fun l e => ?_) fun l e => ?_
      · obtain ⟨l, o, e, z⟩ := b2 y hy
        cases l with
        | p => exact z ▸ hx
        | dx => cases e
        | d => exact z ▸ hd1
        | t s => exact absurd (show none = some o from e) (by simp)
      · cases l with
        | rc y => exact ⟨rfl, rfl⟩
        | _ => cases e
      · cases l with
        | rc y => exact absurd rfl e
        | _ => exact ⟨rfl, rfl⟩
    · rw [upd_same]
      rfl
  clear I e1 eAp eAd pm so N A
  rintro σ' H1 ⟨N, A, rfl, pm, so, eAp, eAd, I, e1⟩
  refine ⟨M 5, ?_, ?_⟩
  · intro D hD
    refine ⟨_, rfl, p, _, dx, _, rfl, sameNew hD _ _ e1, T.clR, T.nR_own_early, (by show 4 < 1000; decide), N, fun l => (match l with | .er => D | l => A l), rfl, pm, so, eAp, eAd, ?_, ?_⟩
    · refine I.add (sameNew hD) (B := fun _ => D) (ob2 := fun l => match l with | .er => some (.dT []) | _ => none) (.one (l0 := .er) (o := (.dT [])) upd_same (fun _ z => by cases z) fun l q e => ?_) (fun x ⟨l, o, e, z⟩ => z ▸ hD) (fun l e => ?_) fun l e => ?_
      · cases l with
        | er => exact ⟨rfl, (Option.some.inj e).symm⟩
        | _ => cases e
      · cases l with
        | er => exact ⟨rfl, rfl⟩
        | _ => cases e
      · cases l with
        | er => exact absurd rfl e
        | _ => exact ⟨rfl, rfl⟩
    · rw [upd_same]
      rfl
  clear I e1 eAp eAd pm so N A
  rintro σ' H1 ⟨N, A, rfl, pm, so, eAp, eAd, I, e1⟩
  refine ⟨M 6, ?_, ?_⟩
  · intro D hD
    refine ⟨_, rfl, p, _, dx, _, rfl, sameNew hD _ _ e1, T.clR, T.nR_own_held, (by show 5 < 1000; decide), N, fun l => (match l with | .hd => D | l => A l), rfl, pm, so, eAp, eAd, ?_, ?_⟩
    · refine I.add (sameNew hD) (B := fun _ => D) (ob2 := fun l => match l with | .hd => some (.dK []) | _ => none) (.one (l0 := .hd) (o := (.dK [])) upd_same (fun _ z => by cases z) fun l q e => ?_) (fun x ⟨l, o, e, z⟩ => z ▸ hD) (fun l e => ?_) fun l e => ?_
      · cases l with
        | hd => exact ⟨rfl, (Option.some.inj e).symm⟩
        | _ => cases e
      · cases l with
        | hd => exact ⟨rfl, rfl⟩
        | _ => cases e
      · cases l with
        | hd => exact absurd rfl e
        | _ => exact ⟨rfl, rfl⟩
    · rw [upd_same]
      rfl
  clear I e1 eAp eAd pm so N A
  rintro σ' H1 ⟨N, A, rfl, pm, so, eAp, eAd, I, e1⟩
  intro D hD
  refine ⟨_, rfl, p, _, dx, _, rfl, sameNew hD _ _ e1, T.clR, T.nR_own_chains, (by show 6 < 1000; decide), ?_⟩
  let A' : RR → Addr := fun l => match l with | .ch => D | l => A l
  have I2 : Ini CR CN N p H (upd (upd H1 D (.dK [])) p (.ins CR dx (putF "own_chains" (.ref D) (flI A 6)))) A' 7 := by
    refine I.add (sameNew hD) (B := fun _ => D) (ob2 := fun l => match l with | .ch => some (.dK []) | _ => none) (.one (l0 := .ch) (o := .dK []) upd_same (fun _ z => by cases z) fun l q e => ?_) (fun x ⟨l, o, e, z⟩ => z ▸ hD) (fun l e => ?_) fun l e => ?_
    · cases l with
      | ch => exact ⟨rfl, (Option.some.inj e).symm⟩
      | _ => cases e
    · cases l with
      | ch => exact ⟨rfl, rfl⟩
      | _ => cases e
    · cases l with
      | ch => exact absurd rfl e
      | _ => exact ⟨rfl, rfl⟩
  let obp : RR → Option HO := fun l => match l with | .p => some (.ins CR dx (flR A')) | _ => none
  have uu : At (upd (upd H1 D (.dK [])) p (.ins CR dx (putF "own_chains" (.ref D) (flI A 6)))) A' (obR CR CN A' (r0 N)) ∧ ∀ x, Fp A' (obR CR CN A' (r0 N)) x → Fp A' (obI CR CN A' N 7) x ∨ Fp A' obp x := by
    refine At.union I2.at_ (.one (l0 := .p) (o := .ins CR dx (flR A')) ?_ (fun _ z => by cases z) fun l q e => ?_) (fun x hx ⟨l, o, e, z⟩ => ?_) (fun l => l = .p) (fun l e => ?_) fun l e => ?_
    · show upd _ p _ (A .p) = _
      rw [eAp, upd_same]
      rfl
    · cases l with
      | p => exact ⟨rfl, (Option.some.inj e).symm⟩
      | _ => cases e
    · cases l with
      | p =>
        have z : A .p = x := z
        rw [eAp] at z
        exact hpn (by rw [z]; exact I2.new x hx)
      | _ => cases e
    · subst e
      refine ⟨rfl, ?_⟩
      show some (HO.ins CR (A .dx) (flR A')) = _
      rw [eAd]
    · cases l with
      | p => exact absurd rfl e
      | _ => exact ⟨rfl, rfl⟩
  refine q _ A' N eAp pm so uu.1 I2.kp fun b hb => ?_
  rcases uu.2 b hb with z | ⟨l, o, e, z⟩
  · exact .inr (I2.new b z)
  · cases l with
    | p => exact .inl (by rw [← z]; exact eAp)
    | _ => cases e
end
end Cy
end

section
set_option maxHeartbeats 4000000
/-! The law's own defs, first part: drawing. -/
namespace Cy
open PySem PySem.Spec PyProof.Rows
open L2 hiding St
structure PotAt (H : Hp) (p : Addr) (x y : Int) : Prop where
  at_ : H p = some (.lst [.int x, .int y])
  x0 : 0 ≤ x
  y0 : 0 ≤ y
  y1 : y ≤ 2147483587
def Fr1 (p : Addr) (H H' : Hp) : Prop := ∀ b o, b ≠ p → H b = some o → H' b = some o
theorem Fr1.trans {p : Addr} {H H1 H2 : Hp} (a : Fr1 p H H1) (b : Fr1 p H1 H2) : Fr1 p H H2 := fun c o n e => b c o n (a c o n e)
theorem Fr1.same {p : Addr} {H H1 H2 : Hp} (a : Fr1 p H H1) (b : Same H1 H2) : Fr1 p H H2 := fun c o n e => b c o (a c o n e)
theorem Fr1.of {p : Addr} {H H1 : Hp} (b : Same H H1) : Fr1 p H H1 := fun c o _ e => b c o e
theorem PotAt.same {H H' : Hp} {p : Addr} {x y : Int} (a : PotAt H p x y) (s : Same H H') : PotAt H' p x y := ⟨s _ _ a.at_, a.x0, a.y0, a.y1⟩
theorem PotAt.fresh {H : Hp} {p q : Addr} {x y : Int} (a : PotAt H p x y) (h : H q = none) : q ≠ p := fun z => by rw [z, a.at_] at h; cases h
def spPot (K : PySem.W.Frag) : Sp := fun vs H Q _ => ∃ (a : Addr) (ns : List Int) (k : Nat), vs = [.ref a, .int k] ∧ SqL K H a (ns.map V.int) ∧ k ≤ 10 ∧ ∀ H' p x y, Same H H' → H p = none → PotAt H' p x y → Q (.ref p) H'
def spDraw : Sp := fun vs H Q _ => ∃ (p : Addr) (x y B : Int), vs = [.ref p, .int B] ∧ PotAt H p x y ∧ 0 < B ∧ B ≤ 10 ^ 29 ∧ ∀ H' x' y' d, 0 ≤ d → d < B → Fr1 p H H' → PotAt H' p x' y' → Q (.int d) H'
def spChoice : Sp := fun vs H Q _ => ∃ (p l : Addr) (x y : Int) (xs : List V), vs = [.ref p, .ref l] ∧ PotAt H p x y ∧ H l = some (.lst xs) ∧ xs ≠ [] ∧ xs.length ≤ 1000 ∧ l ≠ p ∧ ∀ H' x' y' v, v ∈ xs → Fr1 p H H' → PotAt H' p x' y' → Q v H'
def spWord : Sp := fun vs H Q _ => ∃ (p u : Addr) (x y : Int) (us : List Str), vs = [.ref p, .ref u] ∧ PotAt H p x y ∧ H u = some (.lst (us.map V.str)) ∧ us.length ≤ 9 ∧ u ≠ p ∧ ∀ H' x' y' n, isNm n → n ∉ us → Fr1 p H H' → PotAt H' p x' y' → Q (.str n) H'
def spWords : Sp := fun vs H Q _ => ∃ (p : Addr) (x y : Int) (k : Nat), vs = [.ref p, .int k] ∧ PotAt H p x y ∧ k ≤ 10 ∧ ∀ H' x' y' l ns, Nms ns → ns.length = k → Fr1 p H H' → PotAt H' p x' y' → H l = none → H' l = some (.lst (ns.map V.str)) → Q (.ref l) H'
section
variable {P : Program} {w : World} {K : PySem.W.Frag} {mg : Str → Option Value} {base : Heap}
theorem ok_pot (T : Tx K mg) : Cal P w K mg base 1 "_law_pot" (spPot K) := by
  have sc : FnScope ["_law_script", "_law_index", "_law_cell"] ["_law_script", "_law_index"] (defScope s__law_pot) := ⟨rfl, rfl, rfl, by decide +kernel, rfl, by decide +kernel, by decide +kernel⟩
  have nd := sc.nd
  refine cal_of T.f__law_pot T.g__law_pot sc (fun z F => F.bindsN fun _ _ _ _ _ _ us hl => match us, hl with | [_, _], _ => rfl) (fun vs H Q E h => ?_) fun cdv A outer s H vs Q E hr h => ?_
  · obtain ⟨a, ns, k, rfl, _⟩ := h
    rfl
  obtain ⟨a, ns, k, rfl, ha, hk, q⟩ := h
  refine ⟨_, (pss_cons (ps_set (i := 2) nd rfl (.inl rfl) pe_int)
      (C8.pss_cut (ps_if (pt_cmpR op_lt (pv 1) (pe_callB call_len_seq (by rfl) T.b_len PySem.boot_len (pa_cons (pv 0) pa_nil)) (nomark _)) (pss_one (ps_set (i := 2) nd rfl (.inl rfl) (pe_callB call_abs rfl T.b_abs (by decide +kernel) (pa_cons (pe_ix (ix_listK K) (pv 0) (pv 1) (fun _ _ => rfl)) pa_nil)))) pss_nil)
      (pss_one (ps_ret (pe_lst (pa_cons (pe_callB (call_max2 rfl) rfl T.b_max (by decide +kernel) (pa_cons pe_int (pa_cons (pe_op op_sub (pv 2) (pe_op op_pow pe_int pe_int)) pa_nil))) (pa_cons (pe_op op_add (pe_op op_mod (pe_op op_pow (pe_op op_add (pe_op op_add (pe_op op_mod (pv 2) pe_int) (pe_op op_mul pe_int (pv 1))) pe_int) pe_int) pe_int) pe_int) pa_nil))))))), ?_⟩
  refine ⟨fun σ' H' => ∃ c : Int, 0 ≤ c ∧ σ' = [some (.ref a), some (.int k), some (.int c)] ∧ H' = H, ?_, ?_⟩
  · refine ⟨_, rfl, _, rfl, a, _, rfl, .inl ha, _, _, rfl, rfl, _, rfl, ?_⟩
    by_cases c : (k : Int) < ((ns.map V.int).length : Nat)
    · refine ifT (decide_eq_true c) ?_
      have hk2 : k < ns.length := by rw [List.length_map] at c; omega
      refine ⟨_, rfl, _, rfl, a, _, (k : Int), .int ns[k], rfl, rfl, ha, ?_, _, rfl, _, ?_, rfl, rfl⟩
      · unfold atI ixN
        rw [if_pos (by omega), if_pos c]
        show (ns.map V.int)[((k : Nat) : Int).toNat]? = _
        rw [Int.toNat_natCast, List.getElem?_map, List.getElem?_eq_getElem hk2]
        rfl
      · split <;> omega
    · exact ifN (decide_eq_false c) ⟨0, Int.le_refl 0, rfl, rfl⟩
  rintro σ' H' ⟨c, hc, rfl, rfl⟩
  refine ⟨_, rfl, _, _, rfl, rfl, ⟨by decide, by decide, by decide⟩, _, _, rfl, rfl, _, _, rfl, ?_⟩
  refine ⟨_, rfl, _, _, rfl, rfl, (by show (0 : Int) < 2147483629; decide), _, rfl, _, _, rfl, rfl, .inl ⟨by decide, by decide⟩, _, _, rfl, rfl, _, _, rfl, rfl, _, _, rfl, rfl, ?_, _, _, rfl, rfl, (by show (0 : Int) < 2147483587; decide), _, _, rfl, rfl, (by rw [sizeLine_eq]; show 2 ≤ _; decide), fun p hp => ?_⟩
  · have h1 := Int.emod_nonneg c (by decide : (2147483629 : Int) ≠ 0)
    have h2 := Int.emod_lt_of_pos c (by decide : (0 : Int) < 2147483629)
    exact ⟨by decide, by decide, by omega⟩
  · refine q _ p _ _ (sameNew hp) hp ⟨upd_same, ?_, ?_, ?_⟩
    · split <;> omega
    · have h1 := Int.emod_nonneg ((c % 2147483629 + 1013 * (k : Int) + 7) ^ (3 : Int).toNat) (by decide : (2147483587 : Int) ≠ 0)
      omega
    · have h2 := Int.emod_lt_of_pos ((c % 2147483629 + 1013 * (k : Int) + 7) ^ (3 : Int).toNat) (by decide : (0 : Int) < 2147483587)
      omega
theorem ok_draw (T : Tx K mg) : Cal P w K mg base 1 "_law_draw" spDraw := by
  have sc : FnScope ["_law_pot_here", "_law_bound", "_law_digit"] ["_law_pot_here", "_law_bound"] (defScope s__law_draw) := ⟨rfl, rfl, rfl, by decide +kernel, rfl, by decide +kernel, by decide +kernel⟩
  have nd := sc.nd
  refine cal_of T.f__law_draw T.g__law_draw sc (fun z F => F.bindsN fun _ _ _ _ _ _ us hl => match us, hl with | [_, _], _ => rfl) (fun vs H Q E h => ?_) fun cdv A outer s H vs Q E hr h => ?_
  · obtain ⟨p, x, y, B, rfl, _⟩ := h
    rfl
  obtain ⟨p, x, y, B, rfl, hp, hB, hB2, q⟩ := h
  refine ⟨_, (pss_cons (ps_if (pt_cmpR op_gt (pe_ix (ix_listK K) (pv 0) pe_int (fun _ _ => rfl)) pe_int (nomark _)) (pss_cons (ps_asg (pe_callB call_divmodW rfl T.b_divmod (by decide +kernel) (pa_cons (pe_ix (ix_listK K) (pv 0) pe_int (fun _ _ => rfl)) (pa_cons (pv 1) pa_nil))) (pg_tup rfl (pgs_cons (pg_sub (pv 0) pe_int set_list) (pgs_cons (pg_name (i := 2) nd rfl (.inl rfl)) pgs_nil))) rfl)
      (pss_one (ps_ret (pv 2)))) pss_nil)
      (pss_cons (ps_asg (pe_op op_mod (pe_op op_add (pe_op op_mul (pe_ix (ix_listK K) (pv 0) pe_int (fun _ _ => rfl)) pe_int) pe_int) pe_int) (pg_sub (pv 0) pe_int set_list) rfl)
      (pss_one (ps_ret (pe_op op_mod (pe_op op_fdiv (pe_op op_mod (pe_op op_mul (pe_ix (ix_listK K) (pv 0) pe_int (fun _ _ => rfl)) (pe_ix (ix_listK K) (pv 0) pe_int (fun _ _ => rfl))) pe_int) pe_int) (pv 1)))))), ?_⟩
  have i0 : atI [V.int x, V.int y] 0 = some (.int x) := rfl
  have i1 : atI [V.int x, V.int y] 1 = some (.int y) := rfl
  refine ⟨_, rfl, p, _, 0, _, rfl, rfl, .inl (.inl hp.at_), i0, _, _, rfl, rfl, _, rfl, ?_⟩
  by_cases c : 0 < x
  · refine ifT (decide_eq_true c) ?_
    have lb : B.natAbs.log2 < 9000 := by
      have h : B.natAbs < 2 ^ 9000 := Nat.lt_of_le_of_lt (m := 10 ^ 29) (by omega) (by decide +kernel)
      exact (Nat.log2_lt (by omega)).mpr h
    refine ⟨_, rfl, p, _, 0, _, rfl, rfl, .inl (.inl hp.at_), i0, _, rfl, _, _, rfl, ⟨hB, PyProof.noPylong_of_log2 lb⟩, fun t ht => ?_⟩
    have tp := hp.fresh ht
    refine ⟨t, _, rfl, .inl (.inl upd_same), rfl, _, _, rfl, _, rfl, p, _, _, 0, rfl, rfl, by rw [upd_ne tp.symm]; exact hp.at_, rfl, _, _, rfl, rfl, ?_⟩
    refine ⟨_, rfl, q _ (x / B) y _ (Int.emod_nonneg x (by omega)) (Int.emod_lt_of_pos x hB) (fun b o n e => ?_) ⟨upd_same, Int.ediv_nonneg hp.x0 (by omega), hp.y0, hp.y1⟩⟩
    rw [upd_ne n]
    exact sameNew ht _ _ e
  · refine ifN (decide_eq_false c) ?_
    have h1 := Int.emod_nonneg (y * 48271 + 10037) (by decide : (2147483587 : Int) ≠ 0)
    have h2 := Int.emod_lt_of_pos (y * 48271 + 10037) (by decide : (0 : Int) < 2147483587)
    let y' : Int := (y * 48271 + 10037) % 2147483587
    have h1 : 0 ≤ y' := h1
    have h2 : y' < 2147483587 := h2
    have j1 : atI ([V.int x, V.int y].set 1 (V.int y')) 1 = some (.int y') := rfl
    refine ⟨_, rfl, p, _, 1, _, rfl, rfl, .inl (.inl hp.at_), i1, _, _, rfl, rfl, .inl ⟨by have := hp.y0; omega, by have := hp.y1; omega⟩, _, _, rfl, rfl, _, _, rfl, rfl, (by show (0 : Int) < 2147483587; decide), _, rfl, p, _, _, 1, rfl, rfl, hp.at_, rfl, ?_⟩
    refine ⟨_, rfl, p, _, 1, _, rfl, rfl, .inl (.inl upd_same), j1, _, rfl, p, _, 1, _, rfl, rfl, .inl (.inl upd_same), j1, _, _, rfl, rfl, .inl ⟨by omega, by omega⟩, _, _, rfl, rfl, (by show (0 : Int) < 2147483563; decide), _, _, rfl, rfl, ⟨(by show (0 : Int) < 7; decide), (by show (7 : Int) < 1073741824; decide)⟩, _, rfl, _, _, rfl, rfl, hB, ?_⟩
    exact q _ x y' _ (Int.emod_nonneg _ (by omega)) (Int.emod_lt_of_pos _ hB) (fun b o n e => by rw [upd_ne n]; exact e) ⟨upd_same, hp.x0, h1, by omega⟩
theorem ok_choice (T : Tx K mg) : Cal P w K mg base 2 "_law_choice" spChoice := by
  have sc : FnScope ["_law_pot_here", "_law_options"] ["_law_pot_here", "_law_options"] (defScope s__law_choice) := ⟨rfl, rfl, rfl, by decide +kernel, rfl, by decide +kernel, by decide +kernel⟩
  have nd := sc.nd
  refine cal_of T.f__law_choice T.g__law_choice sc (fun z F => F.bindsN fun _ _ _ _ _ _ us hl => match us, hl with | [_, _], _ => rfl) (fun vs H Q E h => ?_) fun cdv A outer s H vs Q E hr h => ?_
  · obtain ⟨p, l, x, y, xs, rfl, _⟩ := h
    rfl
  obtain ⟨p, l, x, y, xs, rfl, hp, hl, ne, hle, nlp, q⟩ := h
  refine ⟨_, (pss_one (ps_ret (pe_ix (ix_listK K) (pv 1) (pe_c (ok_draw T) hr (by decide) rfl (pa_cons (pv 0) (pa_cons (pe_callB call_len_seq (by rfl) T.b_len PySem.boot_len (pa_cons (pv 1) pa_nil)) pa_nil))) (fun _ _ => rfl)))), ?_⟩
  have lp : 0 < xs.length := List.length_pos_iff.mpr ne
  refine ⟨_, rfl, _, rfl, _, rfl, l, xs, rfl, .inl (.inl (.inl hl)), p, x, y, _, rfl, hp, by omega, ?_, fun H1 x1 y1 d h0 h1 f1 p1 => ?_⟩
  · have : ((xs.length : Nat) : Int) ≤ 1000 := by omega
    exact Int.le_trans this (by decide)
  · have hd : d.toNat < xs.length := by omega
    refine ⟨l, xs, d, xs[d.toNat], rfl, rfl, .inl (.inl (f1 _ _ nlp hl)), ?_, q _ x1 y1 _ (List.getElem_mem hd) f1 p1⟩
    unfold atI ixN
    rw [if_pos h0, if_pos h1]
    show xs[d.toNat]? = _
    rw [List.getElem?_eq_getElem hd]
theorem atI_mem {α : Type} {xs : List α} {d : Int} (h0 : 0 ≤ d) (h1 : d < (xs.length : Nat)) : ∃ v, atI xs d = some v ∧ v ∈ xs := by
  have hd : d.toNat < xs.length := by omega
  refine ⟨xs[d.toNat], ?_, List.getElem_mem hd⟩
  unfold atI ixN
  rw [if_pos h0, if_pos h1]
  show xs[d.toNat]? = _
  rw [List.getElem?_eq_getElem hd]
theorem atI0 {α : Type} {a : α} {l : List α} : atI (a :: l) 0 = some a := by
  unfold atI ixN
  rw [if_pos (by omega), if_pos (by rw [List.length_cons]; omega)]
  rfl
/-- a letter -/
def lt1 (c : Nat) : Str := ⟨#[c]⟩
theorem at_letter {d : Int} (h0 : 0 ≤ d) (h1 : d < 26) : ∃ c, atI letters.cps.toList d = some c ∧ c ∈ letters.cps.toList ∧ c = 97 + d.toNat := by
  have hl : letters.cps.toList.length = 26 := by decide +kernel
  have hd : d.toNat < letters.cps.toList.length := by omega
  refine ⟨letters.cps.toList[d.toNat], ?_, List.getElem_mem hd, ?_⟩
  · unfold atI ixN
    rw [if_pos h0, if_pos (by omega)]
    show letters.cps.toList[d.toNat]? = _
    rw [List.getElem?_eq_getElem hd]
  · have z : ∀ i : Fin 26, letters.cps.toList[i.1]? = some (97 + i.1) := by decide +kernel
    have y := z ⟨d.toNat, by omega⟩
    rw [List.getElem?_eq_getElem hd] at y
    exact Option.some.inj y
theorem len_letters : letters.length ≤ sizeLine := by
  have : letters.length = 26 := by decide +kernel
  rw [sizeLine_eq]
  omega
theorem join_letters : ∀ cs : List Nat, Txt.join "" (cs.map lt1) = SX.S cs := by
  intro cs
  have z : ∀ l : List Nat, TL.joinL [] (l.map fun c => [c]) = l := by
    intro l
    induction l with
    | nil => rfl
    | cons c l ih =>
      cases l with
      | nil => rfl
      | cons d l =>
        show [c] ++ ([] ++ TL.joinL [] ((d :: l).map fun c => [c])) = _
        rw [ih]
        rfl
  have e := SX.join_S [] (cs.map fun c => [c])
  rw [z] at e
  rw [← e, List.map_map]
  rfl
theorem nm_letters {cs : List Nat} (h1 : 1 ≤ cs.length) (h8 : cs.length ≤ 8) (h : ∀ c ∈ cs, c ∈ letters.cps.toList) : isNm (SX.S cs) := by
  refine ⟨?_, ?_, ?_⟩
  · rw [SX.S_len]; exact h1
  · rw [SX.S_len]; exact h8
  · exact h
/-- the words that a draw of 12 brings -/
def wordsL : List Str := ["module", "need", "try", "fail", "act", "thread", "retry", "unload", "ready", "a"]
theorem nm_words : ∀ n ∈ wordsL, isNm n := by
  intro n hn
  unfold isNm
  have z : wordsL.all (fun n => decide (1 ≤ n.length) && decide (n.length ≤ 8) && n.cps.toList.all fun c => decide (c ∈ letters.cps.toList)) = true := by decide +kernel
  have y := List.all_eq_true.mp z n hn
  simp only [Bool.and_eq_true, decide_eq_true_eq, List.all_eq_true] at y
  exact ⟨y.1.1, y.1.2, y.2⟩
/-- the i-th spare word -/
def spare (i : Nat) : Str := SX.S [97 + i / 26, 97 + i % 26, 113]
theorem spare_inj : ((List.range 10).map spare).Nodup := by decide +kernel
theorem nm_spare {i : Nat} (h : i < 676) : isNm (spare i) := by
  have z : ∀ j : Nat, j < 26 → 97 + j ∈ letters.cps.toList := by
    intro j hj
    have y : ∀ i : Fin 26, 97 + i.1 ∈ letters.cps.toList := by decide +kernel
    exact y ⟨j, hj⟩
  refine nm_letters (cs := [97 + i / 26, 97 + i % 26, 113]) (by show 1 ≤ 3; decide) (by show 3 ≤ 8; decide) fun c hc => ?_
  rcases List.mem_cons.mp hc with rfl | hc
  · exact z _ (by omega)
  rcases List.mem_cons.mp hc with rfl | hc
  · exact z _ (Nat.mod_lt _ (by decide))
  · rw [List.mem_singleton.mp hc]
    exact z 16 (by decide)
theorem ok_word (T : Tx K mg) : Cal P w K mg base 2 "_law_word" spWord := by
  have sc : FnScope ["_law_pot_here", "_law_used", "_law_letters", "_law_size", "_law_word_here", "_law_spare", "_law_turn", "_law_at", "_law_one"] ["_law_pot_here", "_law_used"] (defScope s__law_word) := ⟨rfl, rfl, rfl, by decide +kernel, rfl, by decide +kernel, by decide +kernel⟩
  have nd := sc.nd
  refine cal_of T.f__law_word T.g__law_word sc (fun z F => F.bindsN fun _ _ _ _ _ _ us hl => match us, hl with | [_, _], _ => rfl) (fun vs H Q E h => ?_) fun cdv A outer s H vs Q E hr h => ?_
  · obtain ⟨p, l, x, y, xs, rfl, _⟩ := h
    rfl
  obtain ⟨p, u, x, y, us, rfl, hp, hu_, hle, nup, q⟩ := h
  refine ⟨_, (pss_cons (ps_set (i := 2) nd rfl (.inr rfl) pe_str)
      (C8.pss_cut (ps_set (i := 3) nd rfl (.inl rfl) (pe_ix (ix_listK K) (pe_lst (pa_cons pe_int (pa_cons pe_int (pa_cons pe_int (pa_cons pe_int (pa_cons (pe_op op_add pe_int (pe_c (ok_draw T) hr (by decide) rfl (pa_cons (pv 0) (pa_cons pe_int pa_nil)))) pa_nil)))))) (pe_c (ok_draw T) hr (by decide) rfl (pa_cons (pv 0) (pa_cons pe_int pa_nil))) (fun _ _ => rfl)))
      (C8.pss_cut (ps_set (i := 4) nd rfl (.inl rfl) (pe_join pe_str (pe_lc (own := [("_law_turn", 6)]) (g := (gName 6)) (tt := tYes) rfl nd (pi_range1 rfl T.b_range (pa_cons (pv 3) pa_nil)) (blkOk_by (by rfl)) (fun _ _ _ _ _ => (pg_name (i := 6) nd rfl (.inl rfl))) (fun _ _ _ _ _ => pts_nil) (fun _ _ _ _ _ => (pe_ix ix_str (pv 2) (pe_c (ok_draw T) hr (by decide) rfl (pa_cons (pv 0) (pa_cons pe_int pa_nil))) (fun _ _ => rfl))))))
      (C8.pss_cut (ps_if (pt_cmpR op_eq (pe_c (ok_draw T) hr (by decide) rfl (pa_cons (pv 0) (pa_cons pe_int pa_nil))) pe_int (nomark _)) (pss_one (ps_set (i := 4) nd rfl (.inl rfl) (pe_ix (ix_listK K) (pe_lst (pa_cons pe_str (pa_cons pe_str (pa_cons pe_str (pa_cons pe_str (pa_cons pe_str (pa_cons pe_str (pa_cons pe_str (pa_cons pe_str (pa_cons pe_str (pa_cons pe_str pa_nil))))))))))) (pe_c (ok_draw T) hr (by decide) rfl (pa_cons (pv 0) (pa_cons pe_int pa_nil))) (fun _ _ => rfl)))) pss_nil)
      (pss_cons (ps_if (pt_cmpR (op_in_seqK K) (pv 4) (pv 1) (by rfl)) (pss_cons (ps_setLc (i := 5) (own := [("_law_at", 7)]) (g := (gName 7)) (tt := tYes) rfl nd rfl rfl (sw_true rfl rfl rfl (by decide +kernel)) (pi_range1 rfl T.b_range (pa_cons pe_int pa_nil)) (blkOk_by (by rfl)) (fun _ _ _ _ _ => (pg_name (i := 7) nd rfl (.inl rfl))) (fun _ _ _ _ _ => pts_nil) (fun _ _ _ _ _ => (pe_op op_add_str (pe_op op_add_str (pe_ix ix_str (pv 2) (pe_op op_fdiv (pv 7) pe_int) (fun _ _ => rfl)) (pe_ix ix_str (pv 2) (pe_op op_mod (pv 7) pe_int) (fun _ _ => rfl))) pe_str)))
      (pss_one (ps_ret (pe_ix (ix_listK K) (pe_lc (own := [("_law_one", 8)]) (g := (gName 8)) rfl nd (pi_list (pv 5)) (blkOk_by (by rfl)) (fun _ _ _ _ _ => (pg_name (i := 8) nd rfl (.inl rfl))) (fun _ _ _ _ _ => pts_one (pt_cmpR (op_notIn_seqK K) (pv 8) (pv 1) (by rfl))) (fun _ _ _ _ _ => (pv 8))) pe_int (fun _ _ => rfl))))) pss_nil)
      (pss_one (ps_ret (pv 4)))))))), ?_⟩
  let M1 : L2.St → Hp → Prop := fun σ' H' => ∃ (z x' y' : Int), 1 ≤ z ∧ z ≤ 8 ∧ σ' = [some (.ref p), some (.ref u), some (.str letters), some (.int z), none, none, none, none, none] ∧ Fr1 p H H' ∧ PotAt H' p x' y'
  let M2 : L2.St → Hp → Prop := fun σ' H' => ∃ (z x' y' : Int) (n : Str), isNm n ∧ σ' = [some (.ref p), some (.ref u), some (.str letters), some (.int z), some (.str n), none, none, none, none] ∧ Fr1 p H H' ∧ PotAt H' p x' y'
  refine ⟨M1, ?_, ?_⟩
  · refine ⟨_, rfl, p, x, y, 8, rfl, hp, by decide, by decide, fun H1 x1 y1 d h0 h1 f1 p1 => ?_⟩
    refine ⟨_, _, rfl, rfl, (by rw [sizeLine_eq]; show 5 ≤ _; decide), fun l hl => ?_⟩
    have nl := p1.fresh hl
    refine ⟨_, rfl, p, x1, y1, 5, rfl, p1.same (sameNew hl), by decide, by decide, fun H2 x2 y2 d2 g0 g1 f2 p2 => ?_⟩
    obtain ⟨v, e1, e2⟩ := atI_mem (xs := [V.int 1, V.int 1, V.int 2, V.int 8, V.int (1 + d)]) g0 g1
    refine ⟨l, _, d2, v, rfl, rfl, .inl (.inl (f2 _ _ nl upd_same)), e1, ?_⟩
    have hz : ∃ z : Int, v = .int z ∧ 1 ≤ z ∧ z ≤ 8 := by
      simp only [List.mem_cons, List.not_mem_nil, or_false] at e2
      rcases e2 with rfl | rfl | rfl | rfl | rfl
      · exact ⟨_, rfl, by decide, by decide⟩
      · exact ⟨_, rfl, by decide, by decide⟩
      · exact ⟨_, rfl, by decide, by decide⟩
      · exact ⟨_, rfl, by decide, by decide⟩
      · exact ⟨_, rfl, by omega, by omega⟩
    obtain ⟨z, rfl, z1, z8⟩ := hz
    exact ⟨z, x2, y2, z1, z8, rfl, (f1.same (sameNew hl)).trans f2, p2⟩
  rintro σ' H1 ⟨z, x1, y1, z1, z8, rfl, f1, p1⟩
  refine ⟨M2, ?_, ?_⟩
  · refine ⟨⟨_, rfl⟩, _, rfl, z, rfl, by omega, by omega, fun D hD => ?_⟩
    have nD := p1.fresh hD
    refine gen_it walk_range (fun i H' => Fr1 p H1 H' ∧ (∃ x' y', PotAt H' p x' y') ∧ ∃ cs : List Nat, cs.length = i ∧ (∀ c ∈ cs, c ∈ letters.cps.toList) ∧ H' D = some (.lst ((cs.map lt1).map V.str))) ⟨Fr1.of (sameNew hD), ⟨_, _, p1.same (sameNew hD)⟩, [], rfl, fun _ h => (List.not_mem_nil h).elim, upd_same⟩ (fun _ _ _ _ => trivial) ?_ ?_
    · rintro i v H2 H3 hi ⟨f2, ⟨x2, y2, p2⟩, cs, e1, e2, e3⟩ ⟨rfl, rfl⟩
      refine ⟨rfl, _, rfl, _, rfl, p, x2, y2, 26, rfl, p2, by decide, by decide, fun H4 x4 y4 d h0 h1 f4 p4 => ?_⟩
      obtain ⟨c, a1, a2, _⟩ := at_letter h0 h1
      refine ⟨letters, d, c, rfl, rfl, len_letters, a1, _, f4 _ _ nD e3, ?_, ?_, ⟨x4, y4, by rw [upd_ne nD.symm]; exact p4.at_, p4.x0, p4.y0, p4.y1⟩, cs ++ [c], ?_, fun b hb => ?_, ?_⟩
      · rw [List.length_map, List.length_map, sizeLine_eq]
        omega
      · intro b o n e
        have hb : b ≠ D := ne_of_none e hD
        rw [upd_ne hb]
        exact (f2.trans f4) b o n e
      · rw [List.length_append, e1]
        rfl
      · rcases List.mem_append.mp hb with hb | hb
        · exact e2 b hb
        · rw [List.mem_singleton.mp hb]
          exact a2
      · rw [upd_same, List.map_append, List.map_append]
        rfl
    · rintro H2 ⟨f2, ⟨x2, y2, p2⟩, cs, e1, e2, e3⟩
      refine ⟨_, D, cs.map lt1, rfl, rfl, .inl (.inl (.inl e3)), ?_, z, x2, y2, SX.S cs, nm_letters (by omega) (by omega) e2, ?_, f1.trans f2, p2⟩
      · have s1 : ∀ l : List Nat, ((l.map lt1).map (·.length)).sum = l.length := by
          intro l
          induction l with
          | nil => rfl
          | cons c l ih =>
            rw [List.map_cons, List.map_cons, List.sum_cons, ih, List.length_cons]
            show 1 + _ = _
            omega
        rw [s1, List.length_map]
        have : ("" : Str).length = 0 := rfl
        rw [this]
        omega
      · rw [join_letters]
        rfl
  rintro σ' H2 ⟨z, x2, y2, n, hn, rfl, f2, p2⟩
  refine ⟨M2, ?_, ?_⟩
  · refine ⟨_, rfl, p, x2, y2, 12, rfl, p2, by decide, by decide, fun H3 x3 y3 d h0 h1 f3 p3 => ⟨rfl, _, rfl, ?_⟩⟩
    by_cases c : d = 0
    · refine ifT (decide_eq_true (by rw [c])) ?_
      refine ⟨(by rw [sizeLine_eq]; show 10 ≤ _; decide), fun l hl => ?_⟩
      have nl := p3.fresh hl
      refine ⟨_, rfl, p, x3, y3, 10, rfl, p3.same (sameNew hl), by decide, by decide, fun H4 x4 y4 d2 g0 g1 f4 p4 => ?_⟩
      obtain ⟨v, e1, e2⟩ := atI_mem (xs := wordsL.map V.str) g0 g1
      obtain ⟨m, hm, rfl⟩ := List.mem_map.mp e2
      refine ⟨l, _, d2, _, rfl, rfl, .inl (.inl (f4 _ _ nl upd_same)), e1, z, x4, y4, m, nm_words m hm, rfl, ((f2.trans f3).same (sameNew hl)).trans f4, p4⟩
    · refine ifN (decide_eq_false fun z => c (V.int.inj z)) ?_
      exact ⟨z, x3, y3, n, hn, rfl, f2.trans f3, p3⟩
  clear hn f2 p2 n z x2 y2 f1 p1 z1 z8 H1 H2 x1 y1
  rintro σ' H2 ⟨z, x2, y2, n, hn, rfl, f2, p2⟩
  have hu2 := f2 _ _ nup hu_
  refine ⟨_, rfl, _, rfl, u, _, rfl, .inl (.inl (.inl hu2)), rfl, flat_strs us, _, rfl, ?_⟩
  show (if inV (V.str n) (us.map V.str) = true then _ else _)
  rw [inV_strs]
  by_cases c : n ∈ us
  · refine ifT (decide_eq_true c) ?_
    refine ⟨676, rfl, by decide, by decide, fun D hD => lc_same walk_range hD (fun _ _ => trivial) (fun i => .str (spare i)) (fun _ => true) ?_ fun H3 s3 e3 => ?_⟩
    · rintro i v H3 H4 hi lc ⟨rfl, rfl⟩
      have hi : i < 676 := hi
      have h0 : (0 : Int) ≤ (0 + (i : Int)) / 26 := by omega
      have h1 : (0 + (i : Int)) / 26 < 26 := by omega
      have g0 : (0 : Int) ≤ (0 + (i : Int)) % 26 := by omega
      have g1 : (0 + (i : Int)) % 26 < 26 := by omega
      obtain ⟨c1, a1, _, b1⟩ := at_letter h0 h1
      obtain ⟨c2, a2, _, b2⟩ := at_letter g0 g1
      refine ⟨rfl, _, rfl, _, rfl, _, _, rfl, rfl, ⟨(by show (0 : Int) < 26; decide), (by show (26 : Int) < 1073741824; decide)⟩, letters, _, c1, rfl, rfl, len_letters, a1, _, rfl, _, rfl, _, _, rfl, rfl, (by show (0 : Int) < 26; decide), letters, _, c2, rfl, rfl, len_letters, a2, _, _, rfl, rfl, (by rw [sizeLine_eq]; show 1 + 1 ≤ _; decide), _, _, rfl, rfl, (by rw [sizeLine_eq]; show 2 + 1 ≤ _; decide), lc.yes (by omega) rfl ?_ (Same.refl _)⟩
      show V.str (SX.S [c1, c2, 113]) = V.str (SX.S [97 + i / 26, 97 + i % 26, 113])
      rw [b1, b2]
      congr 4
      · congr 1
        omega
      · congr 2
        omega
    have hu3 := s3 _ _ hu2
    have e3 : H3 D = some (.lst (((List.range 676).map spare).map V.str)) := by
      rw [e3, picks_all, List.map_map]
      rfl
    refine ⟨_, rfl, D, rfl, ⟨_, .inl (.inl e3)⟩, fun D2 hD2 => lc_same (walk_names (l := (List.range 676).map spare)) hD2 (fun H4 s4 => .inl (.inl (s4 _ _ e3))) (fun i => .str (spare i)) (fun i => !decide (spare i ∈ us)) ?_ fun H4 s4 e4 => ?_⟩
    · rintro i v H4 H5 hi lc ⟨rfl, m, em, rfl⟩
      rw [List.length_map, List.length_range] at hi
      have em : spare i = m := by
        rw [List.getElem?_map, List.getElem?_range hi] at em
        exact Option.some.inj em
      refine ⟨rfl, _, rfl, _, rfl, u, _, rfl, .inl (.inl (.inl (lc.same _ _ hu3))), rfl, flat_strs us, _, rfl, ?_⟩
      show (if (!inV (V.str m) (us.map V.str)) = true then _ else _)
      rw [inV_strs]
      by_cases c2 : m ∈ us
      · refine ifN (by rw [decide_eq_true c2]; rfl) (lc.no (by omega) ?_ (Same.refl _))
        show (!decide (spare i ∈ us)) = false
        rw [em, decide_eq_true c2]
        rfl
      · refine ifT (by rw [decide_eq_false c2]; rfl) ⟨_, rfl, lc.yes (by omega) ?_ (by rw [em]) (Same.refl _)⟩
        show (!decide (spare i ∈ us)) = true
        rw [em, decide_eq_false c2]
        rfl
    · have e5 : picks (fun i => V.str (spare i)) (fun i => !decide (spare i ∈ us)) ((List.range 676).map spare).length = (((List.range 676).map spare).filter fun m => !decide (m ∈ us)).map V.str := by
        refine picks_list fun i x e => ?_
        have hi : i < 676 := by
          have := (List.getElem?_eq_some_iff.mp e).1
          rw [List.length_map, List.length_range] at this
          exact this
        rw [List.getElem?_map, List.getElem?_range hi] at e
        have e := Option.some.inj e
        rw [← e]
        exact ⟨rfl, rfl⟩
      rw [e5] at e4
      cases e6 : ((List.range 676).map spare).filter fun m => !decide (m ∈ us) with
      | nil =>
        have z := nodup_len spare_inj (N := us) fun m hm => ?_
        · rw [List.length_map, List.length_range] at z
          omega
        · obtain ⟨i, hi, rfl⟩ := List.mem_map.mp hm
          have hi := List.mem_range.mp hi
          by_cases c2 : spare i ∈ us
          · exact c2
          · have y : spare i ∈ ((List.range 676).map spare).filter fun m => !decide (m ∈ us) := List.mem_filter.mpr ⟨List.mem_map.mpr ⟨i, List.mem_range.mpr (by omega), rfl⟩, by rw [decide_eq_false c2]; rfl⟩
            rw [e6] at y
            cases y
      | cons m ms =>
        have hm : m ∈ ((List.range 676).map spare).filter fun m => !decide (m ∈ us) := by rw [e6]; exact List.mem_cons_self
        obtain ⟨hm1, hm2⟩ := List.mem_filter.mp hm
        obtain ⟨i, hi, rfl⟩ := List.mem_map.mp hm1
        rw [e6] at e4
        refine ⟨D2, _, 0, .str (spare i), rfl, rfl, .inl (.inl e4), atI0, q H4 x2 y2 _ (nm_spare (List.mem_range.mp hi)) (fun z => ?_) (f2.same (s3.trans s4)) (p2.same (s3.trans s4))⟩
        rw [decide_eq_true z] at hm2
        cases hm2
  · refine ifN (decide_eq_false c) ⟨_, rfl, q H2 x2 y2 n hn c f2 p2⟩
theorem ok_words (T : Tx K mg) : Cal P w K mg base 3 "_law_words" spWords := by
  have sc : FnScope ["_law_pot_here", "_law_number", "_law_found", "_law_turn"] ["_law_pot_here", "_law_number"] (defScope s__law_words) := ⟨rfl, rfl, rfl, by decide +kernel, rfl, by decide +kernel, by decide +kernel⟩
  have nd := sc.nd
  refine cal_of T.f__law_words T.g__law_words sc (fun z F => F.bindsN fun _ _ _ _ _ _ us hl => match us, hl with | [_, _], _ => rfl) (fun vs H Q E h => ?_) fun cdv A outer s H vs Q E hr h => ?_
  · obtain ⟨p, x, y, k, rfl, _⟩ := h
    rfl
  obtain ⟨p, x, y, k, rfl, hp, hk, q⟩ := h
  refine ⟨_, (pss_cons (ps_set (i := 2) nd rfl (.inl rfl) (pe_lst pa_nil))
      (pss_cons (ps_for PassesOwn.never rfl (pi_range1 rfl T.b_range (pa_cons (pv 1) pa_nil)) (pg_name (i := 3) nd rfl (.inl rfl)) (pss_one (ps_expr (pe_bm PySem.F.plainAttrs_list PySem.F.slot_list_append PySem.F.type_list_append mt_append (pv 2) (pa_cons (pe_c (ok_word T) hr (by decide) rfl (pa_cons (pv 0) (pa_cons (pv 2) pa_nil))) pa_nil)))))
      (pss_one (ps_ret (pv 2))))), ?_⟩
  refine ⟨(by rw [sizeLine_eq]; show 0 ≤ _; decide), fun l hl => ?_⟩
  have nl := hp.fresh hl
  refine ⟨_, rfl, (k : Int), rfl, by omega, by omega, for_it walk_range (fun i σ H' => ∃ v x' y' ns, σ = [some (.ref p), some (.int k), some (.ref l), v] ∧ Fr1 p H H' ∧ PotAt H' p x' y' ∧ H' l = some (.lst (ns.map V.str)) ∧ ns.Nodup ∧ (∀ n ∈ ns, isNm n) ∧ ns.length = i) ⟨none, x, y, [], rfl, .of (sameNew hl), hp.same (sameNew hl), upd_same, List.nodup_nil, fun _ h => (List.not_mem_nil h).elim, rfl⟩ (fun _ _ _ _ _ => trivial) ?_ ?_⟩
  · rintro i v σ H1 H2 hi ⟨u, x1, y1, ns, rfl, f1, p1, e1, n1, n2, n3⟩ ⟨rfl, rfl⟩
    refine ⟨_, rfl, .inl ⟨rfl, _, .inl (.inl e1)⟩, _, rfl, _, rfl, p, l, x1, y1, ns, rfl, p1, e1, by omega, nl, fun H3 x3 y3 n hn nn f3 p3 => ?_⟩
    refine ⟨l, _, _, rfl, rfl, f3 _ _ nl e1, by rw [List.length_map, sizeLine_eq]; omega, _, x3, y3, ns ++ [n], rfl, ?_, ⟨by rw [upd_ne nl.symm]; exact p3.at_, p3.x0, p3.y0, p3.y1⟩, by rw [upd_same, List.map_append]; rfl, ?_, fun m hm => ?_, by rw [List.length_append, n3]; rfl⟩
    · intro b o nb e
      have bl : b ≠ l := ne_of_none e hl
      rw [upd_ne bl]
      exact (f1.trans f3) b o nb e
    · exact List.nodup_append.mpr ⟨n1, by simp, fun a ha b hb z => nn (by rw [← List.mem_singleton.mp hb, ← z]; exact ha)⟩
    · rcases List.mem_append.mp hm with hm | hm
      · exact n2 m hm
      · rw [List.mem_singleton.mp hm]
        exact hn
  · rintro σ H1 ⟨u, x1, y1, ns, rfl, f1, p1, e1, n1, n2, n3⟩
    exact ⟨_, rfl, q H1 x1 y1 l ns ⟨n1, by omega, n2⟩ (by omega) f1 p1 hl e1⟩
end
end Cy
end

section
set_option maxHeartbeats 4000000
/-! The law's own defs, second part: reach, the law's world, its answer. -/
namespace Cy
open PySem PySem.Spec PyProof.Rows
open L2 hiding St
/-! ### pairs of names, deep -/
section
variable {X : Cx} (K : PySem.W.Frag)
theorem op_neDK (hu : X.A.units + 64 < cLine) (hK : X.K = K := by rfl) : OpR X (compareOp .NotEq) (rNeD K) := by
  subst hK
  exact op_neD hu
theorem op_eqDK (hu : X.A.units + 64 < cLine) (hK : X.K = K := by rfl) : OpR X (compareOp .Eq) (rEqD K) := by
  subst hK
  exact op_eqD hu
end
def prD (q : Pr) : PyData := .tuple [.str q.1, .str q.2]
def okPr (q : Pr) : Prop := isNm q.1 ∧ isNm q.2
theorem dp_pr {K : PySem.W.Frag} {H : Hp} {a : Addr} {q : Pr} (h : H a = some (.tup [.str q.1, .str q.2])) : Dp K H (.ref a) (prD q) := .tup (.inl (.inl h)) (.cons (.str _) (.cons (.str _) .nil))
theorem dpAll_prs {K : PySem.W.Frag} {H : Hp} : ∀ {bs : List (Addr × Pr)}, IsPrs H bs → DpAll K H (bs.map fun e => V.ref e.1) ((bs.map (·.2)).map prD)
  | [], _ => .nil
  | e :: bs, h => .cons (dp_pr (h e List.mem_cons_self)) (dpAll_prs fun x hx => h x (List.mem_cons_of_mem _ hx))
theorem canLay_pr {q : Pr} (h : okPr q) : PyData.canLay0 (prD q) = true := by
  unfold prD
  simp [PyData.canLay0, PyData.canLayAll0, strOk_nm h.1, strOk_nm h.2]
theorem canLay_prs : ∀ {l : List Pr}, (∀ q ∈ l, okPr q) → PyData.canLayAll0 (l.map prD) = true
  | [], _ => by simp [PyData.canLayAll0]
  | q :: l, h => by simp [PyData.canLayAll0, canLay_pr (h q List.mem_cons_self), canLay_prs fun x hx => h x (List.mem_cons_of_mem _ hx)]
theorem depth_pr (q : Pr) : PyData.depth (prD q) = 1 := by
  unfold prD
  simp [PyData.depth, PyData.depthAll]
theorem depth_prs : ∀ l : List Pr, PyData.depthAll (l.map prD) ≤ 1
  | [] => by simp [PyData.depthAll]
  | q :: l => by
    have := depth_prs l
    simp only [List.map_cons, PyData.depthAll, depth_pr]
    omega
theorem shaped_pr {q : Pr} (h : okPr q) : SeqAt.shaped (prD q) = true := by
  unfold SeqAt.shaped
  rw [canLay_pr h, depth_pr]
  decide
theorem shaped_prs {l : List Pr} (h : ∀ q ∈ l, okPr q) : SeqAt.shaped (.list (l.map prD)) = true := by
  unfold SeqAt.shaped
  have := depth_prs l
  simp [PyData.canLay0, canLay_prs h, PyData.depth]
  omega
theorem eqv_pr (p q : Pr) : PyData.eqv (prD p) (prD q) = decide (p = q) := by
  unfold prD
  rw [Bool.eq_iff_iff, decide_eq_true_eq]
  simp only [PyData.eqv, PyData.eqvAll, Bool.and_true, Bool.and_eq_true, beq_iff_eq]
  exact ⟨fun h => Prod.ext h.1 h.2, fun h => by rw [h]; exact ⟨rfl, rfl⟩⟩
theorem any_prs (q : Pr) (l : List Pr) : ((l.map prD).any fun z => PyData.eqv z (prD q)) = decide (q ∈ l) := by
  rw [List.any_map, Bool.eq_iff_iff, List.any_eq_true, decide_eq_true_eq]
  constructor
  · rintro ⟨x, hx, e⟩
    have e : PyData.eqv (prD x) (prD q) = true := e
    rw [eqv_pr, decide_eq_true_eq] at e
    rw [← e]
    exact hx
  · exact fun h => ⟨q, h, by show PyData.eqv (prD q) (prD q) = true; rw [eqv_pr, decide_eq_true rfl]⟩
theorem eqv_prs : ∀ l : List Pr, PyData.eqv (.list (l.map prD)) (.list (l.map prD)) = true
  | [] => by simp [PyData.eqv, PyData.eqvAll]
  | q :: l => by
    have e := eqv_prs l
    simp only [PyData.eqv] at e
    simp only [List.map_cons, PyData.eqv, PyData.eqvAll, eqv_pr, e, decide_true, Bool.and_self]
theorem dp_prs {K : PySem.W.Frag} {H : Hp} {l : Addr} {bs : List (Addr × Pr)} (h : SqL K H l (bs.map fun e => V.ref e.1)) (t : IsPrs H bs) : Dp K H (.ref l) (.list ((bs.map (·.2)).map prD)) := .lst h (dpAll_prs t)
theorem IsPrs.same {H H' : Hp} {bs : List (Addr × Pr)} (h : IsPrs H bs) (s : Same H H') : IsPrs H' bs := fun e he => s _ _ (h e he)
/-! ### the law's reach -/
structure Rf (H0 : Hp) (T : Str → List Str) (N : List Str) (n : Str) (d : Addr) (F : List Str) (i : Nat) (H : Hp) : Prop where
  same : Same H0 H
  d0 : H0 d = none
  hd : H d = some (.lst (F.map V.str))
  nd : F.Nodup
  sub : ∀ m ∈ F, m ∈ N
  me : n ∈ F
  rc : ∀ m ∈ F, Rc T n m
  le : i ≤ F.length
  cl : ∀ j m, j < i → F[j]? = some m → ∀ t ∈ T m, t ∈ F
def spReach : Sp := fun vs H Q _ => ∃ (l : Addr) (bs : List (Addr × Pr)) (N : List Str) (T : Str → List Str) (n : Str), vs = [.ref l, .str n] ∧ H l = some (.lst (bs.map fun e => V.ref e.1)) ∧ IsPrs H bs ∧ Nms N ∧ n ∈ N ∧ (∀ q ∈ bs.map (·.2), q.2 ∈ N) ∧ (∀ a b, (a, b) ∈ bs.map (·.2) ↔ b ∈ T a) ∧
  ∀ H' d (ys : List Str), Same H H' → H d = none → H' d = some (.lst (ys.map V.str)) → ys.Nodup → ys.length ≤ 10 → (∀ m, m ∈ ys ↔ Rc T n m) → Q (.ref d) H'
/-! ### the law's world -/
inductive WR | w | md | st | ex | e (n : Str) | nd | rc | er | hd | ch | th
structure Wd where
  nl : List Str
  st : Str → Str
  exs : Str → List (Str × Int)
  L : List (Addr × Pr)
  re : List V
  EL : List (Addr × Pr)
def wkv (A : WR → Addr) : List (Key × V) := [(.inr "modules", .ref (A .md)), (.inr "states", .ref (A .st)), (.inr "exports", .ref (A .ex)), (.inr "needs", .ref (A .nd)), (.inr "recorded", .ref (A .rc)), (.inr "early", .ref (A .er)), (.inr "held", .ref (A .hd)), (.inr "chains", .ref (A .ch)), (.inr "threads", .ref (A .th))]
def refs (bs : List (Addr × Pr)) : List V := bs.map fun e => V.ref e.1
def obW (A : WR → Addr) (w : Wd) : WR → Option HO
  | .w => some (.dK (wkv A))
  | .st => some (.dK (kvS w.nl fun n => .str (w.st n)))
  | .ex => some (.dK (kvS w.nl fun n => .ref (A (.e n))))
  | .e n => if n ∈ w.nl then some (.dK (exK (w.exs n))) else none
  | .nd => some (.lst (refs w.L))
  | .rc => some (.lst w.re)
  | .er => some (.lst (refs w.EL))
  | _ => none
theorem obW_nt (A : WR → Addr) (w : Wd) (l : WR) (xs : List V) : obW A w l ≠ some (.tup xs) := fun z => by
  cases l with
  | e n =>
    have z : (if n ∈ w.nl then some (HO.dK (exK (w.exs n))) else none) = some (.tup xs) := z
    split at z <;> cases z
  | _ => cases z
structure WAt (H : Hp) (A : WR → Addr) (w : Wd) : Prop where
  at_ : At H A (obW A w)
  l : IsPrs H w.L
  e : IsPrs H w.EL
abbrev WFp (A : WR → Addr) (w : Wd) : Addr → Prop := Fp A (obW A w)
theorem WAt.same {H H' : Hp} {A : WR → Addr} {w : Wd} (a : WAt H A w) (s : Same H H') : WAt H' A w := ⟨a.at_.same s, a.l.same s, a.e.same s⟩
structure WOk (w : Wd) (T : Str → List Str) : Prop where
  hN : Nms w.nl
  el : ∀ n, (w.exs n).length ≤ 1
  ln : (w.L.map (·.2)).Nodup
  lN : ∀ q ∈ w.L.map (·.2), q.1 ∈ w.nl ∧ q.2 ∈ w.nl
  lT : ∀ a b, (a, b) ∈ w.L.map (·.2) ↔ b ∈ T a
  en : (w.EL.map (·.2)).Nodup
  eN : ∀ q ∈ w.EL.map (·.2), q.1 ∈ w.nl ∧ q.2 ∈ w.nl
  rl : w.re.length ≤ 1000
theorem prs_len {N : List Str} {l : List Pr} (hN : N.length ≤ 10) (nd : l.Nodup) (h : ∀ q ∈ l, q.1 ∈ N ∧ q.2 ∈ N) : l.length ≤ 100 := by
  have z := nodup_len nd (N := N.flatMap fun a => N.map fun b => (a, b)) fun q hq => List.mem_flatMap.mpr ⟨q.1, (h q hq).1, List.mem_map.mpr ⟨q.2, (h q hq).2, rfl⟩⟩
  have y : ∀ M : List Str, (M.flatMap fun a => N.map fun b => ((a, b) : Pr)).length = M.length * N.length := by
    intro M
    induction M with
    | nil => simp
    | cons a M ih => rw [List.flatMap_cons, List.length_append, List.length_map, ih, List.length_cons, Nat.succ_mul, Nat.add_comm]
  rw [y] at z
  exact Nat.le_trans z (Nat.le_trans (Nat.mul_le_mul hN hN) (by decide))
theorem WOk.ll {w : Wd} {T : Str → List Str} (h : WOk w T) : w.L.length ≤ 100 := by
  have z := prs_len h.hN.le h.ln h.lN
  rwa [List.length_map] at z
theorem WOk.le {w : Wd} {T : Str → List Str} (h : WOk w T) : w.EL.length ≤ 100 := by
  have z := prs_len h.hN.le h.en h.eN
  rwa [List.length_map] at z
def w0 (nl : List Str) : Wd := ⟨nl, fun _ => "new", fun _ => [], [], [], []⟩
def spWorld : Sp := fun vs H Q _ => ∃ (m : Addr) (nl : List Str) (f : Str → V), vs = [.ref m] ∧ H m = some (.dK (kvS nl f)) ∧ Nms nl ∧ ∀ H' (A : WR → Addr), Same H H' → (∀ b, WFp A (w0 nl) b → H b = none) → WAt H' A (w0 nl) → Q (.ref (A .w)) H'
def spAnswer : Sp := fun vs H Q _ => ∃ (A : WR → Addr) (w : Wd) (T : Str → List Str) (s t : Str), vs = [.ref (A .w), .str s, .str t] ∧ WAt H A w ∧ WOk w T ∧ s ∈ w.nl ∧ t ∈ w.nl ∧ w.st t ≠ "failed" ∧
  ∀ H' v, Same H H' → AnsIs w.st (w.EL.map (·.2)) T s t v → Q (.str v) H'
theorem mergeK_kvS {f : Str → V} : ∀ {l m : List Str}, (m ++ l).Nodup → mergeK (kvS m f) (kvS l f) = kvS (m ++ l) f
  | [], m, _ => by rw [List.append_nil]; rfl
  | x :: l, m, nd => by
    have nx : x ∉ m := fun h => (List.nodup_append.mp nd).2.2 x h x List.mem_cons_self rfl
    show mergeK (putK (kvS m f) (.inr x) (f x)) (kvS l f) = _
    rw [putK_new _ (kvS_no nx), show kvS m f ++ [((Sum.inr x : Key), f x)] = kvS (m ++ [x]) f from by rw [kvS_app]; rfl, mergeK_kvS (by rw [List.append_assoc]; exact nd), List.append_assoc]
    rfl
/-! ### made step by step -/
structure IniG {R : Type} (ob : R → Option HO) (p : Addr) (H H1 : Hp) (A : R → Addr) : Prop where
  at_ : At H1 A ob
  new : ∀ b, Fp A ob b → H b = none
  kp : ∀ b o, b ≠ p → H b = some o → H1 b = some o
  hp : H p ≠ none
  hp1 : H1 p ≠ none
section
variable {R : Type} {ob ob' ob2 : R → Option HO} {p : Addr} {H H1 H2 : Hp} {A A' B : R → Addr}
theorem At.recast (a : At H A ob) (h : ∀ l o, ob' l = some o → ob l = some o ∧ A' l = A l) : At H A' ob' ∧ ∀ b, Fp A' ob' b → Fp A ob b :=
  ⟨⟨fun l o e => by rw [(h l o e).2]; exact a.is l o (h l o e).1, fun l l' o o' e e' z => a.inj _ _ _ _ (h l o e).1 (h l' o' e').1 (by rw [← (h l o e).2, ← (h l' o' e').2]; exact z), fun l xs e => a.nt l xs (h l _ e).1⟩,
    fun b ⟨l, o, e, z⟩ => ⟨l, o, (h l o e).1, by rw [← (h l o e).2]; exact z⟩⟩
theorem IniG.move (I : IniG ob p H H1 A) (s : Same H1 H2) : IniG ob p H H2 A :=
  ⟨I.at_.same s, I.new, fun b o n e => s _ _ (I.kp b o n e), I.hp, fun z => by
    cases e : H1 p with
    | none => exact I.hp1 e
    | some o => rw [s _ _ e] at z; cases z⟩
theorem IniG.store {o : HO} (I : IniG ob p H H1 A) : IniG ob p H (upd H1 p o) A :=
  ⟨I.at_.out fun z => I.hp (I.new p z), I.new, fun b q n e => by rw [upd_ne n]; exact I.kp b q n e, I.hp, by rw [upd_same]; exact fun z => by cases z⟩
theorem IniG.add (I : IniG ob p H H1 A) (s : Same H1 H2) (b : At H2 B ob2) (bn : ∀ x, Fp B ob2 x → H1 x = none) (pr : R → Prop) (h1 : ∀ l, pr l → A' l = B l ∧ ob' l = ob2 l) (h2 : ∀ l, ¬ pr l → A' l = A l ∧ ob' l = ob l) : IniG ob' p H H2 A' := by
  have a2 := I.at_.same s
  obtain ⟨c1, c2⟩ := At.union a2 b (fun x hx hy => by
    obtain ⟨q, e, _⟩ := I.at_.fp hx
    rw [bn x hy] at e
    cases e) pr h1 h2
  have nw : ∀ x, Fp A' ob' x → H x = none := fun x hx => by
    rcases c2 x hx with z | z
    · exact I.new x z
    · have y := bn x z
      by_cases c : x = p
      · rw [c] at y
        exact absurd y I.hp1
      · cases e : H x with
        | none => rfl
        | some q =>
          rw [I.kp x q c e] at y
          cases y
  exact ⟨c1, nw, (I.move s).kp, I.hp, (I.move s).hp1⟩
theorem IniG.one {l0 : R} {o : HO} {a : Addr} (I : IniG ob p H H1 A) (s : Same H1 H2) (ha : H1 a = none) (h : H2 a = some o) (n : ∀ xs, o ≠ .tup xs) (e : A' l0 = a) (e2 : ob' l0 = some o) (h2 : ∀ l, ¬ l = l0 → A' l = A l ∧ ob' l = ob l) : IniG ob' p H H2 A' := by
  let o2 : R → Option HO := fun l => @ite _ (l = l0) (Classical.propDecidable _) (some o) none
  have u : ∀ l q, o2 l = some q → l = l0 ∧ q = o := fun l q e => by
    by_cases c : l = l0
    · have e : (@ite _ (l = l0) (Classical.propDecidable _) (some o) none) = some q := e
      rw [if_pos c] at e
      exact ⟨c, (Option.some.inj e).symm⟩
    · have e : (@ite _ (l = l0) (Classical.propDecidable _) (some o) none) = some q := e
      rw [if_neg c] at e
      cases e
  refine I.add s (B := fun _ => a) (ob2 := o2) (.one (l0 := l0) (o := o) h n u) (fun x ⟨l, q, _, z⟩ => z ▸ ha) (fun l => l = l0) (fun l c => ?_) h2
  subst c
  refine ⟨e, e2.trans ?_⟩
  show _ = (@ite _ (l = l) (Classical.propDecidable _) (some o) none)
  rw [if_pos rfl]
end
theorem paired_bs {K : PySem.W.Frag} {H : Hp} {g : Str → V} : ∀ {bs : List (Addr × Str)}, (∀ e ∈ bs, H e.1 = some (.tup [.str e.2, g e.2])) → Paired (fun (p : Addr) (kv : Key × V) => SqT K H p [kV kv.1, kv.2]) (bs.map (·.1)) (kvS (bs.map (·.2)) g)
  | [], _ => .nil
  | e :: bs, h => .cons (.inl (.inl (h e List.mem_cons_self))) (paired_bs fun x hx => h x (List.mem_cons_of_mem _ hx))
def wk : WR → Nat
  | .w => 100
  | .st => 1
  | .ex => 2
  | .e _ => 2
  | .nd => 3
  | .rc => 4
  | .er => 5
  | _ => 0
def obWk (A : WR → Addr) (nl : List Str) (k : Nat) (l : WR) : Option HO := if wk l ≤ k then obW A (w0 nl) l else none
section
variable {P : Program} {w : World} {K : PySem.W.Frag} {mg : Str → Option Value} {base : Heap}
theorem ok_reach (T : Tx K mg) : Cal P w K mg base 1 "_law_reach" spReach := by
  have sc : FnScope ["_law_pairs", "_law_name", "_law_found", "_law_at", "_law_source", "_law_target"] ["_law_pairs", "_law_name"] (defScope s__law_reach) := ⟨rfl, rfl, rfl, by decide +kernel, rfl, by decide +kernel, by decide +kernel⟩
  have nd := sc.nd
  refine cal_of T.f__law_reach T.g__law_reach sc (fun z F => F.bindsN fun _ _ _ _ _ _ us hl => match us, hl with | [_, _], _ => rfl) (fun vs H Q E h => ?_) fun cdv A outer s H vs Q E hr h => ?_
  · obtain ⟨l, bs, N, T, n, rfl, _⟩ := h
    rfl
  obtain ⟨l, bs, N, T', n, rfl, hl, hb, hN, hn, hbN, hT, q⟩ := h
  refine ⟨_, (pss_cons (ps_par (i := 2) (j := 3) rfl nd rfl rfl (by decide) rfl rfl (pa_cons (pe_lst (pa_cons (pv 1) pa_nil)) (pa_cons pe_int pa_nil)) (by rfl))
      (pss_cons (ps_while PassesOwn.never (pt_cmpR op_lt (pv 3) (pe_callB call_len_seq (by rfl) T.b_len PySem.boot_len (pa_cons (pv 2) pa_nil)) (nomark _)) (pss_cons (ps_for PassesOwn.never rfl (pi_list (pv 0)) (pg_tup rfl (pgs_cons (pg_name (i := 4) nd rfl (.inl rfl)) (pgs_cons (pg_name (i := 5) nd rfl (.inl rfl)) pgs_nil))) (pss_one (ps_if (PW.pt (pw_and (pt_cmpR op_eq (pv 4) (pe_ix (ix_listK K) (pv 2) (pv 3) (fun _ _ => rfl)) (nomark _)) (pw_and1 (pt_cmpR (op_notIn_seqK K) (pv 5) (pv 2) (by rfl))))) (pss_one (ps_expr (pe_bm PySem.F.plainAttrs_list PySem.F.slot_list_append PySem.F.type_list_append mt_append (pv 2) (pa_cons (pv 5) pa_nil)))) pss_nil)))
      (pss_one (ps_set (i := 3) nd rfl (.inl rfl) (pe_op op_add (pv 3) pe_int)))))
      (pss_one (ps_ret (pe_callB cr_sortedS rfl T.b_sorted (by decide +kernel) (pa_cons (pv 2) pa_nil)))))), ?_⟩
  have hs : 1000 ≤ sizeLine := by rw [sizeLine_eq]; decide
  refine ⟨_, rfl, (by show 1 ≤ sizeLine; omega), fun d hd => ⟨_, _, rfl, ?_⟩⟩
  let Wv : Nat → L2.St → Hp → Prop := fun m σ H' => ∃ F i s t, σ = [some (.ref l), some (.str n), some (.ref d), some (.int (i : Nat)), s, t] ∧ Rf H T' N n d F i H' ∧ m = 10 - i
  refine ⟨Wv, ⟨_, [n], 0, none, none, rfl, ⟨sameNew hd, hd, upd_same, by simp, fun m hm => by rw [List.mem_singleton.mp hm]; exact hn, by simp, fun m hm => by rw [List.mem_singleton.mp hm]; exact .refl, Nat.zero_le _, fun j m hj => absurd hj (Nat.not_lt_zero _)⟩, rfl⟩, ?_⟩
  rintro m σ H1 ⟨F, i, s, t, rfl, rf, rfl⟩
  have lF := Nat.le_trans (nodup_len rf.nd rf.sub) hN.le
  have nld : l ≠ d := ne_of_none hl rf.d0
  refine ⟨_, rfl, _, rfl, d, _, rfl, .inl (.inl (.inl rf.hd)), _, _, rfl, rfl, _, rfl, ?_⟩
  by_cases c : i < F.length
  · refine ifT (decide_eq_true (by rw [List.length_map]; omega)) ⟨fun σ' H' => ∃ m', m' < 10 - i ∧ Wv m' σ' H', fun σ' H' z => z, ?_⟩
    have hx : ∃ x, F[i]? = some x := ⟨_, List.getElem?_eq_getElem c⟩
    obtain ⟨x, ex⟩ := hx
    have hl1 := rf.same _ _ hl
    refine ⟨_, rfl, l, rfl, ⟨_, .inl (.inl hl1)⟩, for_it walk_list (fun j σ H' => ∃ F' s' t', σ = [some (.ref l), some (.str n), some (.ref d), some (.int (i : Nat)), s', t'] ∧ Rf H T' N n d F' i H' ∧ F'[i]? = some x ∧ ∀ q ∈ (bs.map (·.2)).take j, q.1 = x → q.2 ∈ F')
      ⟨F, _, _, rfl, rf, ex, fun q hq => (List.not_mem_nil hq).elim⟩ (fun j σ H' _ ⟨_, _, _, _, r, _⟩ => .inl (.inl (r.same _ _ hl))) ?_ ?_⟩
    · rintro j v σ H2 H3 hj ⟨F', s', t', rfl, r2, ex2, tk⟩ ⟨rfl, ev⟩
      rw [List.getElem?_map] at ev
      obtain ⟨e, ee, rfl⟩ := Option.map_eq_some_iff.mp ev
      obtain ⟨a, s2, t2⟩ := e
      have ea := r2.same _ _ (hb _ (List.mem_of_getElem? ee))
      have eq : (bs.map (·.2))[j]? = some (s2, t2) := by rw [List.getElem?_map, ee]; rfl
      have tT : t2 ∈ T' s2 := (hT s2 t2).mp (List.mem_of_getElem? eq)
      have tN : t2 ∈ N := hbN _ (List.mem_of_getElem? eq)
      have l2 := Nat.le_trans (nodup_len r2.nd r2.sub) hN.le
      refine ⟨a, [.str s2, .str t2], rfl, .inl (.inl ea), rfl, _, _, rfl, _, _, rfl, rfl, ?_⟩
      have ix : atI (F'.map V.str) (i : Int) = some (.str x) := by
        unfold atI ixN
        have z := (List.getElem?_eq_some_iff.mp ex2).1
        rw [if_pos (by omega), if_pos (by rw [List.length_map]; omega)]
        show (F'.map V.str)[((i : Nat) : Int).toNat]? = _
        rw [Int.toNat_natCast, List.getElem?_map, ex2]
        rfl
      refine ⟨_, rfl, _, rfl, _, rfl, d, _, _, _, rfl, rfl, .inl (.inl r2.hd), ix, rfl, _, rfl, ?_⟩
      have stay : (s2 = x → t2 ∈ F') → ∃ F'' s' t', [some (V.ref l), some (V.str n), some (V.ref d), some (V.int (i : Nat)), some (V.str s2), some (V.str t2)] = [some (.ref l), some (.str n), some (.ref d), some (.int (i : Nat)), s', t'] ∧ Rf H T' N n d F'' i H3 ∧ F''[i]? = some x ∧ ∀ q ∈ (bs.map (·.2)).take (j + 1), q.1 = x → q.2 ∈ F'' := fun h => by
        refine ⟨F', _, _, rfl, r2, ex2, fun q hq hx => ?_⟩
        rw [take_at eq] at hq
        rcases List.mem_append.mp hq with hq | hq
        · exact tk q hq hx
        · rw [List.mem_singleton.mp hq] at hx ⊢
          exact h hx
      by_cases c1 : s2 = x
      · refine ifT (decide_eq_true (by rw [c1])) ?_
        refine ⟨_, rfl, _, rfl, d, _, rfl, .inl (.inl (.inl r2.hd)), rfl, flat_strs F', _, rfl, ?_⟩
        show (if (!inV (V.str t2) (F'.map V.str)) = true then _ else _)
        rw [inV_strs]
        by_cases c2 : t2 ∈ F'
        · exact ifN (by rw [decide_eq_true c2]; rfl) (stay fun _ => c2)
        · refine ifT (by rw [decide_eq_false c2]; rfl) ?_
          refine ⟨_, rfl, .inl ⟨rfl, _, .inl (.inl r2.hd)⟩, _, rfl, d, _, _, rfl, rfl, r2.hd, by rw [List.length_map]; omega, F' ++ [t2], _, _, rfl, ⟨sameTo r2.same r2.d0, r2.d0, by rw [upd_same, List.map_append]; rfl, ?_, fun m hm => ?_, List.mem_append_left _ r2.me, fun m hm => ?_, by rw [List.length_append]; have := r2.le; omega, fun k m hk hm u hu => ?_⟩, ?_, fun q hq hx => ?_⟩
          · exact List.nodup_append.mpr ⟨r2.nd, by simp, fun a ha b hb z => c2 (by rw [← List.mem_singleton.mp hb, ← z]; exact ha)⟩
          · rcases List.mem_append.mp hm with hm | hm
            · exact r2.sub m hm
            · rw [List.mem_singleton.mp hm]
              exact tN
          · rcases List.mem_append.mp hm with hm | hm
            · exact r2.rc m hm
            · rw [List.mem_singleton.mp hm]
              refine (r2.rc x (List.mem_of_getElem? ex2)).step ?_
              rw [← c1]
              exact tT
          · rw [List.getElem?_append_left (by have := r2.le; omega)] at hm
            exact List.mem_append_left _ (r2.cl k m hk hm u hu)
          · rw [List.getElem?_append_left (List.getElem?_eq_some_iff.mp ex2).1]
            exact ex2
          · rw [take_at eq] at hq
            rcases List.mem_append.mp hq with hq | hq
            · exact List.mem_append_left _ (tk q hq hx)
            · rw [List.mem_singleton.mp hq]
              exact List.mem_append_right _ (List.mem_singleton.mpr rfl)
      · exact ifN (decide_eq_false fun z => c1 (V.str.inj z)) (ifN rfl (stay fun z => absurd z c1))
    · rintro σ H2 ⟨F', s', t', rfl, r2, ex2, tk⟩
      have l2 := Nat.le_trans (nodup_len r2.nd r2.sub) hN.le
      have li := (List.getElem?_eq_some_iff.mp ex2).1
      refine ⟨_, rfl, _, _, rfl, rfl, 10 - (i + 1), by omega, F', i + 1, s', t', rfl, ⟨r2.same, r2.d0, r2.hd, r2.nd, r2.sub, r2.me, r2.rc, by omega, fun k m hk hm u hu => ?_⟩, rfl⟩
      by_cases c3 : k < i
      · exact r2.cl k m c3 hm u hu
      · have ek : k = i := by omega
        subst ek
        rw [ex2] at hm
        obtain rfl := Option.some.inj hm
        refine tk (x, u) ?_ rfl
        rw [List.length_map, ← List.length_map (·.2), List.take_length]
        exact (hT x u).mpr hu
  · refine ifN (decide_eq_false (by rw [List.length_map]; omega)) ?_
    refine ⟨_, rfl, d, F, rfl, .inl (.inl rf.hd), by omega, fun ys p pm so hp => q _ p ys (sameTo rf.same (rf.same.free hp)) (rf.same.free hp) upd_same (pm.nodup_iff.mpr rf.nd) (by rw [pm.length_eq]; exact lF) fun m => ?_⟩
    rw [pm.mem_iff]
    refine ⟨rf.rc m, fun h => h.closed (C := fun m => m ∈ F) (fun a b ha hb => ?_) rf.me⟩
    obtain ⟨k, hk, e⟩ := List.mem_iff_getElem.mp ha
    exact rf.cl k a (by omega) (by rw [List.getElem?_eq_getElem hk, e]) b hb
theorem ok_world (T : Tx K mg) : Cal P w K mg base 1 "_law_world" spWorld := by
  have sc : FnScope ["_law_modules", "_law_world_here", "_law_name"] ["_law_modules"] (defScope s__law_world) := ⟨rfl, rfl, rfl, by decide +kernel, rfl, by decide +kernel, by decide +kernel⟩
  have nd := sc.nd
  refine cal_of T.f__law_world T.g__law_world sc (fun z F => F.bindsN fun _ _ _ _ _ _ us hl => match us, hl with | [_], _ => rfl) (fun vs H Q E h => ?_) fun cdv A outer s H vs Q E hr h => ?_
  · obtain ⟨l, nl, f, rfl, _⟩ := h
    rfl
  obtain ⟨m, nl, f, rfl, hm, hN, q⟩ := h
  refine ⟨_, (C8.pss_cut (ps_set (i := 1) nd rfl (.inl rfl) (pe_disp (pps_cons pe_str (pv 0) (pps_cons pe_str (pe_callTy (call_dictP rfl) rfl T.b_dict (by decide +kernel) (pa_cons (pe_lock (pe_lc (own := [("_law_name", 2)]) (g := (gName 2)) (tt := tYes) rfl nd (pi_keys (pv 0)) (blkOk_by (by rfl)) (fun _ _ _ _ _ => (pg_name (i := 2) nd rfl (.inl rfl))) (fun _ _ _ _ _ => pts_nil) (fun _ _ _ _ _ => (pe_tup (pa_cons (pv 2) (pa_cons pe_str pa_nil)))))) pa_nil)) pps_nil)) rfl rfl (by decide) (by decide)))
      (C8.pss_cut (ps_dput (hu hr) (pv 1) pe_str (pe_callTy (call_dictP rfl) rfl T.b_dict (by decide +kernel) (pa_cons (pe_lock (pe_lc (own := [("_law_name", 2)]) (g := (gName 2)) (tt := tYes) rfl nd (pi_keys (pv 0)) (blkOk_by (by rfl)) (fun _ _ _ _ _ => (pg_name (i := 2) nd rfl (.inl rfl))) (fun _ _ _ _ _ => pts_nil) (fun _ _ _ _ _ => (pe_tup (pa_cons (pv 2) (pa_cons pe_dnewK pa_nil)))))) pa_nil)) rfl)
      (pss_cons (ps_asg (pe_tup (pa_cons (pe_lst pa_nil) (pa_cons (pe_lst pa_nil) (pa_cons (pe_lst pa_nil) pa_nil)))) (pg_tup rfl (pgs_cons (pg_sub (pv 1) pe_str (set_dict (hu hr))) (pgs_cons (pg_sub (pv 1) pe_str (set_dict (hu hr))) (pgs_cons (pg_sub (pv 1) pe_str (set_dict (hu hr))) pgs_nil)))) rfl)
      (pss_cons (ps_asg (pe_tup (pa_cons (pe_lst pa_nil) (pa_cons pe_dnewK (pa_cons pe_dnewK pa_nil)))) (pg_tup rfl (pgs_cons (pg_sub (pv 1) pe_str (set_dict (hu hr))) (pgs_cons (pg_sub (pv 1) pe_str (set_dict (hu hr))) (pgs_cons (pg_sub (pv 1) pe_str (set_dict (hu hr))) pgs_nil)))) rfl)
      (pss_one (ps_ret (pv 1))))))), ?_⟩
  -- the display
  refine ⟨fun σ' H1 => ∃ p A, σ' = [some (.ref m), some (.ref p), none] ∧ H p = none ∧ IniG (obWk A nl 1) p (upd H p (.dK [])) H1 A ∧ A .md = m ∧ H1 p = some (.dK [(.inr "modules", .ref m), (.inr "states", .ref (A .st))]), ?_, ?_⟩
  · intro p hp
    have hm1 : (upd H p (.dK [])) m = some (.dK (kvS nl f)) := sameNew hp _ _ hm
    refine ⟨_, rfl, m, _, hm1, trivial, fun od => ?_⟩
    refine ⟨_, rfl, m, od, rfl, .inl ⟨_, upd_same, fun D hD => ?_⟩⟩
    have pm : p ≠ m := fun z => by rw [z, hm] at hp; cases hp
    refine gen_it walk_keysS (fun i H' => Same (upd (upd H p (.dK [])) m (.frz od (.dK (kvS nl f)))) H' ∧ ∃ bs : List (Addr × Str), H' D = some (.lst (bs.map fun e => V.ref e.1)) ∧ (∀ e ∈ bs, H' e.1 = some (.tup [.str e.2, .str "new"])) ∧ bs.map (·.2) = nl.take i)
      ⟨sameNew hD, [], upd_same, fun _ h => (List.not_mem_nil h).elim, rfl⟩ (fun i H' _ z => z.1 _ _ upd_same) ?_ ?_
    · rintro i v H2 H3 hi ⟨s2, bs, e1, e2, e3⟩ ⟨rfl, n, en, rfl⟩
      refine ⟨rfl, _, rfl, (by rw [sizeLine_eq]; show 2 ≤ _; decide), fun t ht => ?_⟩
      have Dt : D ≠ t := ne_of_none e1 ht
      refine ⟨_, by rw [upd_ne Dt]; exact e1, ?_, sameTo (sameTo s2 (s2.free ht)) hD, bs ++ [(t, n)], ?_, fun e he => ?_, ?_⟩
      · have z := congrArg List.length e3
        rw [List.length_map, List.length_take] at z
        have := hN.le
        rw [List.length_map, sizeLine_eq]
        omega
      · rw [upd_same, List.map_append]
        rfl
      · rcases List.mem_append.mp he with he | he
        · rw [upd_ne (ne_of (e2 e he) e1 (by intro q; cases q)), upd_ne (ne_of_none (e2 e he) ht)]
          exact e2 e he
        · rw [List.mem_singleton.mp he]
          show upd _ D _ t = _
          rw [upd_ne Dt.symm, upd_same]
      · rw [List.map_append, e3, take_at en]
        rfl
    · rintro H2 ⟨s2, bs, e1, e2, e3⟩
      rw [List.take_length] at e3
      obtain ⟨u1, u2⟩ := unlock hm1 s2
      have Dm : D ≠ m := fun z => by rw [z, upd_same] at hD; cases hD
      have em : ∀ e ∈ bs, e.1 ≠ m := fun e he z => by
        have y := e2 e he
        rw [z, u1] at y
        cases y
      refine ⟨u1, D, bs.map (·.1), kvS nl fun _ => .str "new", rfl, .inl (.inl (by rw [upd_ne Dm, e1, List.map_map]; rfl)), ?_, fun st hst => ⟨u2.trans (sameNew hst) p _ upd_same, [(.inr "modules", .ref m), (.inr "states", .ref st)], rfl, (by show 2 ≤ 15; decide), ?_⟩⟩
      · rw [← e3]
        exact paired_bs fun e he => by rw [upd_ne (em e he)]; exact e2 e he
      · rw [show mergeK [] (kvS nl fun _ => V.str "new") = kvS nl fun _ => V.str "new" from mergeK_kvS (m := []) hN.nd]
        have hst1 : upd H p (.dK []) st = none := u2.free hst
        have I0 : IniG (obWk (fun l => match l with | .md => m | _ => 0) nl 0) p (upd H p (.dK [])) (upd H p (.dK [])) (fun l => match l with | .md => m | _ => 0) := by
          have z : ∀ A l, obWk A nl 0 l = none := fun A l => by cases l <;> rfl
          refine ⟨⟨fun l o e => ?_, fun l l' o o' e _ _ => ?_, fun l xs e => ?_⟩, fun b ⟨l, o, e, _⟩ => ?_, fun b o _ e => e, (by rw [upd_same]; exact fun z => (by cases z)), (by rw [upd_same]; exact fun z => (by cases z))⟩
          · rw [z] at e; cases e
          · rw [z] at e; cases e
          · rw [z] at e; cases e
          · rw [z] at e; cases e
        refine ⟨p, fun l => (match l with | .md => m | .st => st | _ => 0), rfl, hp, .store (I0.one (l0 := .st) (o := .dK (kvS nl fun _ => .str "new")) (u2.trans (sameNew hst)) hst1 upd_same (fun _ z => by cases z) rfl rfl fun l hl => ?_), rfl, upd_same⟩
        cases l with
        | st => exact absurd rfl hl
        | _ => exact ⟨rfl, rfl⟩
  rintro σ' H1 ⟨p, A, rfl, hp, I, em, e1⟩
  have pm : m ≠ p := fun z => by rw [← z, hm] at hp; cases hp
  have hm1 : H1 m = some (.dK (kvS nl f)) := I.kp m _ pm (by rw [upd_ne pm]; exact hm)
  refine ⟨fun σ' H1 => ∃ A, σ' = [some (.ref m), some (.ref p), none] ∧ IniG (obWk A nl 2) p (upd H p (.dK [])) H1 A ∧ A .md = m ∧ H1 p = some (.dK [(.inr "modules", .ref m), (.inr "states", .ref (A .st)), (.inr "exports", .ref (A .ex))]), ?_, ?_⟩
  · refine ⟨m, _, hm1, trivial, fun od => ?_⟩
    refine ⟨_, rfl, m, od, rfl, .inl ⟨_, upd_same, fun D hD => ?_⟩⟩
    have Dm : D ≠ m := fun z => by rw [z, upd_same] at hD; cases hD
    have hD1 : H1 D = none := by rw [upd_ne Dm] at hD; exact hD
    let HL : Hp := upd H1 m (.frz od (.dK (kvS nl f)))
    refine gen_it walk_keysS (fun i H' => Same HL H' ∧ ∃ (a : Str → Addr) (bs : List (Addr × Str)), H' D = some (.lst (bs.map fun e => V.ref e.1)) ∧ (∀ e ∈ bs, H' e.1 = some (.tup [.str e.2, .ref (a e.2)])) ∧ bs.map (·.2) = nl.take i ∧
        (∀ n ∈ nl.take i, H' (a n) = some (.dK []) ∧ HL (a n) = none) ∧ ∀ n n', n ∈ nl.take i → n' ∈ nl.take i → a n = a n' → n = n')
      ⟨sameNew hD, fun _ => 0, [], upd_same, fun _ h => (List.not_mem_nil h).elim, rfl, fun _ h => (List.not_mem_nil h).elim, fun _ _ h => (List.not_mem_nil h).elim⟩ (fun i H' _ z => z.1 _ _ upd_same) ?_ ?_
    · rintro i v H2 H3 hi ⟨s2, a, bs, e1, e2, e3, e4, e5⟩ ⟨rfl, n, en, rfl⟩
      refine ⟨rfl, _, rfl, fun b hb => ⟨(by rw [sizeLine_eq]; show 2 ≤ _; decide), fun t ht => ?_⟩⟩
      have bt : b ≠ t := ne_of_none upd_same ht
      have ht2 : H3 t = none := by rw [upd_ne bt.symm] at ht; exact ht
      have Dt : D ≠ t := ne_of_none e1 ht2
      have Db : D ≠ b := ne_of_none e1 hb
      have nn := take_no hN.nd en
      have ne : ∀ x, x ∈ nl.take i → x ≠ n := fun x hx z => nn (by rw [← z]; exact hx)
      have ab : ∀ x, x ∈ nl.take i → a x ≠ b := fun x hx => ne_of_none (e4 x hx).1 hb
      have at2 : ∀ x, x ∈ nl.take i → a x ≠ t := fun x hx => ne_of_none (e4 x hx).1 ht2
      have aD : ∀ x, x ∈ nl.take i → a x ≠ D := fun x hx z => by
        have y := (e4 x hx).1
        rw [z, e1] at y
        cases y
      refine ⟨_, by rw [upd_ne Dt, upd_ne Db]; exact e1, ?_, sameTo (sameTo (sameTo s2 (s2.free hb)) (s2.free ht2)) hD, setS a n b, bs ++ [(t, n)], ?_, fun e he => ?_, ?_, fun x hx => ?_, fun x x' hx hx' z => ?_⟩
      · have z := congrArg List.length e3
        rw [List.length_map, List.length_take] at z
        have := hN.le
        rw [List.length_map, sizeLine_eq]
        omega
      · rw [upd_same, List.map_append]
        rfl
      · rcases List.mem_append.mp he with he | he
        · have hne : e.2 ∈ nl.take i := by rw [← e3]; exact List.mem_map.mpr ⟨e, he, rfl⟩
          rw [upd_ne (ne_of (e2 e he) e1 (by intro q; cases q)), upd_ne (ne_of_none (e2 e he) ht2), upd_ne (ne_of_none (e2 e he) hb), setS_ne (ne _ hne)]
          exact e2 e he
        · rw [List.mem_singleton.mp he]
          show upd _ D _ t = some (.tup [.str n, .ref (setS a n b n)])
          rw [upd_ne Dt.symm, upd_same, setS_same]
      · rw [List.map_append, e3, take_at en]
        rfl
      · rw [take_at en] at hx
        rcases List.mem_append.mp hx with hx | hx
        · rw [setS_ne (ne x hx), upd_ne (aD x hx), upd_ne (at2 x hx), upd_ne (ab x hx)]
          exact e4 x hx
        · rw [List.mem_singleton.mp hx, setS_same, upd_ne Db.symm, upd_ne bt, upd_same]
          exact ⟨rfl, s2.free hb⟩
      · rw [take_at en] at hx hx'
        rcases List.mem_append.mp hx with hx | hx <;> rcases List.mem_append.mp hx' with hx' | hx'
        · rw [setS_ne (ne x hx), setS_ne (ne x' hx')] at z
          exact e5 x x' hx hx' z
        · rw [setS_ne (ne x hx), List.mem_singleton.mp hx', setS_same] at z
          exact absurd z (ab x hx)
        · rw [setS_ne (ne x' hx'), List.mem_singleton.mp hx, setS_same] at z
          exact absurd z.symm (ab x' hx')
        · rw [List.mem_singleton.mp hx, List.mem_singleton.mp hx']
    · rintro H2 ⟨s2, a, bs, c1, c2, c3, c4, c5⟩
      rw [List.take_length] at c3 c4 c5
      obtain ⟨u1, u2⟩ := unlock hm1 s2
      have tm : ∀ e ∈ bs, e.1 ≠ m := fun e he z => by
        have y := c2 e he
        rw [z, u1] at y
        cases y
      have am : ∀ n ∈ nl, a n ≠ m := fun n hn z => by
        have y := (c4 n hn).2
        rw [z] at y
        have y : upd H1 m (.frz od (.dK (kvS nl f))) m = none := y
        rw [upd_same] at y
        cases y
      refine ⟨u1, D, bs.map (·.1), kvS nl fun n => .ref (a n), rfl, .inl (.inl (by rw [upd_ne Dm, c1, List.map_map]; rfl)), ?_, fun ex hex => ?_⟩
      · rw [← c3]
        exact paired_bs (g := fun n => .ref (a n)) fun e he => by rw [upd_ne (tm e he)]; exact c2 e he
      rw [show mergeK [] (kvS nl fun n => V.ref (a n)) = kvS nl fun n => V.ref (a n) from mergeK_kvS (m := []) hN.nd]
      have s3 := u2.trans (sameNew (o := .dK (kvS nl fun n => .ref (a n))) hex)
      let A' : WR → Addr := fun l => match l with | .ex => ex | .e n => a n | l => A l
      let ob2 : WR → Option HO := fun l => match l with | .ex => some (.dK (kvS nl fun n => .ref (a n))) | .e n => if n ∈ nl then some (.dK []) else none | _ => none
      have inN : ∀ n o, ob2 (.e n) = some o → n ∈ nl ∧ o = .dK [] := fun n o e => by
        have e : (if n ∈ nl then some (HO.dK []) else none) = some o := e
        by_cases c : n ∈ nl
        · rw [if_pos c] at e
          exact ⟨c, (Option.some.inj e).symm⟩
        · rw [if_neg c] at e
          cases e
      have ha2 : ∀ n ∈ nl, (upd H2 m (.dK (kvS nl f))) (a n) = some (.dK []) := fun n hn => by rw [upd_ne (am n hn)]; exact (c4 n hn).1
      have ax : ∀ n ∈ nl, a n ≠ ex := fun n hn => ne_of_none (ha2 n hn) hex
      have aB : At (upd (upd H2 m (.dK (kvS nl f))) ex (.dK (kvS nl fun n => .ref (a n)))) A' ob2 := by
        refine ⟨fun l o e => ?_, fun l l' o o' e e' z => ?_, fun l xs e => ?_⟩
        · cases l with
          | ex =>
            obtain rfl := Option.some.inj e
            exact upd_same
          | e n =>
            obtain ⟨hn, rfl⟩ := inN n o e
            show upd _ _ _ (a n) = _
            rw [upd_ne (ax n hn)]
            exact ha2 n hn
          | _ => cases e
        · cases l with
          | ex =>
            cases l' with
            | ex => rfl
            | e n' => exact absurd z.symm (ax n' (inN _ _ e').1)
            | _ => cases e'
          | e n =>
            cases l' with
            | ex => exact absurd z (ax n (inN _ _ e).1)
            | e n' => exact congrArg WR.e (c5 n n' (inN _ _ e).1 (inN _ _ e').1 z)
            | _ => cases e'
          | _ => cases e
        · cases l with
          | ex => cases e
          | e n => cases (inN n _ e).2
          | _ => cases e
      have I2 : IniG (obWk A' nl 2) p (upd H p (.dK [])) _ A' := I.add s3 aB (fun x ⟨l, o, e, z⟩ => by
        cases l with
        | ex => exact z ▸ u2.free hex
        | e n =>
          have y := (c4 n (inN _ _ e).1).2
          have y : upd H1 m (.frz od (.dK (kvS nl f))) (a n) = none := y
          rw [upd_ne (am n (inN _ _ e).1)] at y
          exact z ▸ y
        | _ => cases e) (fun l => wk l = 2) (fun l e => by
        cases l with
        | ex => exact ⟨rfl, rfl⟩
        | e n => exact ⟨rfl, rfl⟩
        | _ => cases e) (fun l e => by
        cases l with
        | ex => exact absurd rfl e
        | e n => exact absurd rfl e
        | _ => exact ⟨rfl, rfl⟩)
      refine ⟨_, rfl, p, _, rfl, .inl ⟨_, .inr "exports", s3 _ _ e1, rfl, (by rw [sizeLine_eq]; show 2 < _; decide), rfl⟩, A', rfl, I2.store, em, ?_⟩
      rw [upd_same]
      rfl
  clear I em e1 hm1 A H1
  rintro σ' H1 ⟨A, rfl, I, em, e1⟩
  -- three lists
  refine ⟨(by rw [sizeLine_eq]; show 0 ≤ _; decide), fun l1 h1 => ⟨(by rw [sizeLine_eq]; show 0 ≤ _; decide), fun l2 h2 => ⟨(by rw [sizeLine_eq]; show 0 ≤ _; decide), fun l3 h3 => ⟨(by rw [sizeLine_eq]; show 3 ≤ _; decide), fun t ht => ?_⟩⟩⟩⟩
  let A1 : WR → Addr := fun l => match l with | .nd => l1 | l => A l
  let A2 : WR → Addr := fun l => match l with | .rc => l2 | l => A1 l
  let A3 : WR → Addr := fun l => match l with | .er => l3 | l => A2 l
  have I3 : IniG (obWk A1 nl 3) p (upd H p (.dK [])) _ A1 := I.one (l0 := .nd) (o := .lst []) (sameNew h1) h1 upd_same (fun _ z => by cases z) rfl rfl (fun l hl => by
    cases l with
    | nd => exact absurd rfl hl
    | _ => exact ⟨rfl, rfl⟩)
  have I4 : IniG (obWk A2 nl 4) p (upd H p (.dK [])) _ A2 := I3.one (l0 := .rc) (o := .lst []) (sameNew h2) h2 upd_same (fun _ z => by cases z) rfl rfl (fun l hl => by
    cases l with
    | rc => exact absurd rfl hl
    | _ => exact ⟨rfl, rfl⟩)
  have I5 : IniG (obWk A3 nl 5) p (upd H p (.dK [])) _ A3 := I4.one (l0 := .er) (o := .lst []) (sameNew h3) h3 upd_same (fun _ z => by cases z) rfl rfl (fun l hl => by
    cases l with
    | er => exact absurd rfl hl
    | _ => exact ⟨rfl, rfl⟩)
  have I6 := I5.move (sameNew (o := .tup [.ref l1, .ref l2, .ref l3]) ht)
  have s4 := (((sameNew (o := .lst []) h1).trans (sameNew (o := .lst []) h2)).trans (sameNew (o := .lst []) h3)).trans (sameNew (o := .tup [.ref l1, .ref l2, .ref l3]) ht)
  have e2 := s4 _ _ e1
  have sz : ∀ n : Nat, n < 100 → n < sizeLine := fun n h => by rw [sizeLine_eq]; omega
  refine ⟨t, [.ref l1, .ref l2, .ref l3], rfl, .inl (.inl upd_same), rfl, _, _, rfl, _, rfl, p, _, rfl, .inl ⟨_, .inr "needs", e2, rfl, sz 3 (by decide), rfl⟩, _, _, rfl, _, rfl, p, _, rfl, .inl ⟨_, .inr "recorded", upd_same, rfl, sz 4 (by decide), rfl⟩, _, _, rfl, _, rfl, p, _, rfl, .inl ⟨_, .inr "early", upd_same, rfl, sz 5 (by decide), rfl⟩, rfl, ?_⟩
  have I9 := ((I6.store (o := .dK (putK [(.inr "modules", .ref m), (.inr "states", .ref (A .st)), (.inr "exports", .ref (A .ex))] (.inr "needs") (.ref l1)))).store (o := .dK (putK (putK [(.inr "modules", .ref m), (.inr "states", .ref (A .st)), (.inr "exports", .ref (A .ex))] (.inr "needs") (.ref l1)) (.inr "recorded") (.ref l2)))).store
    (o := .dK (putK (putK (putK [(.inr "modules", .ref m), (.inr "states", .ref (A .st)), (.inr "exports", .ref (A .ex))] (.inr "needs") (.ref l1)) (.inr "recorded") (.ref l2)) (.inr "early") (.ref l3)))
  refine ⟨(by rw [sizeLine_eq]; show 0 ≤ _; decide), fun k1 g1 => fun k2 g2 => fun k3 g3 => ⟨(by rw [sizeLine_eq]; show 3 ≤ _; decide), fun t2 gt => ?_⟩⟩
  have s5 := (((sameNew (o := .lst []) g1).trans (sameNew (o := .dK []) g2)).trans (sameNew (o := .dK []) g3)).trans (sameNew (o := .tup [.ref k1, .ref k2, .ref k3]) gt)
  have e3 := s5 _ _ upd_same
  refine ⟨t2, [.ref k1, .ref k2, .ref k3], rfl, .inl (.inl upd_same), rfl, _, _, rfl, _, rfl, p, _, rfl, .inl ⟨_, .inr "held", e3, rfl, sz 6 (by decide), rfl⟩, _, _, rfl, _, rfl, p, _, rfl, .inl ⟨_, .inr "chains", upd_same, rfl, sz 7 (by decide), rfl⟩, _, _, rfl, _, rfl, p, _, rfl, .inl ⟨_, .inr "threads", upd_same, rfl, sz 8 (by decide), rfl⟩, rfl, _, rfl, ?_⟩
  let A' : WR → Addr := fun l => match l with | .w => p | .hd => k1 | .ch => k2 | .th => k3 | l => A3 l
  have I10 := (((I9.move s5).store (o := .dK (putK (putK (putK (putK [(.inr "modules", .ref m), (.inr "states", .ref (A .st)), (.inr "exports", .ref (A .ex))] (.inr "needs") (.ref l1)) (.inr "recorded") (.ref l2)) (.inr "early") (.ref l3)) (.inr "held") (.ref k1)))).store
    (o := .dK (putK (putK (putK (putK (putK [(.inr "modules", .ref m), (.inr "states", .ref (A .st)), (.inr "exports", .ref (A .ex))] (.inr "needs") (.ref l1)) (.inr "recorded") (.ref l2)) (.inr "early") (.ref l3)) (.inr "held") (.ref k1)) (.inr "chains") (.ref k2)))).store
    (o := .dK (putK (putK (putK (putK (putK (putK [(.inr "modules", .ref m), (.inr "states", .ref (A .st)), (.inr "exports", .ref (A .ex))] (.inr "needs") (.ref l1)) (.inr "recorded") (.ref l2)) (.inr "early") (.ref l3)) (.inr "held") (.ref k1)) (.inr "chains") (.ref k2)) (.inr "threads") (.ref k3)))
  have fin : ∀ Hf : Hp, IniG (obWk A3 nl 5) p (upd H p (.dK [])) Hf A3 → Hf p = some (.dK (wkv A')) → Q (.ref p) Hf := fun Hf If ef => by
    have nb : ∀ b, (upd H p (.dK [])) b = none → H b = none := fun b h => by
      by_cases c : b = p
      · rw [c]; exact hp
      · rw [upd_ne c] at h; exact h
    let obp : WR → Option HO := fun l => match l with | .w => some (.dK (wkv A')) | _ => none
    obtain ⟨a4, f4⟩ := If.at_.recast (A' := A') (ob' := obWk A' nl 5) fun l o e => (by
      cases l with
      | hd => cases e
      | ch => cases e
      | th => cases e
      | w => cases e
      | _ => exact ⟨e, rfl⟩)
    have uu : At Hf A' (obW A' (w0 nl)) ∧ ∀ x, Fp A' (obW A' (w0 nl)) x → Fp A' (obWk A' nl 5) x ∨ Fp A' obp x := by
      refine At.union a4 (.one (l0 := .w) (o := .dK (wkv A')) ef (fun _ z => by cases z) fun l q e => ?_) (fun x hx ⟨l, o, e, z⟩ => ?_) (fun l => l = .w) (fun l e => ?_) fun l e => ?_
      · cases l with
        | w => exact ⟨rfl, (Option.some.inj e).symm⟩
        | _ => cases e
      · cases l with
        | w =>
          have z : p = x := z
          have y := If.new x (f4 x hx)
          rw [← z, upd_same] at y
          cases y
        | _ => cases e
      · subst e
        exact ⟨rfl, rfl⟩
      · cases l with
        | w => exact absurd rfl e
        | _ => exact ⟨rfl, rfl⟩
    refine q Hf A' (fun b o e => ?_) (fun b hb => ?_) ⟨uu.1, fun e he => (List.not_mem_nil he).elim, fun e he => (List.not_mem_nil he).elim⟩
    · have n : b ≠ p := ne_of_none e hp
      exact If.kp b o n (by rw [upd_ne n]; exact e)
    · rcases uu.2 b hb with z | ⟨l, o, e, z⟩
      · exact nb b (If.new b (f4 b z))
      · cases l with
        | w =>
          have z : p = b := z
          rw [← z]
          exact hp
        | _ => cases e
  refine fin _ I10 ?_
  rw [upd_same]
  show some (HO.dK _) = some (HO.dK [(.inr "modules", .ref (A .md)), _, _, _, _, _, _, _, _])
  rw [em]
  rfl
theorem ok_answer (T : Tx K mg) : Cal P w K mg base 2 "_law_answer" spAnswer := by
  have sc : FnScope ["_law_world_here", "_law_source", "_law_target", "_law_state"] ["_law_world_here", "_law_source", "_law_target"] (defScope s__law_answer) := ⟨rfl, rfl, rfl, by decide +kernel, rfl, by decide +kernel, by decide +kernel⟩
  have nd := sc.nd
  refine cal_of T.f__law_answer T.g__law_answer sc (fun z F => F.bindsN fun _ _ _ _ _ _ us hl => match us, hl with | [_, _, _], _ => rfl) (fun vs H Q E h => ?_) fun cdv A outer s H vs Q E hr h => ?_
  · obtain ⟨A, w, T', s, t, rfl, _⟩ := h
    rfl
  obtain ⟨A, w, T', s, t, rfl, at_, ok, hs, ht, hf, q⟩ := h
  refine ⟨_, (pss_cons (ps_set (i := 3) nd rfl (.inl rfl) (pe_dget (hu hr) (pe_dget (hu hr) (pv 0) pe_str (fun _ _ => rfl)) (pv 2) (fun _ _ => rfl)))
      (pss_cons (ps_if (pt_cmpR (op_in_seqK K) (pv 3) (pe_tup (pa_cons pe_str (pa_cons pe_str pa_nil))) (by rfl)) (pss_one (ps_ret (pv 3))) pss_nil)
      (pss_cons (ps_if (pt_cmp (pc_isN (pv 1))) (pss_one (ps_ret pe_str)) pss_nil)
      (pss_cons (ps_if (PW.pt (pw_or (pt_cmpR (op_inD (hu65 hr)) (pe_tup (pa_cons (pv 1) (pa_cons (pv 2) pa_nil))) (pe_dget (hu hr) (pv 0) pe_str (fun _ _ => rfl)) (by rfl)) (pw_or1 (pt_cmpR (op_in_seqK K) (pv 1) (pe_c (ok_reach T) hr (by decide) rfl (pa_cons (pe_dget (hu hr) (pv 0) pe_str (fun _ _ => rfl)) (pa_cons (pv 2) pa_nil))) (by rfl))))) (pss_one (ps_ret pe_str)) pss_nil)
      (pss_one (ps_ret pe_str)))))), ?_⟩
  have wv : ∀ {H' : Hp}, WAt H' A w → Rd H' (A .w) (.dK (wkv A)) := fun a => .inl (a.at_.is .w _ rfl)
  have r1 : ∀ {H' : Hp}, WAt H' A w → DGet H' (A .w) (.str "states") (some (.ref (A .st))) := fun a => .inl ⟨_, .inr "states", wv a, rfl, rfl⟩
  have r2 : ∀ {H' : Hp}, WAt H' A w → DGet H' (A .w) (.str "early") (some (.ref (A .er))) := fun a => .inl ⟨_, .inr "early", wv a, rfl, rfl⟩
  have r3 : ∀ {H' : Hp}, WAt H' A w → DGet H' (A .w) (.str "needs") (some (.ref (A .nd))) := fun a => .inl ⟨_, .inr "needs", wv a, rfl, rfl⟩
  refine ⟨_, rfl, _, _, rfl, r1 at_, _, rfl, _, _, rfl, dgY (.inl (at_.at_.is .st _ rfl)) ht, _, rfl, (by rw [sizeLine_eq]; show 2 ≤ _; decide), fun p hp => ?_⟩
  have a2 := at_.same (sameNew (o := .tup [V.str "ready", V.str "failed"]) hp)
  refine ⟨p, [V.str "ready", V.str "failed"], rfl, .inr (.inl (.inl upd_same)), rfl, rfl, _, rfl, ?_⟩
  show (if inV (V.str (w.st t)) [V.str "ready", V.str "failed"] = true then _ else _)
  rw [show inV (V.str (w.st t)) [V.str "ready", V.str "failed"] = decide (w.st t ∈ ([("ready" : Str), "failed"] : List Str)) from inV_strs (l := [("ready" : Str), "failed"])]
  have s2 := sameNew (o := .tup [V.str "ready", V.str "failed"]) hp
  by_cases c : w.st t = "ready"
  · refine ifT (decide_eq_true (by rw [c]; exact List.mem_cons_self)) ⟨_, rfl, ?_⟩
    rw [c]
    exact q _ _ s2 (.ready c)
  · refine ifN (decide_eq_false (by intro z; rcases List.mem_cons.mp z with z | z; exact c z; exact hf (List.mem_singleton.mp z))) ?_
    refine ⟨_, rfl, _, rfl, ?_⟩
    refine ⟨_, rfl, _, rfl, (by rw [sizeLine_eq]; show 2 ≤ _; decide), fun p2 hp2 => ?_⟩
    have a3 := a2.same (sameNew (o := .tup [V.str s, V.str t]) hp2)
    have s3 := s2.trans (sameNew (o := .tup [V.str s, V.str t]) hp2)
    have okE : ∀ x ∈ w.EL.map (·.2), okPr x := fun x hx => ⟨ok.hN.nm _ (ok.eN x hx).1, ok.hN.nm _ (ok.eN x hx).2⟩
    refine ⟨_, rfl, _, _, rfl, r2 a3, prD (s, t), (w.EL.map (·.2)).map prD, dp_pr upd_same, dp_prs (.inl (.inl (a3.at_.is .er _ rfl))) a3.e, shaped_pr ⟨ok.hN.nm _ hs, ok.hN.nm _ ht⟩, shaped_prs okE, _, rfl, ?_⟩
    rw [any_prs]
    by_cases c2 : (s, t) ∈ w.EL.map (·.2)
    · refine ifT (decide_eq_true c2) ?_
      exact q _ _ s3 (.early c (.inl c2))
    · refine ifN (decide_eq_false c2) ?_
      refine ⟨_, rfl, _, rfl, _, _, rfl, r3 a3, _, rfl, A .nd, w.L, w.nl, T', t, rfl, a3.at_.is .nd _ rfl, a3.l, ok.hN, ht, fun x hx => (ok.lN x hx).2, ok.lT, fun H4 d ys s4 hd ed _ _ hy => ?_⟩
      refine ⟨d, _, rfl, .inl (.inl (.inl ed)), rfl, flat_strs ys, _, rfl, ?_⟩
      show (if inV (V.str s) (ys.map V.str) = true then _ else _)
      rw [inV_strs]
      by_cases c3 : s ∈ ys
      · exact ifT (decide_eq_true c3) (q _ _ (s3.trans s4) (.early c (.inr ((hy s).mp c3))))
      · exact ifN (decide_eq_false c3) (q _ _ (s3.trans s4) (.wait c fun z => z.elim c2 fun z => c3 ((hy s).mpr z)))
end
end Cy
end

section
set_option maxHeartbeats 4000000
/-! The law's own defs, third part: what changes the law's world. -/
namespace Cy
open PySem PySem.Spec PyProof.Rows
open L2 hiding St
theorem WAt.keep {H H' : Hp} {A A' : WR → Addr} {w w' : Wd} {F' : Addr → Prop} (a : WAt H A w) (f : Fr (WFp A w) F' H H') (c : At H' A' (obW A' w')) (hl : w'.L = w.L) (he : w'.EL = w.EL) : WAt H' A' w' :=
  ⟨c, by rw [hl]; exact fun e h => f.keep _ _ (a.l e h) fun z => a.at_.notup (a.l e h) z, by rw [he]; exact fun e h => f.keep _ _ (a.e e h) fun z => a.at_.notup (a.e e h) z⟩
theorem IsPrs.fr {H H' : Hp} {A : WR → Addr} {w : Wd} {F' : Addr → Prop} {bs : List (Addr × Pr)} (h : IsPrs H bs) (a : WAt H A w) (f : Fr (WFp A w) F' H H') : IsPrs H' bs := fun e he => f.keep _ _ (h e he) fun z => a.at_.notup (h e he) z
def spAsked : Sp := fun vs H Q _ => ∃ (A : WR → Addr) (w : Wd) (T : Str → List Str) (s : Option Str) (t : Str), vs = [.ref (A .w), optV s, .str t] ∧ WAt H A w ∧ WOk w T ∧ t ∈ w.nl ∧ (∀ x, s = some x → x ∈ w.nl) ∧
  ∀ H' (A' : WR → Addr) (w' : Wd), WAt H' A' w' → A' .w = A .w → Fr (WFp A w) (WFp A' w') H H' → w'.nl = w.nl → w'.exs = w.exs → w'.st = (if w.st t = "new" then setS w.st t "running" else w.st) → w'.EL = w.EL → (w'.L.map (·.2)).Nodup →
    (∀ q, q ∈ w'.L.map (·.2) ↔ q ∈ w.L.map (·.2) ∨ (s = some q.1 ∧ q.2 = t)) → w'.re.length ≤ w.re.length + 1 → Q (.bl (decide (w.st t = "new"))) H'
def spTaken : Sp := fun vs H Q _ => ∃ (A : WR → Addr) (w : Wd) (T : Str → List Str) (s t : Str), vs = [.ref (A .w), .str s, .str t] ∧ WAt H A w ∧ WOk w T ∧ s ∈ w.nl ∧ t ∈ w.nl ∧ w.st t ≠ "failed" ∧
  ∀ H' (A' : WR → Addr) (w' : Wd) v, WAt H' A' w' → A' .w = A .w → Fr (WFp A w) (WFp A' w') H H' → AnsIs w.st (w.EL.map (·.2)) T s t v → w'.nl = w.nl → w'.exs = w.exs → w'.st = w.st → w'.L = w.L → w'.re = w.re →
    (v = "early" → w'.EL.map (·.2) = addP (w.EL.map (·.2)) (s, t)) → (v ≠ "early" → w'.EL = w.EL) → Q (.str v) H'
def spFinished : Sp := fun vs H Q _ => ∃ (A : WR → Addr) (w : Wd) (T : Str → List Str) (m : Str), vs = [.ref (A .w), .str m] ∧ WAt H A w ∧ WOk w T ∧ m ∈ w.nl ∧
  ∀ H' (A' : WR → Addr) (w' : Wd) l (p : Str → Bool) (ys N : List Str), N.Perm w.nl → sortedS N = true → ys = N.filter p → (∀ n ∈ w.nl, p n = true ↔ (setS w.st m ("done" : Str) n = ("done" : Str) ∧ compl (setS w.st m ("done" : Str)) T n)) → WAt H' A' w' → A' .w = A .w → Fr (WFp A w) (WFp A' w') H H' →
    w'.nl = w.nl → w'.exs = w.exs → w'.L = w.L → w'.re = w.re → w'.st = (fun n => if n ∈ ys then ("ready" : Str) else setS w.st m ("done" : Str) n) → w'.EL.map (·.2) = (w.EL.map (·.2)).filter (fun q => decide (q.1 ∉ ys)) → H l = none → H' l = some (.lst (ys.map V.str)) → ¬ WFp A' w' l → Q (.ref l) H'
theorem all_okB {st : Str → Str} {ys : List Str} : ((List.range ys.length).map fun i => okB st (ys.getD i "")).all id = true ↔ ∀ y ∈ ys, okSt st y := by
  rw [List.all_eq_true]
  constructor
  · intro h m hm
    obtain ⟨i, hi, e⟩ := List.mem_iff_getElem.mp hm
    have z : okB st (ys.getD i "") = true := h _ (List.mem_map.mpr ⟨i, List.mem_range.mpr hi, rfl⟩)
    have eY : ys.getD i "" = m := by rw [List.getD_eq_getElem?_getD, List.getElem?_eq_getElem hi, ← e]; rfl
    rw [eY] at z
    exact okB_iff.mp z
  · intro h b hb
    obtain ⟨i, hi, rfl⟩ := List.mem_map.mp hb
    have hi := List.mem_range.mp hi
    have eY : ys.getD i "" = ys[i] := by rw [List.getD_eq_getElem?_getD, List.getElem?_eq_getElem hi]; rfl
    show okB st (ys.getD i "") = true
    rw [eY]
    exact okB_iff.mpr (h _ (List.getElem_mem hi))
section
variable {P : Program} {w : World} {K : PySem.W.Frag} {mg : Str → Option Value} {base : Heap}
theorem ok_asked (T : Tx K mg) : Cal P w K mg base 1 "_law_asked" spAsked := by
  have sc : FnScope ["_law_world_here", "_law_source", "_law_target", "_law_started", "_law_pair"] ["_law_world_here", "_law_source", "_law_target"] (defScope s__law_asked) := ⟨rfl, rfl, rfl, by decide +kernel, rfl, by decide +kernel, by decide +kernel⟩
  have nd := sc.nd
  refine cal_of T.f__law_asked T.g__law_asked sc (fun z F => F.bindsN fun _ _ _ _ _ _ us hl => match us, hl with | [_, _, _], _ => rfl) (fun vs H Q E h => ?_) fun cdv A outer sh H vs Q E hr h => ?_
  · obtain ⟨A, w, T', s, t, rfl, _⟩ := h
    rfl
  obtain ⟨A, w, T', s, t, rfl, at_, ok, ht, hs, q⟩ := h
  refine ⟨_, (pss_cons (ps_set (i := 3) nd rfl (.inl rfl) (pe_cmpR op_eq (pe_dget (hu hr) (pe_dget (hu hr) (pv 0) pe_str (fun _ _ => rfl)) (pv 2) (fun _ _ => rfl)) pe_str (nomark _)))
      (C8.pss_cut (ps_if (pt_cmp (pc_notN (pv 1))) (pss_cons (ps_dput (hu hr) (pv 0) pe_str (pe_op op_cat (pe_lc (own := [("_law_pair", 4)]) (g := (gName 4)) rfl nd (pi_list (pe_dget (hu hr) (pv 0) pe_str (fun _ _ => rfl))) (blkOk_by (by rfl)) (fun _ _ _ _ _ => (pg_name (i := 4) nd rfl (.inl rfl))) (fun _ _ _ _ _ => pts_one (pt_cmpR (op_neDK K (hu64 hr)) (pv 4) (pe_tup (pa_cons (pv 1) (pa_cons (pv 2) pa_nil))) (nomark _))) (fun _ _ _ _ _ => (pv 4))) (pe_lst (pa_cons (pe_tup (pa_cons (pv 1) (pa_cons (pv 2) pa_nil))) pa_nil))) rfl)
      (pss_one (ps_expr (pe_bm PySem.F.plainAttrs_list PySem.F.slot_list_append PySem.F.type_list_append mt_append (pe_dget (hu hr) (pv 0) pe_str (fun _ _ => rfl)) (pa_cons (pe_tup (pa_cons (pv 1) (pa_cons (pv 2) pa_nil))) pa_nil))))) pss_nil)
      (C8.pss_cut (ps_if (pt_val (pv 3)) (pss_one (ps_dput (hu hr) (pe_dget (hu hr) (pv 0) pe_str (fun _ _ => rfl)) (pv 2) pe_str rfl)) pss_nil)
      (pss_one (ps_ret (pv 3)))))), ?_⟩
  have hw := at_.at_.is .w _ rfl
  have sz : ∀ n : Nat, n < 2000 → n < sizeLine := fun n h => by rw [sizeLine_eq]; omega
  refine ⟨_, rfl, _, _, rfl, .inl ⟨_, .inr "states", .inl hw, rfl, rfl⟩, _, rfl, _, _, rfl, dgY (.inl (at_.at_.is .st _ rfl)) ht, rfl, ?_⟩
  have ed : decide (V.str (w.st t) = V.str "new") = decide (w.st t = "new") := decide_eq_decide.mpr ⟨V.str.inj, congrArg V.str⟩
  let b0 : Bool := decide (V.str (w.st t) = V.str "new")
  refine ⟨fun σ' H' => ∃ (A1 : WR → Addr) (w1 : Wd) (pv : Option V), σ' = [some (.ref (A .w)), some (optV s), some (.str t), some (.bl b0), pv] ∧ WAt H' A1 w1 ∧ A1 .w = A .w ∧ Fr (WFp A w) (WFp A1 w1) H H' ∧ w1.nl = w.nl ∧ w1.exs = w.exs ∧ w1.st = w.st ∧ w1.EL = w.EL ∧ (w1.L.map (·.2)).Nodup ∧
    (∀ q, q ∈ w1.L.map (·.2) ↔ q ∈ w.L.map (·.2) ∨ (s = some q.1 ∧ q.2 = t)) ∧ w1.re.length ≤ w.re.length + 1, ?_, ?_⟩
  · cases s with
    | none => exact ⟨_, rfl, _, rfl, A, w, none, rfl, at_, rfl, .of_same (Same.refl H) fun _ z => z, rfl, rfl, rfl, rfl, ok.ln, fun q => ⟨.inl, fun z => z.resolve_right fun z => by cases z.1⟩, Nat.le_succ _⟩
    | some s =>
      have hsN := hs s rfl
      refine ⟨_, rfl, _, rfl, ?_⟩
      refine ⟨_, rfl, _, _, rfl, .inl ⟨_, .inr "needs", .inl hw, rfl, rfl⟩, A .nd, rfl, ⟨_, .inl (.inl (at_.at_.is .nd _ rfl))⟩, fun D hD => ?_⟩
      have okL : ∀ x ∈ w.L.map (·.2), okPr x := fun x hx => ⟨ok.hN.nm _ (ok.lN x hx).1, ok.hN.nm _ (ok.lN x hx).2⟩
      have lL := ok.ll
      let fl : Nat → List (Addr × Pr) := fun i => (w.L.take i).filter fun e => decide (e.2 ≠ (s, t))
      refine gen_it walk_list (fun i H' => Same H H' ∧ H' D = some (.lst (refs (fl i)))) ⟨sameNew hD, upd_same⟩ (fun i H' _ z => .inl (.inl (z.1 _ _ (at_.at_.is .nd _ rfl)))) ?_ ?_
      · rintro i v H2 H3 hi ⟨s2, e2⟩ ⟨rfl, ev⟩
        have ev : (w.L.map fun e => V.ref e.1)[i]? = some v := ev
        rw [List.getElem?_map] at ev
        obtain ⟨e, ee, rfl⟩ := Option.map_eq_some_iff.mp ev
        have hi : i < w.L.length := by
          have hi : i < (refs w.L).length := hi
          unfold refs at hi
          rwa [List.length_map] at hi
        have eL := List.mem_of_getElem? ee
        refine ⟨rfl, _, rfl, _, rfl, _, rfl, (by rw [sizeLine_eq]; show 2 ≤ _; decide), fun p hp => ?_⟩
        refine ⟨_, _, dp_pr (sameNew hp _ _ (s2 _ _ (at_.l e eL))), dp_pr (q := (s, t)) upd_same, shaped_pr (okL _ (List.mem_map.mpr ⟨e, eL, rfl⟩)), shaped_pr ⟨ok.hN.nm _ hsN, ok.hN.nm _ ht⟩, _, rfl, ?_⟩
        rw [eqv_pr]
        have tk : fl (i + 1) = fl i ++ [e].filter fun e => decide (e.2 ≠ (s, t)) := by
          show (w.L.take (i + 1)).filter _ = _
          rw [take_at ee, List.filter_append]
        by_cases c : e.2 = (s, t)
        · refine ifN (by rw [decide_eq_true c]; rfl) ⟨s2.trans (sameNew hp), ?_⟩
          rw [sameNew hp _ _ e2, tk, List.filter_cons_of_neg (by rw [decide_eq_true_eq]; exact fun z => z c), List.filter_nil, List.append_nil]
        · refine ifT (by rw [decide_eq_false c]; rfl) ⟨_, rfl, _, sameNew hp _ _ e2, ?_, sameTo (s2.trans (sameNew hp)) hD, ?_⟩
          · have z := List.length_filter_le (fun e : Addr × Pr => decide (e.2 ≠ (s, t))) (w.L.take i)
            rw [List.length_take] at z
            refine sz _ ?_
            unfold refs
            rw [List.length_map]
            show ((w.L.take i).filter _).length < 2000
            omega
          · rw [upd_same, tk, List.filter_cons_of_pos (by rw [decide_eq_true_eq]; exact c)]
            unfold refs
            rw [List.map_append]
            rfl
      · rintro H2 ⟨s2, e2⟩
        have lr : (refs w.L).length = w.L.length := by unfold refs; rw [List.length_map]
        have efl : fl (refs w.L).length = w.L.filter fun e => decide (e.2 ≠ (s, t)) := by
          show (w.L.take (refs w.L).length).filter _ = _
          rw [lr, List.take_length]
        rw [efl] at e2
        refine ⟨_, rfl, _, rfl, (by rw [sizeLine_eq]; show 2 ≤ _; decide), fun p hp => ⟨(by rw [sizeLine_eq]; show 1 ≤ _; decide), fun l1 h1 => ?_⟩⟩
        have Dp_ : D ≠ p := ne_of_none e2 hp
        have e3 := sameNew (o := .lst [V.ref p]) h1 _ _ (sameNew (o := .tup [V.str s, V.str t]) hp _ _ e2)
        refine ⟨D, l1, _, [V.ref p], rfl, rfl, e3, upd_same, ?_, fun l2 h2 => ?_⟩
        · have z := List.length_filter_le (fun e : Addr × Pr => decide (e.2 ≠ (s, t))) w.L
          unfold refs
          rw [List.length_map]
          have := sz ((w.L.filter fun e => decide (e.2 ≠ (s, t))).length + 1) (by omega)
          exact Nat.le_of_lt this
        · have s3 := (s2.trans (sameNew (o := .tup [V.str s, V.str t]) hp)).trans (sameNew (o := .lst [V.ref p]) h1)
          have s4 := s3.trans (sameNew (o := .lst (refs (w.L.filter fun e => decide (e.2 ≠ (s, t))) ++ [V.ref p])) h2)
          let L1 := (w.L.filter fun e => decide (e.2 ≠ (s, t))) ++ [(p, (s, t))]
          let w1 : Wd := { w with L := L1 }
          let A1 : WR → Addr := fun l => match l with | .nd => l2 | l => A l
          have z := At.newS (A' := A1) (ob := obW A w) (ob' := obW A1 w1) (l0 := .w) (l1 := .nd) (o0' := .dK (putK (wkv A) (.inr "needs") (.ref l2))) (o1 := .lst (refs (w.L.filter fun e => decide (e.2 ≠ (s, t))) ++ [V.ref p])) at_.at_ s4 rfl (fun z => by cases z) (s3.free h2) upd_same ?_ rfl (fun _ z => by cases z) (fun _ z => by cases z) (fun m h0 h1 => ?_) rfl fun m h1 => ?_
          · refine ⟨_, rfl, A .w, _, rfl, .inl ⟨_, .inr "needs", s4 _ _ hw, rfl, sz _ (by show 9 < 2000; decide), rfl⟩, ?_⟩
            have a5 := z.1.is .w _ rfl
            refine ⟨_, rfl, _, _, rfl, .inl ⟨_, .inr "recorded", .inl a5, rfl, rfl⟩, .inl ⟨rfl, _, .inl (.inl (z.1.is .rc _ rfl))⟩, ?_⟩
            refine ⟨_, rfl, _, rfl, (by rw [sizeLine_eq]; show 2 ≤ _; decide), fun p2 hp2 => ?_⟩
            have z2 := z.1.same (sameNew (o := .tup [V.str s, V.str t]) hp2)
            have f2 := z.2.trans (Fr.of_same (F := WFp A1 w1) (F' := WFp A1 w1) (sameNew (o := .tup [V.str s, V.str t]) hp2) fun _ z => z)
            have y := At.putf (ob := obW A1 w1) (ob' := obW A1 { w1 with re := w1.re ++ [V.ref p2] }) (o' := .lst (w1.re ++ [V.ref p2])) z2 (l := .rc) rfl rfl (fun _ z => by cases z) fun m hm => ?_
            · refine ⟨A .rc, w.re, _, rfl, rfl, z2.is .rc _ rfl, sz _ (by have := ok.rl; omega), ?_⟩
              have f3 := f2.trans y.2
              have tp : IsPrs (upd (upd H2 p (.tup [V.str s, V.str t])) l1 (.lst [V.ref p])) [(p, (s, t))] := fun e he => by
                rw [List.mem_singleton.mp he]
                exact sameNew h1 _ _ upd_same
              have c5 : ¬ WFp A w p := fun z => by
                obtain ⟨o, eo, _⟩ := at_.at_.fp z
                rw [s2 _ _ eo] at hp
                cases hp
              have ep2 : (upd (upd (upd (upd (upd H2 p (.tup [V.str s, V.str t])) l1 (.lst [V.ref p])) l2 (.lst (refs (w.L.filter fun e => decide (e.2 ≠ (s, t))) ++ [V.ref p]))) (A .w) (.dK (putK (wkv A) (.inr "needs") (.ref l2)))) p2 (.tup [V.str s, V.str t])) p = some (.tup [V.str s, V.str t]) := by
                refine sameNew hp2 _ _ ?_
                rw [upd_ne fun z => c5 ⟨.w, _, rfl, z.symm⟩]
                exact sameNew h2 _ _ (sameNew h1 _ _ upd_same)
              refine ⟨A1, { w1 with re := w1.re ++ [V.ref p2] }, _, rfl, ⟨y.1, fun e he => ?_, at_.e.fr at_ f3⟩, rfl, f3, rfl, rfl, rfl, rfl, ?_, fun x => ?_, by show (w.re ++ [V.ref p2]).length ≤ _; rw [List.length_append]; exact Nat.le_refl _⟩
              · rcases List.mem_append.mp he with he | he
                · exact f3.keep _ _ (at_.l e (List.mem_filter.mp he).1) fun z => at_.at_.notup (at_.l e (List.mem_filter.mp he).1) z
                · rw [List.mem_singleton.mp he]
                  exact y.2.keep _ _ ep2 fun z => z2.notup ep2 z
              · show ((w.L.filter fun e => decide (e.2 ≠ (s, t))) ++ [(p, (s, t))]).map (·.2) |>.Nodup
                rw [List.map_append]
                refine List.nodup_append.mpr ⟨ok.ln.sublist ((List.filter_sublist).map _), by simp, fun a ha b hb z => ?_⟩
                obtain ⟨e, he, rfl⟩ := List.mem_map.mp ha
                have := (List.mem_filter.mp he).2
                rw [decide_eq_true_eq] at this
                exact this (z.trans (List.mem_singleton.mp hb))
              · show x ∈ ((w.L.filter fun e => decide (e.2 ≠ (s, t))) ++ [(p, (s, t))]).map (·.2) ↔ _
                rw [List.map_append, List.mem_append]
                constructor
                · rintro (h | h)
                  · obtain ⟨e, he, rfl⟩ := List.mem_map.mp h
                    exact .inl (List.mem_map.mpr ⟨e, (List.mem_filter.mp he).1, rfl⟩)
                  · rw [show x = (s, t) from List.mem_singleton.mp h]
                    exact .inr ⟨rfl, rfl⟩
                · rintro (h | ⟨h, h'⟩)
                  · by_cases c : x = (s, t)
                    · exact .inr (List.mem_singleton.mpr c)
                    · obtain ⟨e, he, rfl⟩ := List.mem_map.mp h
                      exact .inl (List.mem_map.mpr ⟨e, List.mem_filter.mpr ⟨he, decide_eq_true c⟩, rfl⟩)
                  · exact .inr (List.mem_singleton.mpr (Prod.ext (Option.some.inj h).symm h'))
            · cases m with
              | rc => exact absurd rfl hm
              | _ => rfl
          · show some (HO.lst (refs L1)) = _
            unfold refs
            rw [List.map_append]
            rfl
          · cases m with
            | w => exact absurd rfl h0
            | nd => exact absurd rfl h1
            | _ => rfl
          · cases m with
            | nd => exact absurd rfl h1
            | _ => rfl
  rintro σ' H2 ⟨A1, w1, pv, rfl, a2, eA, f2, q1, q2, q3, q4, q5, q6, q7⟩
  have ht1 : t ∈ w1.nl := by rw [q1]; exact ht
  refine ⟨fun σ' H' => ∃ (w2 : Wd) (pv : Option V), σ' = [some (.ref (A .w)), some (optV s), some (.str t), some (.bl b0), pv] ∧ WAt H' A1 w2 ∧ Fr (WFp A w) (WFp A1 w2) H H' ∧ w2.nl = w.nl ∧ w2.exs = w.exs ∧ w2.EL = w.EL ∧ w2.L = w1.L ∧ w2.re = w1.re ∧ w2.st = (if w.st t = "new" then setS w.st t "running" else w.st), ?_, ?_⟩
  · refine ⟨_, rfl, _, rfl, ?_⟩
    show (if decide (V.str (w.st t) = V.str "new") = true then _ else _)
    rw [ed]
    by_cases c : w.st t = "new"
    · refine ifT (decide_eq_true c) ?_
      rw [← eA]
      have hN2 := ok.hN.le
      have z := At.putf (ob := obW A1 w1) (ob' := obW A1 { w1 with st := setS w1.st t "running" }) (o' := .dK (putK (kvS w1.nl fun n => .str (w1.st n)) (.inr t) (.str "running"))) a2.at_ (l := .st) rfl ?_ (fun _ z => by cases z) fun m hm => ?_
      · refine ⟨_, rfl, _, _, rfl, .inl ⟨_, .inr "states", .inl (a2.at_.is .w _ rfl), rfl, rfl⟩, _, rfl, A1 .st, _, rfl, .inl ⟨_, .inr t, a2.at_.is .st _ rfl, rfl, by rw [kvS_len, q1]; exact sz _ (by omega), rfl⟩, ?_⟩
        refine ⟨{ w1 with st := setS w1.st t "running" }, pv, rfl, a2.keep z.2 z.1 rfl rfl, f2.trans z.2, q1, q2, q4, rfl, rfl, ?_⟩
        rw [if_pos c]
        show setS w1.st t "running" = _
        rw [q3]
      · rw [kvS_put_in ht1]
        show some (HO.dK (kvS w1.nl fun n => .str (setS w1.st t "running" n))) = _
        congr 2
        exact kvS_congr fun m _ => by unfold setS; split <;> rfl
      · cases m with
        | st => exact absurd rfl hm
        | _ => rfl
    · refine ifN (decide_eq_false c) ⟨w1, pv, rfl, a2, f2, q1, q2, q4, rfl, rfl, ?_⟩
      rw [if_neg c]
      exact q3
  · rintro σ' H3 ⟨w2, pv, rfl, a3, f3, y1, y2, y4, y5, y6, y3⟩
    refine ⟨_, rfl, ?_⟩
    show Q (.bl (decide (V.str (w.st t) = V.str "new"))) H3
    rw [ed]
    exact q H3 A1 w2 a3 eA f3 y1 y2 y3 y4 (by rw [y5]; exact q5) (by rw [y5]; exact q6) (by rw [y6]; exact q7)
theorem ok_taken (T : Tx K mg) : Cal P w K mg base 3 "_law_taken" spTaken := by
  have sc : FnScope ["_law_world_here", "_law_source", "_law_target", "_law_answer_here", "_law_pair"] ["_law_world_here", "_law_source", "_law_target"] (defScope s__law_taken) := ⟨rfl, rfl, rfl, by decide +kernel, rfl, by decide +kernel, by decide +kernel⟩
  have nd := sc.nd
  refine cal_of T.f__law_taken T.g__law_taken sc (fun z F => F.bindsN fun _ _ _ _ _ _ us hl => match us, hl with | [_, _, _], _ => rfl) (fun vs H Q E h => ?_) fun cdv A outer sh H vs Q E hr h => ?_
  · obtain ⟨A, w, T', s, t, rfl, _⟩ := h
    rfl
  obtain ⟨A, w, T', s, t, rfl, at_, ok, hs, ht, hf, q⟩ := h
  refine ⟨_, (pss_cons (ps_set (i := 3) nd rfl (.inl rfl) (pe_c (ok_answer T) hr (by decide) rfl (pa_cons (pv 0) (pa_cons (pv 1) (pa_cons (pv 2) pa_nil)))))
      (pss_cons (ps_if (pt_cmpR op_eq (pv 3) pe_str (nomark _)) (pss_one ps_never) pss_nil)
      (pss_cons (ps_if (PW.pt (pw_and (pt_cmpR op_eq (pv 3) pe_str (nomark _)) (pw_and1 (pt_cmpR (op_notInD (hu65 hr)) (pe_tup (pa_cons (pv 1) (pa_cons (pv 2) pa_nil))) (pe_dget (hu hr) (pv 0) pe_str (fun _ _ => rfl)) (by rfl))))) (pss_one (ps_expr (pe_bm PySem.F.plainAttrs_list PySem.F.slot_list_append PySem.F.type_list_append mt_append (pe_dget (hu hr) (pv 0) pe_str (fun _ _ => rfl)) (pa_cons (pe_tup (pa_cons (pv 1) (pa_cons (pv 2) pa_nil))) pa_nil)))) pss_nil)
      (pss_one (ps_ret (pv 3)))))), ?_⟩
  refine ⟨_, rfl, _, rfl, _, rfl, A, w, T', s, t, rfl, at_, ok, hs, ht, hf, fun H1 v s1 av => ?_⟩
  have a1 := at_.same s1
  have f1 : Fr (WFp A w) (WFp A w) H H1 := .of_same s1 fun _ z => z
  refine ⟨_, rfl, rfl, _, rfl, ?_⟩
  have nf : v ≠ "failed" := by cases av <;> decide +kernel
  refine ifN (decide_eq_false fun z => nf (V.str.inj z)) ?_
  refine ⟨_, rfl, rfl, _, rfl, ?_⟩
  by_cases c : v = "early"
  · refine ifT (decide_eq_true (by rw [c])) ?_
    refine ⟨_, rfl, _, rfl, (by rw [sizeLine_eq]; show 2 ≤ _; decide), fun p hp => ?_⟩
    have a2 := a1.same (sameNew (o := .tup [V.str s, V.str t]) hp)
    have s2 := s1.trans (sameNew (o := .tup [V.str s, V.str t]) hp)
    have okE : ∀ x ∈ w.EL.map (·.2), okPr x := fun x hx => ⟨ok.hN.nm _ (ok.eN x hx).1, ok.hN.nm _ (ok.eN x hx).2⟩
    refine ⟨_, rfl, _, _, rfl, .inl ⟨_, .inr "early", .inl (a2.at_.is .w _ rfl), rfl, rfl⟩, prD (s, t), (w.EL.map (·.2)).map prD, dp_pr upd_same, dp_prs (.inl (.inl (a2.at_.is .er _ rfl))) a2.e, shaped_pr ⟨ok.hN.nm _ hs, ok.hN.nm _ ht⟩, shaped_prs okE, _, rfl, ?_⟩
    rw [any_prs]
    by_cases c2 : (s, t) ∈ w.EL.map (·.2)
    · refine ifN (by rw [decide_eq_true c2]; rfl) ⟨_, rfl, q _ A w v a2 rfl (.of_same s2 fun _ z => z) av rfl rfl rfl rfl rfl (fun _ => ?_) fun z => absurd c z⟩
      unfold addP
      rw [if_pos c2]
    · refine ifT (by rw [decide_eq_false c2]; rfl) ?_
      refine ⟨_, rfl, _, _, rfl, .inl ⟨_, .inr "early", .inl (a2.at_.is .w _ rfl), rfl, rfl⟩, .inl ⟨rfl, _, .inl (.inl (a2.at_.is .er _ rfl))⟩, ?_⟩
      refine ⟨_, rfl, _, rfl, (by rw [sizeLine_eq]; show 2 ≤ _; decide), fun p2 hp2 => ?_⟩
      have s3 := s2.trans (sameNew (o := .tup [V.str s, V.str t]) hp2)
      have a3 := a2.same (sameNew (o := .tup [V.str s, V.str t]) hp2)
      have z := At.putf (ob := obW A w) (ob' := obW A { w with EL := w.EL ++ [(p2, (s, t))] }) (o' := .lst (refs w.EL ++ [V.ref p2])) a3.at_ (l := .er) rfl ?_ (fun _ z => by cases z) fun m hm => ?_
      · have f3 := (Fr.of_same (F := WFp A w) (F' := WFp A w) s3 fun _ z => z).trans z.2
        refine ⟨A .er, refs w.EL, _, rfl, rfl, a3.at_.is .er _ rfl, ?_, ?_⟩
        · have := ok.le
          unfold refs
          rw [List.length_map, sizeLine_eq]
          omega
        · refine ⟨_, rfl, q _ A { w with EL := w.EL ++ [(p2, (s, t))] } v ⟨z.1, at_.l.fr at_ f3, fun e he => ?_⟩ rfl f3 av rfl rfl rfl rfl rfl (fun _ => ?_) fun z => absurd c z⟩
          · rcases List.mem_append.mp he with he | he
            · exact at_.e.fr at_ f3 e he
            · rw [List.mem_singleton.mp he]
              have ep : (upd (upd H1 p (.tup [V.str s, V.str t])) p2 (.tup [V.str s, V.str t])) p2 = some (.tup [V.str s, V.str t]) := upd_same
              exact z.2.keep _ _ ep fun y => a3.at_.notup ep y
          · unfold addP
            rw [if_neg c2]
            show (w.EL ++ [(p2, (s, t))]).map (·.2) = _
            rw [List.map_append]
            rfl
      · show some (HO.lst (refs (w.EL ++ [(p2, (s, t))]))) = _
        unfold refs
        rw [List.map_append]
        rfl
      · cases m with
        | er => exact absurd rfl hm
        | _ => rfl
  · refine ifN (decide_eq_false fun z => c (V.str.inj z)) ?_
    refine ifN rfl ⟨_, rfl, q _ A w v a1 rfl f1 av rfl rfl rfl rfl rfl (fun z => absurd z c) fun _ => rfl⟩
theorem ok_finished (T : Tx K mg) : Cal P w K mg base 2 "_law_finished" spFinished := by
  have sc : FnScope ["_law_world_here", "_law_module", "_law_ready", "_law_name", "_law_below", "_law_one", "_law_pair"] ["_law_world_here", "_law_module"] (defScope s__law_finished) := ⟨rfl, rfl, rfl, by decide +kernel, rfl, by decide +kernel, by decide +kernel⟩
  have nd := sc.nd
  refine cal_of T.f__law_finished T.g__law_finished sc (fun z F => F.bindsN fun _ _ _ _ _ _ us hl => match us, hl with | [_, _], _ => rfl) (fun vs H Q E h => ?_) fun cdv A outer sh H vs Q E hr h => ?_
  · obtain ⟨A, w, T', m, rfl, _⟩ := h
    rfl
  obtain ⟨A, w, T', m, rfl, at_, ok, hm, q⟩ := h
  refine ⟨_, (C8.pss_cut (ps_dput (hu hr) (pe_dget (hu hr) (pv 0) pe_str (fun _ _ => rfl)) (pv 1) pe_str rfl)
      (pss_cons (ps_set (i := 2) nd rfl (.inr rfl) (pe_lst pa_nil))
      (C8.pss_cut (ps_for PassesOwn.never rfl (pi_list (pe_callB (call_sortedD rfl) rfl T.b_sorted (by decide +kernel) (pa_cons (pe_dget (hu hr) (pv 0) pe_str (fun _ _ => rfl)) pa_nil))) (pg_name (i := 3) nd rfl (.inl rfl)) (pss_cons (ps_set (i := 4) nd rfl (.inl rfl) (pe_c (ok_reach T) hr (by decide) rfl (pa_cons (pe_dget (hu hr) (pv 0) pe_str (fun _ _ => rfl)) (pa_cons (pv 3) pa_nil))))
      (pss_one (ps_if (PW.pt (pw_and (pt_cmpR op_eq (pe_dget (hu hr) (pe_dget (hu hr) (pv 0) pe_str (fun _ _ => rfl)) (pv 3) (fun _ _ => rfl)) pe_str (nomark _)) (pw_and1 (pt_val (pe_callB (cr_all rfl) rfl T.b_all (by decide +kernel) (pa_cons (pe_lc (own := [("_law_one", 5)]) (g := (gName 5)) (tt := tYes) rfl nd (pi_list (pv 4)) (blkOk_by (by rfl)) (fun _ _ _ _ _ => (pg_name (i := 5) nd rfl (.inl rfl))) (fun _ _ _ _ _ => pts_nil) (fun _ _ _ _ _ => (pe_cmpR (op_in_seqK K) (pe_dget (hu hr) (pe_dget (hu hr) (pv 0) pe_str (fun _ _ => rfl)) (pv 5) (fun _ _ => rfl)) (pe_tup (pa_cons pe_str (pa_cons pe_str pa_nil))) (by rfl)))) pa_nil)))))) (pss_one (ps_expr (pe_bm PySem.F.plainAttrs_list PySem.F.slot_list_append PySem.F.type_list_append mt_append (pv 2) (pa_cons (pv 3) pa_nil)))) pss_nil))))
      (C8.pss_cut (ps_for PassesOwn.never rfl (pi_list (pv 2)) (pg_name (i := 3) nd rfl (.inl rfl)) (pss_one (ps_dput (hu hr) (pe_dget (hu hr) (pv 0) pe_str (fun _ _ => rfl)) (pv 3) pe_str rfl)))
      (pss_cons (ps_dput (hu hr) (pv 0) pe_str (pe_lc (own := [("_law_pair", 6)]) (g := (gName 6)) rfl nd (pi_list (pe_dget (hu hr) (pv 0) pe_str (fun _ _ => rfl))) (blkOk_by (by rfl)) (fun _ _ _ _ _ => (pg_name (i := 6) nd rfl (.inl rfl))) (fun _ _ _ _ _ => pts_one (pt_cmpR (op_notIn_seqK K) (pe_ix (ix_tupK K) (pv 6) pe_int (fun _ _ => rfl)) (pv 2) (by rfl))) (fun _ _ _ _ _ => (pv 6))) rfl)
      (pss_one (ps_ret (pv 2)))))))), ?_⟩
  have sz : ∀ n : Nat, n < 2000 → n < sizeLine := fun n h => by rw [sizeLine_eq]; omega
  have l10 := ok.hN.le
  let w1 : Wd := { w with st := setS w.st m "done" }
  have rd : ∀ {H' : Hp} {w' : Wd}, WAt H' A w' → Rd H' (A .w) (.dK (wkv A)) := fun a => .inl (a.at_.is .w _ rfl)
  refine ⟨fun σ' H' => σ' = [some (.ref (A .w)), some (.str m), none, none, none, none, none] ∧ WAt H' A w1 ∧ Fr (WFp A w) (WFp A w1) H H', ?_, ?_⟩
  · refine ⟨_, rfl, _, _, rfl, .inl ⟨_, .inr "states", rd at_, rfl, rfl⟩, _, rfl, A .st, _, rfl, .inl ⟨_, .inr m, at_.at_.is .st _ rfl, rfl, by rw [kvS_len]; exact sz _ (by omega), rfl⟩, rfl, ?_⟩
    have z := At.putf (ob := obW A w) (ob' := obW A w1) (o' := .dK (putK (kvS w.nl fun n => .str (w.st n)) (.inr m) (.str "done"))) at_.at_ (l := .st) rfl ?_ (fun _ z => by cases z) fun l hl => ?_
    · exact ⟨at_.keep z.2 z.1 rfl rfl, z.2⟩
    · rw [kvS_put_in hm]
      show some (HO.dK (kvS w.nl fun n => .str (setS w.st m "done" n))) = _
      congr 2
      exact kvS_congr fun m _ => by unfold setS; split <;> rfl
    · cases l with
      | st => exact absurd rfl hl
      | _ => rfl
  rintro σ' H2 ⟨rfl, a2, f2⟩
  -- ready = []
  refine ⟨(by rw [sizeLine_eq]; show 0 ≤ _; decide), fun l hl => ?_⟩
  let pc : Str → Bool := fun n => @decide (compl w1.st T' n) (Classical.propDecidable _)
  have pce : ∀ n, pc n = true ↔ compl w1.st T' n := fun n => @decide_eq_true_iff (compl w1.st T' n) (Classical.propDecidable _)
  let p : Str → Bool := fun n => decide (w1.st n = "done") && pc n
  have hp : ∀ n, p n = true ↔ (w1.st n = "done" ∧ compl w1.st T' n) := fun n => by
    show (decide (w1.st n = "done") && pc n) = true ↔ _
    rw [Bool.and_eq_true, decide_eq_true_eq, pce]
  have nl : ¬ WFp A w1 l := fun z => by
    obtain ⟨o, e, _⟩ := a2.at_.fp z
    rw [hl] at e
    cases e
  refine ⟨fun σ' H' => ∃ (N : List Str) (u v : Option V), σ' = [some (.ref (A .w)), some (.str m), some (.ref l), u, v, none, none] ∧ N.Perm w.nl ∧ sortedS N = true ∧ Same H2 H' ∧ H' l = some (.lst ((N.filter p).map V.str)), ?_, ?_⟩
  · have a3 := a2.same (sameNew (o := .lst []) hl)
    refine ⟨_, rfl, _, _, rfl, .inl ⟨_, .inr "states", rd a3, rfl, rfl⟩, A .st, _, w.nl, rfl, .inl (a3.at_.is .st _ rfl), kvS_keys, by omega, fun N a4 pm so ha4 => ?_⟩
    have l4 : l ≠ a4 := ne_of_none upd_same ha4
    have h4 : H2 a4 = none := by rw [upd_ne l4.symm] at ha4; exact ha4
    refine ⟨a4, rfl, ⟨_, .inl (.inl upd_same)⟩, for_it (walk_names (l := N)) (fun i σ' H' => ∃ (u v : Option V), σ' = [some (.ref (A .w)), some (.str m), some (.ref l), u, v, none, none] ∧ Same H2 H' ∧ H' a4 = some (.lst (N.map V.str)) ∧ H' l = some (.lst (((N.take i).filter p).map V.str)))
      ⟨none, none, rfl, sameTo (sameNew hl) h4, upd_same, by rw [upd_ne l4, upd_same]; rfl⟩ (fun i σ H' _ ⟨_, _, _, _, e, _⟩ => .inl (.inl e)) ?_ ?_⟩
    · rintro i x σ H3 H4 hi ⟨u, v, rfl, s3, e3, el3⟩ ⟨rfl, n, en, rfl⟩
      have nN : n ∈ w.nl := pm.mem_iff.mp (List.mem_of_getElem? en)
      have b3 := a2.same s3
      refine ⟨_, rfl, _, _, rfl, .inl ⟨_, .inr "needs", rd b3, rfl, rfl⟩, _, rfl, A .nd, w.L, w.nl, T', n, rfl, b3.at_.is .nd _ rfl, b3.l, ok.hN, nN, fun x hx => (ok.lN x hx).2, ok.lT, fun H5 d ys s5 hd ed ynd yl hy => ?_⟩
      have b5 := b3.same s5
      have s25 := s3.trans s5
      have tk : ((N.take (i + 1)).filter p) = (N.take i).filter p ++ [n].filter p := by rw [take_at en, List.filter_append]
      have no : ∀ H6, Same H5 H6 → p n = false → ∃ (u v : Option V), [some (.ref (A .w)), some (.str m), some (.ref l), some (V.str n), some (V.ref d), none, none] = [some (.ref (A .w)), some (.str m), some (.ref l), u, v, none, none] ∧ Same H2 H6 ∧ H6 a4 = some (.lst (N.map V.str)) ∧ H6 l = some (.lst (((N.take (i + 1)).filter p).map V.str)) := fun H6 s6 e => by
        refine ⟨_, _, rfl, s25.trans s6, s6 _ _ (s5 _ _ e3), ?_⟩
        rw [tk, List.filter_cons_of_neg (by rw [e]; exact Bool.false_ne_true), List.filter_nil, List.append_nil]
        exact s6 _ _ (s5 _ _ el3)
      refine ⟨_, rfl, _, _, rfl, .inl ⟨_, .inr "states", rd b5, rfl, rfl⟩, _, rfl, _, _, rfl, dgY (.inl (b5.at_.is .st _ rfl)) nN, rfl, _, rfl, ?_⟩
      have ed2 : decide (V.str (w1.st n) = V.str "done") = decide (w1.st n = "done") := decide_eq_decide.mpr ⟨V.str.inj, congrArg V.str⟩
      show (if decide (V.str (w1.st n) = V.str "done") = true then _ else _)
      rw [ed2]
      by_cases c : w1.st n = "done"
      · refine ifT (decide_eq_true c) ?_
        have yN : ∀ y ∈ ys, y ∈ w.nl := fun y h => ((hy y).mp h).closed (C := fun m => m ∈ w.nl) (fun a b _ hb => (ok.lN _ ((ok.lT a b).mpr hb)).2) nN
        refine ⟨_, rfl, d, rfl, ⟨_, .inl (.inl ed)⟩, fun D hD => lc_same (walk_names (l := ys)) hD (fun H6 s6 => .inl (.inl (s6 _ _ ed))) (fun i => .bl (okB w1.st (ys.getD i ""))) (fun _ => true) ?_ fun H6 s6 e6 => ?_⟩
        · rintro j x H6 H7 hj lc ⟨rfl, y, ey, rfl⟩
          have eY : ys.getD j "" = y := by rw [List.getD_eq_getElem?_getD, ey]; rfl
          have b6 := b5.same lc.same
          refine ⟨rfl, _, rfl, _, _, rfl, .inl ⟨_, .inr "states", rd b6, rfl, rfl⟩, _, rfl, _, _, rfl, dgY (.inl (b6.at_.is .st _ rfl)) (yN y (List.mem_of_getElem? ey)), (by rw [sizeLine_eq]; show 2 ≤ _; decide), fun t ht => ?_⟩
          refine ⟨t, [V.str "done", V.str "ready"], rfl, .inr (.inl (.inl upd_same)), rfl, rfl, lc.yes (by omega) rfl ?_ (sameNew ht)⟩
          show V.bl (inV (V.str (w1.st y)) [V.str "done", V.str "ready"]) = V.bl (okB w1.st (ys.getD j ""))
          rw [eY]
          exact congrArg V.bl (inV_strs (n := w1.st y) (l := [("done" : Str), "ready"]))
        · refine ⟨D, (List.range ys.length).map fun i => okB w1.st (ys.getD i ""), rfl, .inl (.inl ?_), _, rfl, ?_⟩
          · rw [e6, picks_all, List.map_map]
            rfl
          · have ea : ((List.range ys.length).map fun i => okB w1.st (ys.getD i "")).all id = true ↔ pc n = true := by
              rw [all_okB, pce]
              exact ⟨fun h m hm => h m ((hy m).mpr hm), fun h y hy2 => h y ((hy y).mp hy2)⟩
            by_cases c2 : pc n = true
            · refine ifT (ea.mpr c2) ?_
              refine ⟨_, rfl, .inl ⟨rfl, _, .inl (.inl (s6 _ _ (s5 _ _ el3)))⟩, _, rfl, l, _, _, rfl, rfl, s6 _ _ (s5 _ _ el3), ?_, _, _, rfl, sameTo (s25.trans s6) hl, by rw [upd_ne l4.symm]; exact s6 _ _ (s5 _ _ e3), ?_⟩
              · have z := List.length_filter_le p (N.take i)
                rw [List.length_take] at z
                have := pm.length_eq
                rw [List.length_map]
                exact sz _ (by omega)
              · rw [upd_same, tk, List.filter_cons_of_pos ((hp n).mpr ⟨c, (pce n).mp c2⟩)]
                rw [List.map_append]
                rfl
            · refine ifN (Bool.eq_false_iff.mpr fun z => c2 (ea.mp z)) (no H6 s6 (Bool.eq_false_iff.mpr fun z => c2 ((pce n).mpr ((hp n).mp z).2)))
      · exact ifN (decide_eq_false c) (ifN rfl (no H5 (Same.refl _) (Bool.eq_false_iff.mpr fun z => c ((hp n).mp z).1)))
    · rintro σ H3 ⟨u, v, rfl, s3, e3, el3⟩
      rw [List.take_length] at el3
      exact ⟨N, u, v, rfl, pm, so, s3, el3⟩
  rintro σ' H3 ⟨N, u, v, rfl, pm, so, s3, el⟩
  have a3 := a2.same s3
  have f3 : Fr (WFp A w) (WFp A w1) H H3 := f2.trans (.of_same s3 fun _ z => z)
  generalize hys : N.filter p = ys at el
  have yN : ∀ n ∈ ys, n ∈ w.nl := fun n h => pm.mem_iff.mp (List.mem_filter.mp (hys ▸ h)).1
  let w2 : Nat → Wd := fun i => { w1 with st := fun n => if n ∈ ys.take i then "ready" else w1.st n }
  have fps : ∀ i b, WFp A (w2 i) b → WFp A w1 b := fun i b ⟨l, o, e, z⟩ => by
    cases l with
    | st => exact ⟨.st, _, rfl, z⟩
    | w => exact ⟨.w, o, e, z⟩
    | ex => exact ⟨.ex, o, e, z⟩
    | e n => exact ⟨.e n, o, e, z⟩
    | nd => exact ⟨.nd, o, e, z⟩
    | rc => exact ⟨.rc, o, e, z⟩
    | er => exact ⟨.er, o, e, z⟩
    | _ => cases e
  refine ⟨fun σ' H' => ∃ u v : Option V, σ' = [some (.ref (A .w)), some (.str m), some (.ref l), u, v, none, none] ∧ WAt H' A (w2 ys.length) ∧ Fr (WFp A w) (WFp A (w2 ys.length)) H H' ∧ H' l = some (.lst (ys.map V.str)), ?_, ?_⟩
  · refine ⟨_, rfl, l, rfl, ⟨_, .inl (.inl el)⟩, for_it (walk_names (l := ys)) (fun i σ' H' => ∃ u v : Option V, σ' = [some (.ref (A .w)), some (.str m), some (.ref l), u, v, none, none] ∧ WAt H' A (w2 i) ∧ Fr (WFp A w) (WFp A (w2 i)) H H' ∧ H' l = some (.lst (ys.map V.str))) ⟨u, v, rfl, a3, f3, el⟩ (fun i σ H' _ ⟨_, _, _, _, _, e⟩ => .inl (.inl e)) ?_ ?_⟩
    · rintro i x σ H4 H5 hi ⟨u, v, rfl, a4, f4, e4⟩ ⟨rfl, n, en, rfl⟩
      have nN := yN n (List.mem_of_getElem? en)
      refine ⟨_, rfl, _, _, rfl, .inl ⟨_, .inr "states", rd a4, rfl, rfl⟩, _, rfl, A .st, _, rfl, .inl ⟨_, .inr n, a4.at_.is .st _ rfl, rfl, by rw [kvS_len]; exact sz _ (by show w.nl.length < _; omega), rfl⟩, ?_⟩
      have z := At.putf (ob := obW A (w2 i)) (ob' := obW A (w2 (i + 1))) (o' := .dK (putK (kvS w.nl fun n => .str ((w2 i).st n)) (.inr n) (.str "ready"))) a4.at_ (l := .st) rfl ?_ (fun _ z => by cases z) fun l hl => ?_
      · exact ⟨_, _, rfl, a4.keep z.2 z.1 rfl rfl, f4.trans z.2, by rw [upd_ne (fun z => nl (fps i _ ⟨.st, _, rfl, z.symm⟩))]; exact e4⟩
      · rw [kvS_put_in nN]
        show some (HO.dK (kvS w.nl fun m => .str (if m ∈ ys.take (i + 1) then "ready" else w1.st m))) = _
        congr 2
        refine kvS_congr fun m _ => ?_
        show V.str (if m ∈ ys.take (i + 1) then "ready" else w1.st m) = setS (fun m => V.str (if m ∈ ys.take i then "ready" else w1.st m)) n (.str "ready") m
        unfold setS
        rw [take_at en]
        by_cases c : m = n
        · rw [if_pos c, if_pos (by rw [c]; simp)]
        · rw [if_neg c]
          congr 1
          by_cases c2 : m ∈ ys.take i
          · rw [if_pos c2, if_pos (List.mem_append_left _ c2)]
          · rw [if_neg c2, if_neg fun z => (List.mem_append.mp z).elim c2 fun z => c (List.mem_singleton.mp z)]
      · cases l with
        | st => exact absurd rfl hl
        | _ => rfl
    · rintro σ H4 ⟨u, v, rfl, a4, f4, e4⟩
      exact ⟨u, v, rfl, a4, f4, e4⟩
  clear u v
  rintro σ' H4 ⟨u, v, rfl, a4, f4, e4⟩
  have nl4 : ¬ WFp A (w2 ys.length) l := fun z => nl (fps _ _ z)
  -- early
  refine ⟨_, rfl, _, _, rfl, .inl ⟨_, .inr "early", rd a4, rfl, rfl⟩, A .er, rfl, ⟨_, .inl (.inl (a4.at_.is .er _ rfl))⟩, fun D hD => ?_⟩
  let fl : Nat → List (Addr × Pr) := fun i => (w.EL.take i).filter fun e => decide (e.2.1 ∉ ys)
  have lE := ok.le
  refine gen_it walk_list (fun i H' => Same H4 H' ∧ H' D = some (.lst (refs (fl i)))) ⟨sameNew hD, upd_same⟩ (fun i H' _ z => .inl (.inl (z.1 _ _ (a4.at_.is .er _ rfl)))) ?_ ?_
  · rintro i v H5 H6 hi ⟨s5, e5⟩ ⟨rfl, ev⟩
    have ev : (w.EL.map fun e => V.ref e.1)[i]? = some v := ev
    rw [List.getElem?_map] at ev
    obtain ⟨e, ee, rfl⟩ := Option.map_eq_some_iff.mp ev
    have hi : i < w.EL.length := by
      have hi : i < (refs w.EL).length := hi
      unfold refs at hi
      rwa [List.length_map] at hi
    have et := s5 _ _ (a4.e e (List.mem_of_getElem? ee))
    refine ⟨rfl, _, rfl, e.1, _, 0, .str e.2.1, rfl, rfl, .inl (.inl et), atI0, _, rfl, l, _, rfl, .inl (.inl (.inl (s5 _ _ e4))), rfl, flat_strs ys, _, rfl, ?_⟩
    show (if (!inV (V.str e.2.1) (ys.map V.str)) = true then _ else _)
    rw [inV_strs]
    have tk : fl (i + 1) = fl i ++ [e].filter fun e => decide (e.2.1 ∉ ys) := by
      show (w.EL.take (i + 1)).filter _ = _
      rw [take_at ee, List.filter_append]
    by_cases c : e.2.1 ∈ ys
    · refine ifN (by rw [decide_eq_true c]; rfl) ⟨s5, ?_⟩
      rw [e5, tk, List.filter_cons_of_neg (by rw [decide_eq_true_eq]; exact fun z => z c), List.filter_nil, List.append_nil]
    · refine ifT (by rw [decide_eq_false c]; rfl) ⟨_, rfl, _, e5, ?_, sameTo s5 hD, ?_⟩
      · have z := List.length_filter_le (fun e : Addr × Pr => decide (e.2.1 ∉ ys)) (w.EL.take i)
        rw [List.length_take] at z
        refine sz _ ?_
        unfold refs
        rw [List.length_map]
        show ((w.EL.take i).filter _).length < 2000
        omega
      · rw [upd_same, tk, List.filter_cons_of_pos (by rw [decide_eq_true_eq]; exact c)]
        unfold refs
        rw [List.map_append]
        rfl
  · rintro H5 ⟨s5, e5⟩
    have efl : fl (refs w.EL).length = w.EL.filter fun e => decide (e.2.1 ∉ ys) := by
      show (w.EL.take (refs w.EL).length).filter _ = _
      unfold refs
      rw [List.length_map, List.take_length]
    have e5 : H5 D = some (.lst (refs (w.EL.filter fun e => decide (e.2.1 ∉ ys)))) := by rw [← efl]; exact e5
    let w3 : Wd := { w2 ys.length with EL := w.EL.filter fun e => decide (e.2.1 ∉ ys) }
    let A1 : WR → Addr := fun l => match l with | .er => D | l => A l
    have z := At.newS (A' := A1) (ob := obW A (w2 ys.length)) (ob' := obW A1 w3) (l0 := .w) (l1 := .er) (o0' := .dK (putK (wkv A) (.inr "early") (.ref D))) (o1 := .lst (refs (w.EL.filter fun e => decide (e.2.1 ∉ ys)))) a4.at_ s5 rfl (fun z => by cases z) hD e5 rfl rfl (fun _ z => by cases z) (fun _ z => by cases z) (fun m h0 h1 => ?_) rfl fun m h1 => ?_
    · have f6 := f4.trans z.2
      have aw := s5 _ _ (a4.at_.is .w _ rfl)
      refine ⟨_, rfl, A .w, _, rfl, .inl ⟨_, .inr "early", aw, rfl, sz _ (by show 9 < 2000; decide), rfl⟩, _, rfl, ?_⟩
      refine q _ A1 w3 l p ys N pm so hys.symm (fun n _ => hp n) ⟨z.1, a4.l.fr a4 z.2, fun e he => ?_⟩ rfl f6 rfl rfl rfl rfl ?_ ?_ ?_ ?_ ?_
      · exact (a4.e.fr a4 z.2) e (List.mem_filter.mp he).1
      · show (fun n => if n ∈ ys.take ys.length then ("ready" : Str) else w1.st n) = _
        rw [List.take_length]
      · show (w.EL.filter fun e => decide (e.2.1 ∉ ys)).map (·.2) = _
        rw [List.filter_map]
        rfl
      · cases e : H l with
        | none => rfl
        | some o =>
          have y : ¬ WFp A w l := fun ⟨l0, o, e, z⟩ => nl (by
            cases l0 with
            | st => exact ⟨.st, _, rfl, z⟩
            | w => exact ⟨.w, o, e, z⟩
            | ex => exact ⟨.ex, o, e, z⟩
            | e n => exact ⟨.e n, o, e, z⟩
            | nd => exact ⟨.nd, o, e, z⟩
            | rc => exact ⟨.rc, o, e, z⟩
            | er => exact ⟨.er, o, e, z⟩
            | _ => cases e)
          rw [f2.keep _ _ e y] at hl
          cases hl
      · exact z.2.keep _ _ e4 nl4
      · intro y
        rcases z.2.new _ y with y | y
        · exact nl4 y
        · rw [e4] at y
          cases y
    · cases m with
      | w => exact absurd rfl h0
      | er => exact absurd rfl h1
      | _ => rfl
    · cases m with
      | er => exact absurd rfl h1
      | _ => rfl
end
end Cy
end

section
set_option maxHeartbeats 4000000
/-! Registry and the law's world together. -/
namespace Cy
open PySem PySem.Spec PyProof.Rows
open L2 hiding St
/-! ### the plain law -/
structure Good (r : Rg) : Prop where
  s4 : ∀ n ∈ r.N, r.st n = "new" ∨ r.st n = "running" ∨ r.st n = "done" ∨ r.st n = "ready"
  ex0 : ∀ n ∈ r.N, r.st n = "new" ∨ r.st n = "running" → r.exs n = []
  cl : ∀ a b, r.st a = "ready" → b ∈ r.g.T a → r.st b = "ready"
  dn : ∀ a ∈ r.N, r.st a = "done" → ∃ b, Rc r.g.T a b ∧ r.st b = "running"
  nn : ∀ a b, b ∈ r.g.T a → r.st b ≠ "new"
theorem s_nr : ("new" : Str) ≠ "running" := by decide +kernel
theorem s_nd : ("new" : Str) ≠ "done" := by decide +kernel
theorem s_ny : ("new" : Str) ≠ "ready" := by decide +kernel
theorem s_rd : ("running" : Str) ≠ "done" := by decide +kernel
theorem s_ry : ("running" : Str) ≠ "ready" := by decide +kernel
theorem s_dy : ("done" : Str) ≠ "ready" := by decide +kernel
theorem req_st {r : Rg} {s : Option Str} {t n : Str} : (r.req s t).st n = if n = t ∧ r.st t = "new" then ("running" : Str) else r.st n := by
  show (if r.st t = "new" then setS r.st t "running" else r.st) n = _
  by_cases c : r.st t = "new"
  · rw [if_pos c]
    unfold setS
    by_cases e : n = t
    · rw [if_pos e, if_pos ⟨e, c⟩]
    · rw [if_neg e, if_neg fun z => e z.1]
  · rw [if_neg c, if_neg fun z => c z.2]
theorem req_T {r : Rg} {s : Option Str} {t a b : Str} : b ∈ (r.req s t).g.T a ↔ b ∈ r.g.T a ∨ (s = some a ∧ b = t) := by
  cases s with
  | none => exact ⟨.inl, fun h => h.resolve_right fun z => by cases z.1⟩
  | some s =>
    show b ∈ (r.g.rcd s t).T a ↔ _
    rw [Gr.mem_rec]
    exact ⟨fun h => h.imp id fun z => ⟨by rw [z.1], z.2⟩, fun h => h.imp id fun z => ⟨(Option.some.inj z.1).symm, z.2⟩⟩
theorem Good.req {r : Rg} (G : Good r) {s : Option Str} {t : Str} (hs : ∀ x, s = some x → r.st x = "running") : Good (r.req s t) := by
  have rr : ∀ n, (r.req s t).st n = "ready" → r.st n = "ready" := fun n h => by
    rw [req_st] at h
    split at h
    · exact absurd h s_ry
    · exact h
  have yr : ∀ n, r.st n = "ready" → (r.req s t).st n = "ready" := fun n h => by
    rw [req_st, if_neg fun z => s_ny (z.2.symm.trans (z.1 ▸ h))]
    exact h
  refine ⟨fun n hn => ?_, fun n hn h => ?_, fun a b ha hb => ?_, fun a haN ha => ?_, fun a b hb => ?_⟩
  · rw [req_st]
    split
    · exact .inr (.inl rfl)
    · exact G.s4 n hn
  · show r.exs n = []
    rw [req_st] at h
    by_cases c : n = t ∧ r.st t = "new"
    · exact G.ex0 n hn (.inl (by rw [c.1]; exact c.2))
    · rw [if_neg c] at h
      exact G.ex0 n hn h
  · rcases req_T.mp hb with z | ⟨z, _⟩
    · exact yr b (G.cl a b (rr a ha) z)
    · have h1 := hs a z
      rw [rr a ha] at h1
      exact absurd h1.symm s_ry
  · have h1 : r.st a = "done" := by
      rw [req_st] at ha
      split at ha
      · exact absurd ha s_rd
      · exact ha
    obtain ⟨b, hb, hr⟩ := G.dn a haN h1
    refine ⟨b, hb.mono fun x y h => req_T.mpr (.inl h), ?_⟩
    rw [req_st]
    split
    · rfl
    · exact hr
  · rw [req_st]
    split
    · exact s_nr.symm
    · rename_i c
      rcases req_T.mp hb with z | ⟨_, z⟩
      · exact G.nn a b z
      · exact fun h => c ⟨z, by rw [← z]; exact h⟩
theorem Rc.last {T : Str → List Str} {a c : Str} (h : Rc T a c) : c = a ∨ ∃ b, c ∈ T b := by
  cases h with
  | refl => exact .inl rfl
  | step _ e => exact .inr ⟨_, e⟩
theorem Rc.inN {r : Rg} (ok : ROk r) {a b : Str} (h : Rc r.g.T a b) (ha : a ∈ r.N) : b ∈ r.N := h.closed (C := fun m => m ∈ r.N) (fun x y _ hy => ok.gok.ts x y hy) ha
theorem Good.fin {r : Rg} (G : Good r) (ok : ROk r) {m : Str} {ys : List Str} {p : Str → Bool} {ex : List (Str × Int)} (hm : m ∈ r.N) (hr : r.st m = "running") (hy : ys = r.N.filter p) (hp : ∀ n ∈ r.N, p n = true ↔ (setS r.st m "done" n = "done" ∧ compl (setS r.st m "done") r.g.T n)) :
    Good (({ r with exs := setS r.exs m ex } : Rg).fin m ys) := by
  have iny : ∀ n, n ∈ ys ↔ n ∈ r.N ∧ setS r.st m "done" n = "done" ∧ compl (setS r.st m "done") r.g.T n := fun n => by
    rw [hy, List.mem_filter]
    exact ⟨fun h => ⟨h.1, (hp n h.1).mp h.2⟩, fun h => ⟨h.1, (hp n h.1).mpr h.2⟩⟩
  have st1 : ∀ n, n ≠ m → setS r.st m "done" n = r.st n := fun n h => setS_ne h
  have stm : setS r.st m "done" m = "done" := setS_same
  let r' : Rg := ({ r with exs := setS r.exs m ex } : Rg).fin m ys
  have sty : ∀ n, n ∈ ys → r'.st n = "ready" := fun n h => if_pos h
  have stn : ∀ n, n ∉ ys → r'.st n = setS r.st m "done" n := fun n h => if_neg h
  have rdy : ∀ n, r.st n = "ready" → r'.st n = "ready" := fun n h => by
    have nm : n ≠ m := fun z => s_ry (hr.symm.trans (z ▸ h))
    by_cases c : n ∈ ys
    · exact sty n c
    · rw [stn n c, st1 n nm]
      exact h
  refine ⟨fun n hn => ?_, fun n hn h => ?_, fun a b ha hb => ?_, fun a haN ha => ?_, fun a b hb => ?_⟩
  · by_cases c : n ∈ ys
    · exact .inr (.inr (.inr (sty n c)))
    · have e : r'.st n = setS r.st m "done" n := stn n c
      show r'.st n = _ ∨ r'.st n = _ ∨ r'.st n = _ ∨ r'.st n = _
      rw [e]
      by_cases c2 : n = m
      · rw [c2, stm]
        exact .inr (.inr (.inl rfl))
      · rw [st1 n c2]
        exact G.s4 n hn
  · have h : r'.st n = "new" ∨ r'.st n = "running" := h
    have c : n ∉ ys := fun z => by
      rw [sty n z] at h
      rcases h with h | h
      · exact s_ny h.symm
      · exact s_ry h.symm
    rw [stn n c] at h
    have nm : n ≠ m := fun z => by
      rw [z, stm] at h
      rcases h with h | h
      · exact s_nd h.symm
      · exact s_rd h.symm
    rw [st1 n nm] at h
    show setS r.exs m ex n = []
    rw [setS_ne nm]
    exact G.ex0 n hn h
  · have ha : r'.st a = "ready" := ha
    show r'.st b = "ready"
    by_cases c : a ∈ ys
    · obtain ⟨h1, h2, h3⟩ := (iny a).mp c
      have bN : b ∈ r.N := ok.gok.ts a b hb
      have cb : compl (setS r.st m "done") r.g.T b := fun x hx => h3 x ((Rc.one hb).trans hx)
      rcases h3 b (Rc.one hb) with z | z
      · exact sty b ((iny b).mpr ⟨bN, z, cb⟩)
      · by_cases c2 : b ∈ ys
        · exact sty b c2
        · rw [stn b c2]
          exact z
    · rw [stn a c] at ha
      have nm : a ≠ m := fun z => by rw [z, stm] at ha; exact s_dy ha
      rw [st1 a nm] at ha
      exact rdy b (G.cl a b ha hb)
  · have ha : r'.st a = "done" := ha
    have c : a ∉ ys := fun z => by rw [sty a z] at ha; exact s_dy ha.symm
    rw [stn a c] at ha
    have nc : ¬ compl (setS r.st m "done") r.g.T a := fun z => c ((iny a).mpr ⟨haN, ha, z⟩)
    have ⟨x, hx, nx⟩ : ∃ x, Rc r.g.T a x ∧ ¬ okSt (setS r.st m "done") x := Classical.byContradiction fun z => nc fun x hx => Classical.byContradiction fun y => z ⟨x, hx, y⟩
    have xm : x ≠ m := fun z => nx (.inl (by rw [z]; exact stm))
    have xN : x ∈ r.N := hx.inN ok haN
    have ns : r.st x ≠ "new" := by
      rcases hx.last with z | ⟨b, z⟩
      · exact absurd (Or.inl (by rw [z]; exact ha)) nx
      · exact G.nn b x z
    have xr : r.st x = "running" := by
      unfold okSt at nx
      rw [st1 x xm] at nx
      rcases G.s4 x xN with z | z | z | z
      · exact absurd z ns
      · exact z
      · exact absurd (Or.inl z) nx
      · exact absurd (Or.inr z) nx
    refine ⟨x, hx, ?_⟩
    show r'.st x = "running"
    rw [stn x fun z => nx (.inl ((iny x).mp z).2.1), st1 x xm]
    exact xr
  · show r'.st b ≠ "new"
    by_cases c : b ∈ ys
    · rw [sty b c]
      exact s_ny.symm
    · rw [stn b c]
      by_cases c2 : b = m
      · rw [c2, stm]
        exact s_nd.symm
      · rw [st1 b c2]
        exact G.nn a b hb
/-! ### both together -/
inductive KR | k | c (n : Str)
def obK (C : KR → Addr) (kl : List Str) (ks : Str → List (Str × Int)) : KR → Option HO
  | .k => some (.dK (kvS kl fun n => .ref (C (.c n))))
  | .c n => if n ∈ kl then some (.dK (exK (ks n))) else none
abbrev KFp (C : KR → Addr) (kl : List Str) (ks : Str → List (Str × Int)) : Addr → Prop := Fp C (obK C kl ks)
structure Sy where
  A : RR → Addr
  B : WR → Addr
  C : KR → Addr
  p : Addr
  r : Rg
  w : Wd
  kl : List Str
  ks : Str → List (Str × Int)
structure Cm (K : PySem.W.Frag) (H : Hp) (y : Sy) : Prop where
  rg : RAt K H y.A y.r
  wo : WAt H y.B y.w
  kp : At H y.C (obK y.C y.kl y.ks)
  po : ∃ a b, PotAt H y.p a b
  rw : ∀ b, RFp K y.A y.r b → ¬ WFp y.B y.w b
  rk : ∀ b, RFp K y.A y.r b → ¬ KFp y.C y.kl y.ks b
  wk : ∀ b, WFp y.B y.w b → ¬ KFp y.C y.kl y.ks b
  pr : ¬ RFp K y.A y.r y.p
  pw : ¬ WFp y.B y.w y.p
  pk : ¬ KFp y.C y.kl y.ks y.p
def CFp (K : PySem.W.Frag) (y : Sy) (b : Addr) : Prop := RFp K y.A y.r b ∨ WFp y.B y.w b ∨ KFp y.C y.kl y.ks b ∨ b = y.p
structure Agree (y : Sy) : Prop where
  ro : ROk y.r
  wo : WOk y.w y.r.g.T
  pm : y.r.N.Perm y.w.nl
  so : sortedS y.r.N = true
  st : y.w.st = y.r.st
  exs : y.w.exs = y.r.exs
  P : y.w.EL.map (·.2) = y.r.P
  kn : y.kl.Nodup
  kr : ∀ n ∈ y.kl, n ∈ y.r.N ∧ y.r.st n = "ready" ∧ y.ks n = y.r.exs n
section
variable {K : PySem.W.Frag} {H H' : Hp} {y : Sy}
theorem Cm.same (c : Cm K H y) (s : Same H H') : Cm K H' y :=
  ⟨c.rg.same s, c.wo.same s, c.kp.same s, let ⟨a, b, q⟩ := c.po; ⟨a, b, q.same s⟩, c.rw, c.rk, c.wk, c.pr, c.pw, c.pk⟩
theorem frC_same (s : Same H H') : Fr (CFp K y) (CFp K y) H H' := .of_same s fun _ z => z
theorem live {R : Type} {A : R → Addr} {ob : R → Option HO} (a : At H A ob) {b : Addr} (f : Fp A ob b) : H b ≠ none := fun z => by
  obtain ⟨o, e, _⟩ := a.fp f
  rw [e] at z
  cases z
theorem Cm.lp (c : Cm K H y) : H y.p ≠ none := fun z => by
  obtain ⟨a, b, q⟩ := c.po
  rw [q.at_] at z
  cases z
/-- the registry changes -/
theorem Cm.reg (c : Cm K H y) {A' : RR → Addr} {r' : Rg} (a : RAt K H' A' r') (f : Fr (RFp K y.A y.r) (RFp K A' r') H H') : Cm K H' { y with A := A', r := r' } ∧ Fr (CFp K y) (CFp K { y with A := A', r := r' }) H H' := by
  have kw : WAt H' y.B y.w := ⟨c.wo.at_.frame f fun b h z => c.rw b z h, fun e he => f.keep _ _ (c.wo.l e he) fun z => c.rg.notup (c.wo.l e he) z, fun e he => f.keep _ _ (c.wo.e e he) fun z => c.rg.notup (c.wo.e e he) z⟩
  refine ⟨⟨a, kw, c.kp.frame f fun b h z => c.rk b z h, ?_, fun b h z => ?_, fun b h z => ?_, c.wk, fun h => ?_, c.pw, c.pk⟩, f.up (fun b z => .inl z) fun b z => ?_⟩
  · obtain ⟨i, j, q⟩ := c.po
    exact ⟨i, j, f.keep _ _ q.at_ c.pr, q.x0, q.y0, q.y1⟩
  · rcases f.new b h with q | q
    · exact c.rw b q z
    · exact live c.wo.at_ z q
  · rcases f.new b h with q | q
    · exact c.rk b q z
    · exact live c.kp z q
  · rcases f.new _ h with q | q
    · exact c.pr q
    · exact c.lp q
  · rcases z with z | z
    · exact .inl z
    · exact .inr (.inr z)
/-- the law's world changes -/
theorem Cm.wor (c : Cm K H y) {B' : WR → Addr} {w' : Wd} (a : WAt H' B' w') (f : Fr (WFp y.B y.w) (WFp B' w') H H') : Cm K H' { y with B := B', w := w' } ∧ Fr (CFp K y) (CFp K { y with B := B', w := w' }) H H' := by
  refine ⟨⟨c.rg.frame f fun b h z => c.rw b h z, a, c.kp.frame f fun b h z => c.wk b z h, ?_, fun b h z => ?_, c.rk, fun b h z => ?_, c.pr, fun h => ?_, c.pk⟩, f.up (fun b z => .inr (.inl z)) fun b z => ?_⟩
  · obtain ⟨i, j, q⟩ := c.po
    exact ⟨i, j, f.keep _ _ q.at_ c.pw, q.x0, q.y0, q.y1⟩
  · rcases f.new b z with q | q
    · exact c.rw b h q
    · exact live c.rg h q
  · rcases f.new b h with q | q
    · exact c.wk b q z
    · exact live c.kp z q
  · rcases f.new _ h with q | q
    · exact c.pw q
    · exact c.lp q
  · rcases z with z | z | z
    · exact .inr (.inl z)
    · exact .inl z
    · exact .inr (.inr (.inr z))
/-- kept changes -/
theorem Cm.kep (c : Cm K H y) {C' : KR → Addr} {kl' : List Str} {ks' : Str → List (Str × Int)} (a : At H' C' (obK C' kl' ks')) (f : Fr (KFp y.C y.kl y.ks) (KFp C' kl' ks') H H') : Cm K H' { y with C := C', kl := kl', ks := ks' } ∧ Fr (CFp K y) (CFp K { y with C := C', kl := kl', ks := ks' }) H H' := by
  have kw : WAt H' y.B y.w := ⟨c.wo.at_.frame f fun b h z => c.wk b h z, fun e he => f.keep _ _ (c.wo.l e he) fun z => c.kp.notup (c.wo.l e he) z, fun e he => f.keep _ _ (c.wo.e e he) fun z => c.kp.notup (c.wo.e e he) z⟩
  refine ⟨⟨c.rg.frame f fun b h z => c.rk b h z, kw, a, ?_, c.rw, fun b h z => ?_, fun b h z => ?_, c.pr, c.pw, fun h => ?_⟩, f.up (fun b z => .inr (.inr (.inl z))) fun b z => ?_⟩
  · obtain ⟨i, j, q⟩ := c.po
    exact ⟨i, j, f.keep _ _ q.at_ c.pk, q.x0, q.y0, q.y1⟩
  · rcases f.new b z with q | q
    · exact c.rk b h q
    · exact live c.rg h q
  · rcases f.new b z with q | q
    · exact c.wk b h q
    · exact live c.wo.at_ h q
  · rcases f.new _ h with q | q
    · exact c.pk q
    · exact c.lp q
  · rcases z with z | z | z | z
    · exact .inr (.inl z)
    · exact .inr (.inr (.inl z))
    · exact .inl z
    · exact .inr (.inr (.inr (.inr z)))
/-- the pot changes -/
theorem Cm.pot (c : Cm K H y) {i j : Int} (q : PotAt H' y.p i j) (f : Fr1 y.p H H') : Cm K H' y ∧ Fr (CFp K y) (CFp K y) H H' := by
  have ft : Fr (fun b => b = y.p) (fun b => b = y.p) H H' := ⟨fun b o e n => f b o n e, fun b z => .inl z⟩
  obtain ⟨i0, j0, q0⟩ := c.po
  have tn : ∀ e : Addr × Pr, H e.1 = some (.tup [.str e.2.1, .str e.2.2]) → H' e.1 = some (.tup [.str e.2.1, .str e.2.2]) := fun e he => f _ _ (fun z => by rw [z, q0.at_] at he; cases he) he
  have kw : WAt H' y.B y.w := ⟨c.wo.at_.frame ft fun b h z => c.pw (by rw [← z]; exact h), fun e he => tn e (c.wo.l e he), fun e he => tn e (c.wo.e e he)⟩
  refine ⟨⟨c.rg.frame ft fun b h z => c.pr (by rw [← z]; exact h), kw, c.kp.frame ft fun b h z => c.pk (by rw [← z]; exact h), ⟨i, j, q⟩, c.rw, c.rk, c.wk, c.pr, c.pw, c.pk⟩, ft.up (fun b z => .inr (.inr (.inr z))) fun b z => .inr z⟩
end
theorem exK_val {l : List (Str × Int)} (h : l.length ≤ 1) : ∀ p ∈ exK l, valV (exK l) p.1 = some p.2 ∧ flatB p.2 = true := by
  match l, h with
  | [], _ => exact fun p hp => (List.not_mem_nil hp).elim
  | [e], _ =>
    intro p hp
    rw [List.mem_singleton.mp hp]
    exact ⟨valV_pos (p := ((Sum.inr e.1 : Key), V.int e.2)) rfl, rfl⟩
end Cy
end

section
set_option maxHeartbeats 4000000
/-! The law's own defs, fourth part: what is asked after each turn. -/
namespace Cy
open PySem PySem.Spec PyProof.Rows
open L2 hiding St
theorem perm_nodup {α : Type} [DecidableEq α] : ∀ {l m : List α}, l.Nodup → m.Nodup → (∀ x, x ∈ l ↔ x ∈ m) → l.Perm m
  | [], m, _, _, h => by
    cases m with
    | nil => exact .nil
    | cons x m => exact absurd ((h x).mpr List.mem_cons_self) List.not_mem_nil
  | x :: l, m, nl, nm, h => by
    obtain ⟨n1, n2⟩ := List.nodup_cons.mp nl
    have xm : x ∈ m := (h x).mp List.mem_cons_self
    refine ((perm_nodup n2 (nm.erase x) fun y => ?_).cons x).trans (List.perm_cons_erase xm).symm
    rw [nm.mem_erase_iff]
    constructor
    · exact fun hy => ⟨fun z => n1 (by rw [← z]; exact hy), (h y).mp (List.mem_cons_of_mem _ hy)⟩
    · exact fun hy => (List.mem_cons.mp ((h y).mpr hy.2)).resolve_left hy.1
def spStands (K : PySem.W.Frag) : Sp := fun vs H Q _ => ∃ y : Sy, vs = [.ref (y.A .p), .ref (y.B .w), .ref (y.C .k)] ∧ Cm K H y ∧ Agree y ∧ ∀ H', Same H H' → Q (.bl true) H'
def spGroups (K : PySem.W.Frag) : Sp := fun vs H Q _ => ∃ y : Sy, vs = [.ref (y.A .p), .ref (y.B .w)] ∧ Cm K H y ∧ Agree y ∧ Good y.r ∧ ∀ H', Same H H' → Q (.bl true) H'
theorem fr_lock {H : Hp} {d : Addr} {u : HO} {od : Obj} : Fr (fun b => b = d) (fun b => b = d) H (upd H d (.frz od u)) := ⟨fun b o e n => by rw [upd_ne n]; exact e, fun b z => .inl z⟩
section
variable {P : Program} {w : World} {K : PySem.W.Frag} {mg : Str → Option Value} {base : Heap}
theorem ok_stands (T : Tx K mg) : Cal P w K mg base 5 "_law_stands" (spStands K) := by
  have sc : FnScope ["_law_registry", "_law_world_here", "_law_kept", "_law_name"] ["_law_registry", "_law_world_here", "_law_kept"] (defScope s__law_stands) := ⟨rfl, rfl, rfl, by decide +kernel, rfl, by decide +kernel, by decide +kernel⟩
  have nd := sc.nd
  refine cal_of T.f__law_stands T.g__law_stands sc (fun z F => F.bindsN fun _ _ _ _ _ _ us hl => match us, hl with | [_, _, _], _ => rfl) (fun vs H Q E h => ?_) fun cdv A outer sh H vs Q E hr h => ?_
  · obtain ⟨y, rfl, _⟩ := h
    rfl
  obtain ⟨y, rfl, cm, ag, q⟩ := h
  refine ⟨_, (C8.pss_cut (ps_lock (ps_for PassesOwn.never rfl (pi_keys (pe_dget (hu hr) (pv 1) pe_str (fun _ _ => rfl))) (pg_name (i := 3) nd rfl (.inl rfl)) (pss_one (ps_if (PW.pt (pw_or (pt_cmpR op_ne (pe_mt (ok_R_state_of T) hr (by decide) (pv 0) (pa_cons (pv 3) pa_nil)) (pe_dget (hu hr) (pe_dget (hu hr) (pv 1) pe_str (fun _ _ => rfl)) (pv 3) (fun _ _ => rfl)) (nomark _)) (pw_or1 (pt_cmpR (op_ne_dictA (hu0 hr)) (pe_mt (ok_R_exports T) hr (by decide) (pv 0) (pa_cons (pv 3) pa_nil)) (pe_dget (hu hr) (pe_dget (hu hr) (pv 1) pe_str (fun _ _ => rfl)) (pv 3) (fun _ _ => rfl)) (nomark _))))) (pss_one (ps_ret pe_bl)) pss_nil))))
      (C8.pss_cut (ps_if (pt_not (pt_val (pe_callB (cr_all rfl) rfl T.b_all (by decide +kernel) (pa_cons (pe_lock (pe_lc (own := [("_law_name", 3)]) (g := (gName 3)) (tt := tYes) rfl nd (pi_keys (pv 2)) (blkOk_by (by rfl)) (fun _ _ _ _ _ => (pg_name (i := 3) nd rfl (.inl rfl))) (fun _ _ _ _ _ => pts_nil) (fun _ _ _ _ _ => (pe_and (pe_cmpR op_eq (pe_mt (ok_R_state_of T) hr (by decide) (pv 0) (pa_cons (pv 3) pa_nil)) pe_str (nomark _)) (pe_one (pe_cmpR (op_eq_dictA (hu0 hr)) (pe_mt (ok_R_exports T) hr (by decide) (pv 0) (pa_cons (pv 3) pa_nil)) (pe_dget (hu hr) (pv 2) (pv 3) (fun _ _ => rfl)) (nomark _))))))) pa_nil)))) (pss_one (ps_ret pe_bl)) pss_nil)
      (pss_one (ps_ret (pe_and (pe_cmpR (op_eqDK K (hu64 hr)) (pe_mt0 (ok_R_early T) hr (by decide) (pv 0)) (pe_callB cr_sortP rfl T.b_sorted (by decide +kernel) (pa_cons (pe_dget (hu hr) (pv 1) pe_str (fun _ _ => rfl)) pa_nil)) (nomark _)) (pe_one (pe_cmpR (op_eqDK K (hu64 hr)) (pe_mt0 (ok_N_pairs T) hr (by decide) (pe_mt0 (ok_R_needs T) hr (by decide) (pv 0))) (pe_callB cr_sortP rfl T.b_sorted (by decide +kernel) (pa_cons (pe_dget (hu hr) (pv 1) pe_str (fun _ _ => rfl)) pa_nil)) (nomark _)))))))), ?_⟩
  have l10 := ag.wo.hN.le
  refine ⟨fun σ' H' => ∃ v, σ' = [some (.ref (y.A .p)), some (.ref (y.B .w)), some (.ref (y.C .k)), v] ∧ Same H H', ?_, ?_⟩
  · have hst := cm.wo.at_.is .st _ rfl
    refine ⟨y.B .st, _, hst, trivial, fun od => ?_⟩
    have rgL : RAt K (upd H (y.B .st) (.frz od (.dK (kvS y.w.nl fun n => .str (y.w.st n))))) y.A y.r := cm.rg.frame fr_lock fun b h z => cm.rw b h ⟨.st, _, rfl, z.symm⟩
    have woL : ∀ l o, obW y.B y.w l = some o → l ≠ .st → (upd H (y.B .st) (.frz od (.dK (kvS y.w.nl fun n => .str (y.w.st n))))) (y.B l) = some o := fun l o e n => by
      rw [upd_ne fun z => n (cm.wo.at_.inj _ _ _ _ e rfl z)]
      exact cm.wo.at_.is l o e
    have hwL := woL .w _ rfl (fun z => by cases z)
    have hxL := woL .ex _ rfl (fun z => by cases z)
    refine ⟨_, rfl, _, _, rfl, .inl ⟨_, .inr "states", .inl hwL, rfl, rfl⟩, y.B .st, od, rfl, .inl ⟨_, upd_same, for_it walk_keysS (fun i σ' H' => ∃ v, σ' = [some (.ref (y.A .p)), some (.ref (y.B .w)), some (.ref (y.C .k)), v] ∧ Same (upd H (y.B .st) (.frz od (.dK (kvS y.w.nl fun n => .str (y.w.st n))))) H') ⟨none, rfl, Same.refl _⟩ (fun i σ H' _ ⟨_, _, s⟩ => s _ _ upd_same) ?_ ?_⟩⟩
    · rintro i x σ H2 H3 hi ⟨v, rfl, s2⟩ ⟨rfl, n, en, rfl⟩
      have nW := List.mem_of_getElem? en
      have nN : n ∈ y.r.N := ag.pm.mem_iff.mpr nW
      have r2 := rgL.same s2
      refine ⟨_, rfl, _, _, _, rfl, r2.is .p _ rfl, rfl, _, rfl, y.A, y.r, n, rfl, r2, ag.ro, nN, fun H4 s4 => ?_⟩
      have s24 := s2.trans s4
      refine ⟨_, rfl, _, _, rfl, .inl ⟨_, .inr "states", .inl (s24 _ _ hwL), rfl, rfl⟩, _, rfl, _, _, rfl, dgY (.inr ⟨od, s24 _ _ upd_same⟩) nW, rfl, _, rfl, ?_⟩
      refine ifN (by rw [ag.st, decide_eq_true rfl]; rfl) ?_
      have r4 := rgL.same s24
      refine ⟨_, rfl, _, _, _, rfl, r4.is .p _ rfl, rfl, _, rfl, y.A, y.r, n, rfl, r4, ag.ro, nN, fun H5 d s5 ed => ?_⟩
      have s25 := s24.trans s5
      refine ⟨_, rfl, _, _, rfl, .inl ⟨_, .inr "exports", .inl (s25 _ _ hwL), rfl, rfl⟩, _, rfl, _, _, rfl, dgY (.inl (s25 _ _ hxL)) nW, ?_⟩
      have he := s25 _ _ (woL (.e n) _ (if_pos nW) (fun z => by cases z))
      rw [ag.exs] at he
      exact ⟨d, y.B (.e n), exK (y.r.exs n), exK (y.r.exs n), rfl, rfl, ed, he, rfl, exK_val (ag.ro.el n), _, rfl, _, rfl, s25⟩
    · rintro σ H2 ⟨v, rfl, s2⟩
      obtain ⟨u1, u2⟩ := unlock hst s2
      exact ⟨u1, v, rfl, u2⟩
  rintro σ' H1 ⟨v, rfl, s1⟩
  have c1 := cm.same s1
  refine ⟨fun σ' H' => ∃ v, σ' = [some (.ref (y.A .p)), some (.ref (y.B .w)), some (.ref (y.C .k)), v] ∧ Same H H', ?_, ?_⟩
  · have hk := c1.kp.is .k _ rfl
    have kl10 : y.kl.length ≤ 10 := Nat.le_trans (nodup_len ag.kn fun n hn => (ag.kr n hn).1) ag.ro.hN.le
    refine ⟨y.C .k, _, hk, trivial, fun od => ?_⟩
    have rgL : RAt K (upd H1 (y.C .k) (.frz od (.dK (kvS y.kl fun n => .ref (y.C (.c n)))))) y.A y.r := c1.rg.frame fr_lock fun b h z => c1.rk b h ⟨.k, _, rfl, z.symm⟩
    refine ⟨_, rfl, y.C .k, od, rfl, .inl ⟨_, upd_same, fun D hD => lc_same walk_keysS hD (fun H' s => s _ _ upd_same) (fun _ => .bl true) (fun _ => true) ?_ fun H3 s3 e3 => ?_⟩⟩
    · rintro i x H2 H3 hi lc ⟨rfl, n, en, rfl⟩
      have nK := List.mem_of_getElem? en
      obtain ⟨nN, nr, nx⟩ := ag.kr n nK
      have r2 := rgL.same lc.same
      refine ⟨rfl, _, rfl, _, _, _, rfl, r2.is .p _ rfl, rfl, _, rfl, y.A, y.r, n, rfl, r2, ag.ro, nN, fun H4 s4 => ⟨rfl, _, rfl, ?_⟩⟩
      refine ifT (decide_eq_true (by rw [nr])) ?_
      have r4 := r2.same s4
      refine ⟨_, rfl, _, _, _, rfl, r4.is .p _ rfl, rfl, _, rfl, y.A, y.r, n, rfl, r4, ag.ro, nN, fun H5 d s5 ed => ?_⟩
      have s25 := (lc.same.trans s4).trans s5
      have hc : (upd H1 (y.C .k) (.frz od (.dK (kvS y.kl fun n => .ref (y.C (.c n)))))) (y.C (.c n)) = some (.dK (exK (y.ks n))) := by
        rw [upd_ne fun z => by
          have w := c1.kp.inj (.c n) .k _ _ (if_pos nK) rfl z
          cases w]
        exact c1.kp.is (.c n) _ (if_pos nK)
      rw [nx] at hc
      refine ⟨_, rfl, _, rfl, _, _, rfl, dgY (.inr ⟨od, s25 _ _ upd_same⟩) nK, d, y.C (.c n), exK (y.r.exs n), exK (y.r.exs n), rfl, rfl, ed, s25 _ _ hc, rfl, exK_val (ag.ro.el n), lc.yes (by omega) rfl rfl (s4.trans s5)⟩
    · obtain ⟨u1, u2⟩ := unlock hk s3
      have Dk : D ≠ y.C .k := fun z => by rw [z, upd_same] at hD; cases hD
      refine ⟨u1, D, (List.range y.kl.length).map fun _ => true, rfl, .inl (.inl ?_), _, rfl, ?_⟩
      · rw [upd_ne Dk, e3, picks_all, List.map_map]
        rfl
      · have ea : ((List.range y.kl.length).map fun _ => true).all id = true := List.all_eq_true.mpr fun b hb => by
          obtain ⟨_, _, rfl⟩ := List.mem_map.mp hb
          rfl
        refine ifN (by rw [ea]; rfl) ?_
        exact ⟨v, rfl, s1.trans u2⟩
  clear v
  rintro σ' H2 ⟨v, rfl, s2⟩
  have c2 := cm.same s2
  refine ⟨_, rfl, _, _, _, rfl, c2.rg.is .p _ rfl, rfl, y.A, y.r, rfl, c2.rg, ag.ro, fun H3 l1 bs1 s3 e1 t1 o1 p1 => ?_⟩
  have c3 := c2.same s3
  refine ⟨_, rfl, _, _, rfl, .inl ⟨_, .inr "early", .inl (c3.wo.at_.is .w _ rfl), rfl, rfl⟩, y.B .er, y.w.EL, rfl, .inl (.inl (c3.wo.at_.is .er _ rfl)), c3.wo.e, fun bs2 l2 p2 o2 h2 => ?_⟩
  have eqE : bs1.map (·.2) = bs2.map (·.2) := srt_eq o1 o2 (p1.trans ((p2.map (·.2)).trans (.of_eq ag.P)).symm)
  have okE : ∀ x ∈ bs1.map (·.2), okPr x := fun x hx => by
    have z := p1.mem_iff.mp hx
    rw [← ag.P] at z
    exact ⟨ag.wo.hN.nm _ (ag.wo.eN x z).1, ag.wo.hN.nm _ (ag.wo.eN x z).2⟩
  have s4 := sameNew (o := .lst (bs2.map fun e => V.ref e.1)) h2
  have t2 : IsPrs H3 bs2 := fun e he => c3.wo.e e (p2.mem_iff.mp he)
  refine ⟨_, _, dp_prs (.inl (.inl (s4 _ _ e1))) (t1.same s4), dp_prs (.inl (.inl upd_same)) (t2.same s4), shaped_prs okE, by rw [← eqE]; exact shaped_prs okE, true, ?_, ?_⟩
  · rw [← eqE]
    exact congrArg V.bl (eqv_prs _)
  refine iteT ?_
  have c4 := c3.same s4
  refine ⟨_, rfl, _, _, _, rfl, c4.rg.is .p _ rfl, rfl, y.A, y.r, rfl, c4.rg, ag.ro, fun H5 A5 s5 n5 => ?_⟩
  refine ⟨_, _, _, rfl, n5.is .p _ rfl, rfl, A5, y.r.N, y.r.g, rfl, n5, ag.ro.hN, ag.ro.gok, fun H6 l3 bs3 s6 e3 t3 o3 p3 => ?_⟩
  have s46 := s5.trans s6
  have c6 := c4.same s46
  refine ⟨_, rfl, _, _, rfl, .inl ⟨_, .inr "needs", .inl (c6.wo.at_.is .w _ rfl), rfl, rfl⟩, y.B .nd, y.w.L, rfl, .inl (.inl (c6.wo.at_.is .nd _ rfl)), c6.wo.l, fun bs4 l4 p4 o4 h4 => ?_⟩
  have pg : (y.w.L.map (·.2)).Perm y.r.g.prs := perm_nodup ag.wo.ln (Gr.nd_prs ag.ro.gok) fun x => (ag.wo.lT x.1 x.2).trans (Gr.mem_prs ag.ro.gok).symm
  have eqL : bs3.map (·.2) = bs4.map (·.2) := srt_eq o3 o4 (p3.trans ((p4.map (·.2)).trans pg).symm)
  have okL : ∀ x ∈ bs3.map (·.2), okPr x := fun x hx => by
    have z := pg.mem_iff.mpr (p3.mem_iff.mp hx)
    exact ⟨ag.wo.hN.nm _ (ag.wo.lN x z).1, ag.wo.hN.nm _ (ag.wo.lN x z).2⟩
  have s7 := sameNew (o := .lst (bs4.map fun e => V.ref e.1)) h4
  have t4 : IsPrs H6 bs4 := fun e he => c6.wo.l e (p4.mem_iff.mp he)
  refine ⟨_, _, dp_prs (.inl (.inl (s7 _ _ e3))) (t3.same s7), dp_prs (.inl (.inl upd_same)) (t4.same s7), shaped_prs okL, by rw [← eqL]; exact shaped_prs okL, ?_⟩
  rw [← eqL, eqv_prs]
  exact q _ ((((s2.trans s3).trans s4).trans s46).trans s7)
theorem ok_groups (T : Tx K mg) : Cal P w K mg base 3 "_law_groups_right" (spGroups K) := by
  have sc : FnScope ["_law_registry", "_law_world_here", "_law_name", "_law_below", "_law_group", "_law_one"] ["_law_registry", "_law_world_here"] (defScope s__law_groups_right) := ⟨rfl, rfl, rfl, by decide +kernel, rfl, by decide +kernel, by decide +kernel⟩
  have nd := sc.nd
  refine cal_of T.f__law_groups_right T.g__law_groups_right sc (fun z F => F.bindsN fun _ _ _ _ _ _ us hl => match us, hl with | [_, _], _ => rfl) (fun vs H Q E h => ?_) fun cdv A outer sh H vs Q E hr h => ?_
  · obtain ⟨y, rfl, _⟩ := h
    rfl
  obtain ⟨y, rfl, cm, ag, G, q⟩ := h
  refine ⟨_, (pss_cons (ps_lock (ps_for PassesOwn.never rfl (pi_keys (pe_dget (hu hr) (pv 1) pe_str (fun _ _ => rfl))) (pg_name (i := 2) nd rfl (.inr rfl)) (pss_cons (ps_set (i := 3) nd rfl (.inl rfl) (pe_c (ok_reach T) hr (by decide) rfl (pa_cons (pe_dget (hu hr) (pv 1) pe_str (fun _ _ => rfl)) (pa_cons (pv 2) pa_nil))))
      (C8.pss_cut (ps_if (PW.pt (pw_and (pt_cmpR op_eq (pe_dget (hu hr) (pe_dget (hu hr) (pv 1) pe_str (fun _ _ => rfl)) (pv 2) (fun _ _ => rfl)) pe_str (nomark _)) (pw_and1 (pt_not (pt_val (pe_callB (cr_all rfl) rfl T.b_all (by decide +kernel) (pa_cons (pe_lc (own := [("_law_one", 5)]) (g := (gName 5)) (tt := tYes) rfl nd (pi_list (pv 3)) (blkOk_by (by rfl)) (fun _ _ _ _ _ => (pg_name (i := 5) nd rfl (.inl rfl))) (fun _ _ _ _ _ => pts_nil) (fun _ _ _ _ _ => (pe_cmpR op_eq (pe_mt (ok_R_state_of T) hr (by decide) (pv 0) (pa_cons (pv 5) pa_nil)) pe_str (nomark _)))) pa_nil))))))) (pss_one (ps_ret pe_bl)) pss_nil)
      (C8.pss_cut (ps_setLc (i := 4) (own := [("_law_one", 5)]) (g := (gName 5)) rfl nd rfl rfl (sw_true rfl rfl rfl (by decide +kernel)) (pi_list (pv 3)) (blkOk_by (by rfl)) (fun _ _ _ _ _ => (pg_name (i := 5) nd rfl (.inl rfl))) (fun _ _ _ _ _ => pts_one (pt_cmpR (op_in_seqK K) (pv 2) (pe_c (ok_reach T) hr (by decide) rfl (pa_cons (pe_dget (hu hr) (pv 1) pe_str (fun _ _ => rfl)) (pa_cons (pv 5) pa_nil))) (by rfl))) (fun _ _ _ _ _ => (pv 5)))
      (pss_one (ps_if (pt_cmpR op_ne (pe_lenSetB rfl rfl T.b_len rfl T.b_set (pe_lc (own := [("_law_one", 5)]) (g := (gName 5)) (tt := tYes) rfl nd (pi_list (pv 4)) (blkOk_by (by rfl)) (fun _ _ _ _ _ => (pg_name (i := 5) nd rfl (.inl rfl))) (fun _ _ _ _ _ => pts_nil) (fun _ _ _ _ _ => (pe_cmpR op_eq (pe_mt (ok_R_state_of T) hr (by decide) (pv 0) (pa_cons (pv 5) pa_nil)) pe_str (nomark _))))) pe_int (nomark _)) (pss_one (ps_ret pe_bl)) pss_nil)))))))
      (pss_one (ps_ret pe_bl))), ?_⟩
  have l10 := ag.wo.hN.le
  have hst := cm.wo.at_.is .st _ rfl
  refine ⟨y.B .st, _, hst, trivial, fun od => ?_⟩
  have rgL : RAt K (upd H (y.B .st) (.frz od (.dK (kvS y.w.nl fun n => .str (y.w.st n))))) y.A y.r := cm.rg.frame fr_lock fun b h z => cm.rw b h ⟨.st, _, rfl, z.symm⟩
  have woL : ∀ l o, obW y.B y.w l = some o → l ≠ .st → (upd H (y.B .st) (.frz od (.dK (kvS y.w.nl fun n => .str (y.w.st n))))) (y.B l) = some o := fun l o e n => by
    rw [upd_ne fun z => n (cm.wo.at_.inj _ _ _ _ e rfl z)]
    exact cm.wo.at_.is l o e
  have hwL := woL .w _ rfl (fun z => by cases z)
  have hnL := woL .nd _ rfl (fun z => by cases z)
  have tL : IsPrs (upd H (y.B .st) (.frz od (.dK (kvS y.w.nl fun n => .str (y.w.st n))))) y.w.L := fun e he => by
    rw [upd_ne (ne_of (cm.wo.l e he) hst (by intro q; cases q))]
    exact cm.wo.l e he
  have rdW : ∀ {H' : Hp}, Same (upd H (y.B .st) (.frz od (.dK (kvS y.w.nl fun n => .str (y.w.st n))))) H' → DGet H' (y.B .w) (.str "states") (some (.ref (y.B .st))) ∧ DGet H' (y.B .w) (.str "needs") (some (.ref (y.B .nd))) := fun s =>
    ⟨.inl ⟨_, .inr "states", .inl (s _ _ hwL), rfl, rfl⟩, .inl ⟨_, .inr "needs", .inl (s _ _ hwL), rfl, rfl⟩⟩
  refine ⟨_, rfl, _, _, rfl, (rdW (Same.refl _)).1, y.B .st, od, rfl, .inl ⟨_, upd_same, for_it walk_keysS (fun i σ' H' => ∃ a b c d, σ' = [some (.ref (y.A .p)), some (.ref (y.B .w)), a, b, c, d] ∧ Same (upd H (y.B .st) (.frz od (.dK (kvS y.w.nl fun n => .str (y.w.st n))))) H') ⟨none, none, none, none, rfl, Same.refl _⟩ (fun i σ H' _ ⟨_, _, _, _, _, s⟩ => s _ _ upd_same) ?_ ?_⟩⟩
  · rintro i x σ H2 H3 hi ⟨a, b, c, d1, rfl, s2⟩ ⟨rfl, n, en, rfl⟩
    have nW := List.mem_of_getElem? en
    have nN : n ∈ y.r.N := ag.pm.mem_iff.mpr nW
    refine ⟨_, rfl, _, _, rfl, (rdW s2).2, _, rfl, y.B .nd, y.w.L, y.w.nl, y.r.g.T, n, rfl, s2 _ _ hnL, tL.same s2, ag.wo.hN, nW, fun x hx => (ag.wo.lN x hx).2, ag.wo.lT, fun H4 d ys s4 hd ed ynd yl hy => ?_⟩
    have yN : ∀ m ∈ ys, m ∈ y.r.N := fun m hm => Rc.inN ag.ro ((hy m).mp hm) nN
    have yW : ∀ m ∈ ys, m ∈ y.w.nl := fun m hm => ag.pm.mem_iff.mp (yN m hm)
    have s24 := s2.trans s4
    -- what a ready module depends on is ready
    have up : ∀ a b, y.r.st a = "ready" → Rc y.r.g.T a b → y.r.st b = "ready" := fun a b ha h => h.closed (C := fun m => y.r.st m = "ready") (fun x z hx hz => G.cl x z hx hz) ha
    refine ⟨fun σ' H' => σ' = [some (.ref (y.A .p)), some (.ref (y.B .w)), some (.str n), some (.ref d), c, d1] ∧ Same H4 H', ?_, ?_⟩
    · refine ⟨_, rfl, _, _, rfl, (rdW s24).1, _, rfl, _, _, rfl, dgY (.inr ⟨od, s24 _ _ upd_same⟩) nW, rfl, _, rfl, ?_⟩
      have ed2 : decide (V.str (y.w.st n) = V.str "ready") = decide (y.r.st n = "ready") := decide_eq_decide.mpr ⟨fun z => by rw [← ag.st]; exact V.str.inj z, fun z => by rw [ag.st]; exact congrArg V.str z⟩
      show (if decide (V.str (y.w.st n) = V.str "ready") = true then _ else _)
      rw [ed2]
      by_cases c2 : y.r.st n = "ready"
      · refine ifT (decide_eq_true c2) ?_
        refine ⟨_, rfl, d, rfl, ⟨_, .inl (.inl ed)⟩, fun D hD => lc_same (walk_names (l := ys)) hD (fun H6 s6 => .inl (.inl (s6 _ _ ed))) (fun _ => .bl true) (fun _ => true) ?_ fun H6 s6 e6 => ?_⟩
        · rintro j x H6 H7 hj lc ⟨rfl, m, em, rfl⟩
          have mY := List.mem_of_getElem? em
          have r6 := rgL.same (s24.trans lc.same)
          refine ⟨rfl, _, rfl, _, _, _, rfl, r6.is .p _ rfl, rfl, _, rfl, y.A, y.r, m, rfl, r6, ag.ro, yN m mY, fun H8 s8 => ⟨rfl, lc.yes (by omega) rfl ?_ s8⟩⟩
          rw [up n m c2 ((hy m).mp mY), decide_eq_true rfl]
        · refine ⟨D, (List.range ys.length).map fun _ => true, rfl, .inl (.inl ?_), _, rfl, ?_⟩
          · rw [e6, picks_all, List.map_map]
            rfl
          · have ea : ((List.range ys.length).map fun _ => true).all id = true := List.all_eq_true.mpr fun b hb => by
              obtain ⟨_, _, rfl⟩ := List.mem_map.mp hb
              rfl
            refine ifN (by rw [ea]; rfl) ?_
            exact ⟨rfl, s6⟩
      · exact ifN (decide_eq_false c2) (ifN rfl ⟨rfl, Same.refl _⟩)
    rintro σ' H5 ⟨rfl, s5⟩
    have s25 := s24.trans s5
    have ed5 := s5 _ _ ed
    let pin : Str → Bool := fun m => @decide (Rc y.r.g.T m n) (Classical.propDecidable _)
    have pine : ∀ m, pin m = true ↔ Rc y.r.g.T m n := fun m => @decide_eq_true_iff (Rc y.r.g.T m n) (Classical.propDecidable _)
    refine ⟨fun σ' H' => ∃ g d2, σ' = [some (.ref (y.A .p)), some (.ref (y.B .w)), some (.str n), some (.ref d), some (.ref g), d2] ∧ Same H5 H' ∧ H' g = some (.lst ((ys.filter pin).map V.str)), ?_, ?_⟩
    · refine ⟨_, rfl, d, rfl, ⟨_, .inl (.inl ed5)⟩, fun D hD => lc_same (walk_names (l := ys)) hD (fun H6 s6 => .inl (.inl (s6 _ _ ed5))) (fun i => .str (ys.getD i "")) (fun i => pin (ys.getD i "")) ?_ fun H6 s6 e6 => ?_⟩
      · rintro j x H6 H7 hj lc ⟨rfl, m, em, rfl⟩
        have eY : ys.getD j "" = m := by rw [List.getD_eq_getElem?_getD, em]; rfl
        have mY := List.mem_of_getElem? em
        have s26 := s25.trans lc.same
        refine ⟨rfl, _, rfl, _, rfl, _, _, rfl, (rdW s26).2, _, rfl, y.B .nd, y.w.L, y.w.nl, y.r.g.T, m, rfl, s26 _ _ hnL, tL.same s26, ag.wo.hN, yW m mY, fun x hx => (ag.wo.lN x hx).2, ag.wo.lT, fun H8 d8 zs s8 hd8 ed8 _ _ hz => ?_⟩
        refine ⟨d8, _, rfl, .inl (.inl (.inl ed8)), rfl, flat_strs zs, _, rfl, ?_⟩
        show (if inV (V.str n) (zs.map V.str) = true then _ else _)
        rw [inV_strs]
        by_cases c3 : n ∈ zs
        · exact ifT (decide_eq_true c3) ⟨_, rfl, lc.yes (by omega) (by rw [eY]; exact (pine m).mpr ((hz n).mp c3)) (by rw [eY]) s8⟩
        · exact ifN (decide_eq_false c3) (lc.no (by omega) (by rw [eY]; exact Bool.eq_false_iff.mpr fun z => c3 ((hz n).mpr ((pine m).mp z))) s8)
      · refine ⟨D, d1, rfl, s6, ?_⟩
        rw [e6, picks_list (l := ys) (g := V.str) (q := pin) fun i x e => ?_]
        have eY : ys.getD i "" = x := by rw [List.getD_eq_getElem?_getD, e]; rfl
        show V.str (ys.getD i "") = V.str x ∧ pin (ys.getD i "") = pin x
        rw [eY]
        exact ⟨rfl, rfl⟩
    rintro σ' H6 ⟨g, d2, rfl, s6, eg⟩
    generalize hgs : ys.filter pin = gs at eg
    have gsm : ∀ m, m ∈ gs ↔ m ∈ ys ∧ Rc y.r.g.T m n := fun m => by rw [← hgs, List.mem_filter, pine]
    have gl : gs.length ≤ 10 := by
      rw [← hgs]
      exact Nat.le_trans (List.length_filter_le _ _) yl
    have ng : n ∈ gs := (gsm n).mpr ⟨(hy n).mpr .refl, .refl⟩
    have g0 : 0 < gs.length := List.length_pos_of_mem ng
    have alike : ∀ m ∈ gs, decide (y.r.st m = "ready") = decide (y.r.st n = "ready") := fun m hm => by
      obtain ⟨h1, h2⟩ := (gsm m).mp hm
      exact decide_eq_decide.mpr ⟨fun z => up m n z h2, fun z => up n m z ((hy m).mp h1)⟩
    have s26 := s25.trans s6
    refine ⟨_, rfl, g, rfl, ⟨_, .inl (.inl eg)⟩, fun D hD => lc_same (walk_names (l := gs)) hD (fun H7 s7 => .inl (.inl (s7 _ _ eg))) (fun _ => .bl (decide (y.r.st n = "ready"))) (fun _ => true) ?_ fun H7 s7 e7 => ?_⟩
    · rintro j x H7 H8 hj lc ⟨rfl, m, em, rfl⟩
      have mG := List.mem_of_getElem? em
      have r7 := rgL.same (s26.trans lc.same)
      refine ⟨rfl, _, rfl, _, _, _, rfl, r7.is .p _ rfl, rfl, _, rfl, y.A, y.r, m, rfl, r7, ag.ro, yN m ((gsm m).mp mG).1, fun H9 s9 => ⟨rfl, lc.yes (by omega) rfl ?_ s9⟩⟩
      rw [← alike m mG]
      exact congrArg V.bl (decide_eq_decide.mpr ⟨V.str.inj, congrArg V.str⟩)
    · let bs : List Bool := (List.range gs.length).map fun _ => decide (y.r.st n = "ready")
      have lb : bs.length = gs.length := by
        show ((List.range gs.length).map _).length = _
        rw [List.length_map, List.length_range]
      have bat : ∀ i, i < bs.length → bAt bs i = decide (y.r.st n = "ready") := fun i hi => by
        unfold bAt
        rw [List.getD_eq_getElem?_getD, List.getElem?_map, List.getElem?_range (by omega)]
        rfl
      refine ⟨D, bs, rfl, .inl (.inl ?_), by omega, rfl, _, rfl, ?_⟩
      · rw [e7, picks_all, List.map_map]
        rfl
      · have one : sz (bAt bs) bs.length = 1 := by
          obtain ⟨k, hk⟩ : ∃ k, bs.length = k + 1 := ⟨bs.length - 1, by omega⟩
          rw [hk]
          exact sz_one (n := bs.length) (fun i hi => by rw [bat i hi, bat 0 (by omega)]) k (by omega)
        refine ifN ?_ ⟨_, _, _, _, rfl, s26.trans s7⟩
        rw [one]
        rfl
  · rintro σ H2 ⟨a, b, c, d, rfl, s2⟩
    obtain ⟨u1, u2⟩ := unlock hst s2
    exact ⟨u1, q _ u2⟩
end
end Cy
end

section
set_option maxHeartbeats 4000000
/-! The law's own defs, fifth part: a turn. -/
namespace Cy
open PySem PySem.Spec PyProof.Rows
open L2 hiding St
theorem AnsIs.eq {st : Str → Str} {P : List Pr} {T : Str → List Str} {s t v v' : Str} (a : AnsIs st P T s t v) (b : AnsIs st P T s t v') : v = v' := by
  cases a with
  | ready h =>
    cases b with
    | ready _ => rfl
    | early h' _ => exact absurd h h'
    | wait h' _ => exact absurd h h'
  | early h e =>
    cases b with
    | ready h' => exact absurd h' h
    | early _ _ => rfl
    | wait _ e' => exact absurd e e'
  | wait h e =>
    cases b with
    | ready h' => exact absurd h' h
    | early _ e' => exact absurd e' e
    | wait _ _ => rfl
theorem Agree.asked {y : Sy} (ag : Agree y) {s : Option Str} {t : Str} {A' : RR → Addr} {B' : WR → Addr} {w' : Wd} (ht : t ∈ y.r.N) (hs : ∀ x, s = some x → x ∈ y.r.N ∧ y.r.st x = "running") (h1 : w'.nl = y.w.nl) (h2 : w'.exs = y.w.exs)
    (h3 : w'.st = (if y.w.st t = "new" then setS y.w.st t "running" else y.w.st)) (h4 : w'.EL = y.w.EL) (h5 : (w'.L.map (·.2)).Nodup) (h6 : ∀ q, q ∈ w'.L.map (·.2) ↔ q ∈ y.w.L.map (·.2) ∨ (s = some q.1 ∧ q.2 = t)) (h7 : w'.re.length ≤ 1000) :
    Agree { y with A := A', r := y.r.req s t, B := B', w := w' } := by
  have tw : t ∈ y.w.nl := ag.pm.mem_iff.mp ht
  refine ⟨⟨ag.ro.hN, ?_, ag.ro.el, ag.ro.pn, ag.ro.pl⟩, ⟨?_, ?_, h5, fun q hq => ?_, fun a b => ?_, ?_, ?_, h7⟩, ?_, ag.so, ?_, ?_, ?_, ag.kn, fun n hn => ?_⟩
  · show GrOk y.r.N (gReq y.r.g s t)
    cases s with
    | none => exact ag.ro.gok
    | some s => exact ag.ro.gok.rcd (hs s rfl).1 ht
  · show Nms w'.nl
    rw [h1]; exact ag.wo.hN
  · show ∀ n, (w'.exs n).length ≤ 1
    rw [h2]; exact ag.wo.el
  · show q.1 ∈ w'.nl ∧ q.2 ∈ w'.nl
    rw [h1]
    rcases (h6 q).mp hq with z | ⟨z, e⟩
    · exact ag.wo.lN q z
    · exact ⟨ag.pm.mem_iff.mp (hs q.1 z).1, by rw [e]; exact tw⟩
  · show (a, b) ∈ w'.L.map (·.2) ↔ b ∈ (y.r.req s t).g.T a
    rw [h6, req_T, ag.wo.lT]
  · show (w'.EL.map (·.2)).Nodup
    rw [h4]; exact ag.wo.en
  · show ∀ q ∈ w'.EL.map (·.2), q.1 ∈ w'.nl ∧ q.2 ∈ w'.nl
    rw [h4, h1]; exact ag.wo.eN
  · show y.r.N.Perm w'.nl
    rw [h1]; exact ag.pm
  · show w'.st = (if y.r.st t = "new" then setS y.r.st t "running" else y.r.st)
    rw [h3, ag.st]
  · show w'.exs = y.r.exs
    rw [h2, ag.exs]
  · show w'.EL.map (·.2) = y.r.P
    rw [h4, ag.P]
  · obtain ⟨n1, n2, n3⟩ := ag.kr n hn
    refine ⟨n1, ?_, n3⟩
    show (y.r.req s t).st n = "ready"
    rw [req_st, if_neg fun z => s_ny (z.2.symm.trans (z.1 ▸ n2))]
    exact n2
theorem Agree.taken {y : Sy} (ag : Agree y) {s t : Str} {A' : RR → Addr} {B' : WR → Addr} {r' : Rg} {w' : Wd} (hs : s ∈ y.r.N) (ht : t ∈ y.r.N) {v : Str} (r1 : v = "early" → r' = { y.r with P := addP y.r.P (s, t) }) (r2 : v ≠ "early" → r' = y.r)
    (h1 : w'.nl = y.w.nl) (h2 : w'.exs = y.w.exs) (h3 : w'.st = y.w.st) (h4 : w'.L = y.w.L) (h5 : w'.re = y.w.re) (h6 : v = "early" → w'.EL.map (·.2) = addP (y.w.EL.map (·.2)) (s, t)) (h7 : v ≠ "early" → w'.EL = y.w.EL) :
    Agree { y with A := A', r := r', B := B', w := w' } ∧ r'.N = y.r.N ∧ r'.st = y.r.st ∧ r'.g = y.r.g ∧ r'.exs = y.r.exs := by
  have hP : ∃ P, r' = { y.r with P := P } ∧ w'.EL.map (·.2) = P ∧ P.Nodup ∧ ∀ q ∈ P, q.1 ∈ y.w.nl ∧ q.2 ∈ y.w.nl := by
    by_cases c : v = "early"
    · refine ⟨_, r1 c, (h6 c).trans (by rw [ag.P]), ?_, fun q hq => ?_⟩
      · unfold addP
        split
        · exact ag.ro.pn
        · rename_i c2
          exact List.nodup_append.mpr ⟨ag.ro.pn, by simp, fun a ha b hb z => c2 (by rw [← List.mem_singleton.mp hb, ← z]; exact ha)⟩
      · have : q ∈ y.r.P ∨ q = (s, t) := by
          unfold addP at hq
          split at hq
          · exact .inl hq
          · exact (List.mem_append.mp hq).imp id List.mem_singleton.mp
        rcases this with z | z
        · rw [← ag.P] at z
          exact ag.wo.eN q z
        · rw [z]
          exact ⟨ag.pm.mem_iff.mp hs, ag.pm.mem_iff.mp ht⟩
    · refine ⟨y.r.P, r2 c, by rw [h7 c]; exact ag.P, ag.ro.pn, fun q hq => ?_⟩
      rw [← ag.P] at hq
      exact ag.wo.eN q hq
  obtain ⟨P, rfl, hE, nP, mP⟩ := hP
  refine ⟨⟨⟨ag.ro.hN, ag.ro.gok, ag.ro.el, nP, prs_len ag.wo.hN.le nP mP⟩, ⟨?_, ?_, ?_, ?_, ?_, ?_, ?_, ?_⟩, ?_, ag.so, ?_, ?_, hE, ag.kn, ag.kr⟩, rfl, rfl, rfl, rfl⟩
  · show Nms w'.nl
    rw [h1]; exact ag.wo.hN
  · show ∀ n, (w'.exs n).length ≤ 1
    rw [h2]; exact ag.wo.el
  · show (w'.L.map (·.2)).Nodup
    rw [h4]; exact ag.wo.ln
  · show ∀ q ∈ w'.L.map (·.2), q.1 ∈ w'.nl ∧ q.2 ∈ w'.nl
    rw [h4, h1]; exact ag.wo.lN
  · show ∀ a b, (a, b) ∈ w'.L.map (·.2) ↔ b ∈ y.r.g.T a
    rw [h4]; exact ag.wo.lT
  · show (w'.EL.map (·.2)).Nodup
    rw [hE]; exact nP
  · show ∀ q ∈ w'.EL.map (·.2), q.1 ∈ w'.nl ∧ q.2 ∈ w'.nl
    rw [hE, h1]; exact mP
  · show w'.re.length ≤ 1000
    rw [h5]; exact ag.wo.rl
  · show y.r.N.Perm w'.nl
    rw [h1]; exact ag.pm
  · show w'.st = y.r.st
    rw [h3]; exact ag.st
  · show w'.exs = y.r.exs
    rw [h2]; exact ag.exs
def spNeeded (K : PySem.W.Frag) : Sp := fun vs H Q _ => ∃ (y : Sy) (rl : Addr) (rs : List Str), vs = [.ref y.p, .ref (y.A .p), .ref (y.B .w), .ref rl] ∧ Cm K H y ∧ Agree y ∧ Good y.r ∧ y.w.re.length ≤ 900 ∧ H rl = some (.lst (rs.map V.str)) ∧ rs ≠ [] ∧ rs.length ≤ 10 ∧ rl ≠ y.p ∧ (∀ n ∈ rs, n ∈ y.r.N ∧ y.r.st n = "running") ∧
  ∀ H' (y' : Sy), Cm K H' y' → Agree y' → Good y'.r → y'.p = y.p → y'.A .p = y.A .p → y'.B .w = y.B .w → y'.C .k = y.C .k → y'.r.N = y.r.N → y'.w.nl = y.w.nl → y'.w.re.length ≤ y.w.re.length + 1 → Fr (CFp K y) (CFp K y') H H' → Q (.bl true) H'
section
variable {P : Program} {w : World} {K : PySem.W.Frag} {mg : Str → Option Value} {base : Heap}
theorem ok_needed (T : Tx K mg) : Cal P w K mg base 7 "_law_needed" (spNeeded K) := by
  have sc : FnScope ["_law_pot_here", "_law_registry", "_law_world_here", "_law_running", "_law_source", "_law_target", "_law_answer_here"] ["_law_pot_here", "_law_registry", "_law_world_here", "_law_running"] (defScope s__law_needed) := ⟨rfl, rfl, rfl, by decide +kernel, rfl, by decide +kernel, by decide +kernel⟩
  have nd := sc.nd
  refine cal_of T.f__law_needed T.g__law_needed sc (fun z F => F.bindsN fun _ _ _ _ _ _ us hl => match us, hl with | [_, _, _, _], _ => rfl) (fun vs H Q E h => ?_) fun cdv A outer sh H vs Q E hr h => ?_
  · obtain ⟨y, rl, rs, rfl, _⟩ := h
    rfl
  obtain ⟨y, rl, rs, rfl, cm, ag, G, lre, hrl, ne, lrs, nrp, hrs, q⟩ := h
  refine ⟨_, (C8.pss_cut (ps_par (i := 4) (j := 5) rfl nd rfl rfl (by decide) rfl rfl (pa_cons (pe_c (ok_choice T) hr (by decide) rfl (pa_cons (pv 0) (pa_cons (pv 3) pa_nil))) (pa_cons (pe_c (ok_choice T) hr (by decide) rfl (pa_cons (pv 0) (pa_cons (pe_callTy (call_listD rfl) rfl T.b_list (by decide +kernel) (pa_cons (pe_dget (hu hr) (pv 2) pe_str (fun _ _ => rfl)) pa_nil)) pa_nil))) pa_nil)) (by rfl))
      (C8.pss_cut (ps_if (pt_cmpR op_ne (pe_callB call_reprB rfl T.b_repr (by decide +kernel) (pa_cons (pe_mt (ok_R_request T) hr (by decide) (pv 1) (pa_cons (pv 4) (pa_cons (pv 5) pa_nil))) pa_nil)) (pe_callB call_reprB rfl T.b_repr (by decide +kernel) (pa_cons (pe_c (ok_asked T) hr (by decide) rfl (pa_cons (pv 2) (pa_cons (pv 4) (pa_cons (pv 5) pa_nil)))) pa_nil)) (nomark _)) (pss_one (ps_ret pe_bl)) pss_nil)
      (pss_cons (ps_set (i := 6) nd rfl (.inl rfl) (pe_c (ok_answer T) hr (by decide) rfl (pa_cons (pv 2) (pa_cons (pv 4) (pa_cons (pv 5) pa_nil)))))
      (pss_cons (ps_if (pt_cmpR op_ne (pv 6) (pe_mt (ok_R_answer T) hr (by decide) (pv 1) (pa_cons (pv 4) (pa_cons (pv 5) pa_nil))) (nomark _)) (pss_one (ps_ret pe_bl)) pss_nil)
      (pss_cons (ps_if (PW.pt (pw_and (pt_cmpR op_ne (pv 6) pe_str (nomark _)) (pw_and1 (pt_cmpR op_gt (pe_c (ok_draw T) hr (by decide) rfl (pa_cons (pv 0) (pa_cons pe_int pa_nil))) pe_int (nomark _))))) (pss_one (ps_ret (pe_cmpR op_eq (pe_mt (ok_R_access T) hr (by decide) (pv 1) (pa_cons (pv 4) (pa_cons (pv 5) pa_nil))) (pe_c (ok_taken T) hr (by decide) rfl (pa_cons (pv 2) (pa_cons (pv 4) (pa_cons (pv 5) pa_nil)))) (nomark _)))) pss_nil)
      (pss_one (ps_ret pe_bl))))))), ?_⟩
  obtain ⟨a0, b0, po⟩ := cm.po
  -- source and target are drawn
  refine ⟨fun σ' H' => ∃ s t, σ' = [some (.ref y.p), some (.ref (y.A .p)), some (.ref (y.B .w)), some (.ref rl), some (.str s), some (.str t), none] ∧ s ∈ y.r.N ∧ y.r.st s = "running" ∧ t ∈ y.r.N ∧ Cm K H' y ∧ Fr (CFp K y) (CFp K y) H H', ?_, ?_⟩
  · refine ⟨_, rfl, _, rfl, y.p, rl, a0, b0, rs.map V.str, rfl, po, hrl, fun z => ne (List.map_eq_nil_iff.mp z), by rw [List.length_map]; omega, nrp, fun H1 a1 b1 v1 hv1 f1 p1 => ?_⟩
    obtain ⟨s, hs, rfl⟩ := List.mem_map.mp hv1
    obtain ⟨c1, k1⟩ := cm.pot p1 f1
    refine ⟨_, rfl, _, rfl, _, _, rfl, .inl ⟨_, .inr "states", .inl (c1.wo.at_.is .w _ rfl), rfl, rfl⟩, y.B .st, _, rfl, .inl (c1.wo.at_.is .st _ rfl), fun l hl => ?_⟩
    have c2 := c1.same (sameNew (o := .lst ((kvS y.w.nl fun n => .str (y.w.st n)).map fun kv => kV kv.1)) hl)
    have nlp := p1.fresh hl
    have l10 := ag.wo.hN.le
    have ne2 : y.w.nl ≠ [] := fun z => by
      have := ag.pm.mem_iff.mp (hrs s hs).1
      rw [z] at this
      cases this
    refine ⟨y.p, l, a1, b1, y.w.nl.map V.str, rfl, p1.same (sameNew hl), by rw [upd_same, kvS_kV], fun z => ne2 (List.map_eq_nil_iff.mp z), by rw [List.length_map]; omega, nlp, fun H3 a3 b3 v3 hv3 f3 p3 => ?_⟩
    obtain ⟨t, ht, rfl⟩ := List.mem_map.mp hv3
    obtain ⟨c3, k3⟩ := c2.pot p3 f3
    exact ⟨_, _, rfl, s, t, rfl, (hrs s hs).1, (hrs s hs).2, ag.pm.mem_iff.mpr ht, c3, (k1.trans (frC_same (sameNew hl))).trans k3⟩
  rintro σ' H1 ⟨s, t, rfl, hs, hsr, ht, c1, k1⟩
  have sw : s ∈ y.w.nl := ag.pm.mem_iff.mp hs
  have tw : t ∈ y.w.nl := ag.pm.mem_iff.mp ht
  have hsx : ∀ x, some s = some x → x ∈ y.r.N ∧ y.r.st x = "running" := fun x e => by cases e; exact ⟨hs, hsr⟩
  refine ⟨fun σ' H' => ∃ A' B' w', σ' = [some (.ref y.p), some (.ref (y.A .p)), some (.ref (y.B .w)), some (.ref rl), some (.str s), some (.str t), none] ∧ Cm K H' { y with A := A', r := y.r.req (some s) t, B := B', w := w' } ∧ Agree { y with A := A', r := y.r.req (some s) t, B := B', w := w' } ∧
    A' .p = y.A .p ∧ B' .w = y.B .w ∧ w'.nl = y.w.nl ∧ w'.re.length ≤ y.w.re.length + 1 ∧ Fr (CFp K y) (CFp K { y with A := A', r := y.r.req (some s) t, B := B', w := w' }) H H', ?_, ?_⟩
  · refine ⟨_, rfl, _, _, _, rfl, c1.rg.is .p _ rfl, rfl, _, rfl, _, rfl, y.A, y.r, some s, t, rfl, c1.rg, ag.ro, ht, hsx, fun H2 A2 r2 e2 f2 => ⟨_, rfl, ?_⟩⟩
    obtain ⟨c2, k2⟩ := c1.reg r2 f2
    refine ⟨_, rfl, _, rfl, _, rfl, y.B, y.w, y.r.g.T, some s, t, rfl, c2.wo, ag.wo, tw, (fun x e => by cases e; exact sw), fun H3 B3 w3 a3 e3 f3 g1 g2 g3 g4 g5 g6 g7 => ⟨_, rfl, ?_⟩⟩
    obtain ⟨c3, k3⟩ := c2.wor a3 f3
    have eb : decide (y.w.st t = "new") = decide (y.r.st t = "new") := by rw [ag.st]
    rw [eb]
    refine ⟨rfl, _, rfl, ifN (by rw [decide_eq_true rfl]; rfl) ?_⟩
    exact ⟨A2, B3, w3, rfl, c3, ag.asked ht hsx g1 g2 g3 g4 g5 g6 (by omega), e2, e3, g1, g7, (k1.trans k2).trans k3⟩
  rintro σ' H3 ⟨A2, B3, w3, rfl, c3, ag3, eA, eB, enl, ere, k3⟩
  have G3 : Good (y.r.req (some s) t) := G.req fun x e => (hsx x e).2
  generalize hr3 : y.r.req (some s) t = r3 at *
  have rN : r3.N = y.r.N := by rw [← hr3]; rfl
  have hs3 : s ∈ r3.N := by rw [rN]; exact hs
  have ht3 : t ∈ r3.N := by rw [rN]; exact ht
  have hsr3 : r3.st s = "running" := by
    rw [← hr3, req_st]
    split
    · rfl
    · exact hsr
  have tT3 : t ∈ r3.g.T s := by rw [← hr3]; exact req_T.mpr (.inr ⟨rfl, rfl⟩)
  have nf3 : r3.st t ≠ "failed" := fun z => by
    rcases G3.s4 t ht3 with e | e | e | e
    · exact absurd (e.symm.trans z) (by decide +kernel)
    · exact absurd (e.symm.trans z) (by decide +kernel)
    · exact absurd (e.symm.trans z) (by decide +kernel)
    · exact absurd (e.symm.trans z) (by decide +kernel)
  have sw3 : s ∈ w3.nl := by rw [enl]; exact sw
  have tw3 : t ∈ w3.nl := by rw [enl]; exact tw
  have est : w3.st = r3.st := ag3.st
  have eP : w3.EL.map (·.2) = r3.P := ag3.P
  have nfw : w3.st t ≠ "failed" := by rw [est]; exact nf3
  rw [← eA, ← eB]
  refine ⟨_, rfl, _, rfl, _, rfl, B3, w3, r3.g.T, s, t, rfl, c3.wo, ag3.wo, sw3, tw3, nfw, fun H4 v s4 av => ?_⟩
  rw [est, eP] at av
  have c4 := c3.same s4
  refine ⟨_, rfl, _, rfl, _, _, _, rfl, c4.rg.is .p _ rfl, rfl, _, rfl, _, rfl, A2, r3, s, t, rfl, c4.rg, ag3.ro, hs3, hsr3, ht3, nf3, tT3, fun H5 v' s5 av' => ⟨rfl, _, rfl, ?_⟩⟩
  have ev := av.eq av'
  refine ifN (by rw [ev, decide_eq_true rfl]; rfl) ?_
  have c5 := c4.same s5
  have k5 := k3.trans (frC_same (K := K) (y := { y with A := A2, r := r3, B := B3, w := w3 }) (s4.trans s5))
  refine ⟨_, rfl, rfl, _, rfl, ?_⟩
  by_cases cw : v = "wait"
  · refine ifN (by rw [cw, decide_eq_true rfl]; rfl) (ifN rfl ?_)
    exact q H5 { y with A := A2, r := r3, B := B3, w := w3 } c5 ag3 G3 rfl eA eB rfl rN enl ere k5
  · refine ifT (by rw [decide_eq_false fun z => cw (V.str.inj z)]; rfl) ?_
    obtain ⟨a5, b5, p5⟩ := c5.po
    refine ⟨_, rfl, y.p, a5, b5, 4, rfl, p5, by decide, by decide, fun H6 a6 b6 d h0 h1 f6 p6 => ⟨_, _, rfl, rfl, _, rfl, ?_⟩⟩
    obtain ⟨c6, k6⟩ := c5.pot p6 f6
    have k56 := k5.trans k6
    by_cases cd : 0 < d
    · refine ifT (decide_eq_true cd) ?_
      have nw : ¬ AnsIs r3.st r3.P r3.g.T s t "wait" := fun z => cw (av.eq z)
      refine ⟨_, rfl, _, _, _, rfl, c6.rg.is .p _ rfl, rfl, _, rfl, _, rfl, A2, r3, s, t, rfl, c6.rg, ag3.ro, ag3.ro.pl, hs3, hsr3, ht3, nf3, tT3, nw, fun H7 A7 v7 r7 r7at e7 f7 av7 g1 g2 => ?_⟩
      obtain ⟨c7, k7⟩ := c6.reg r7at f7
      refine ⟨_, rfl, _, rfl, _, rfl, B3, w3, r3.g.T, s, t, rfl, c7.wo, ag3.wo, sw3, tw3, nfw, fun H8 B8 w8 v8 a8 e8 f8 av8 j1 j2 j3 j4 j5 j6 j7 => ⟨rfl, ?_⟩⟩
      obtain ⟨c8, k8⟩ := c7.wor a8 f8
      rw [est, eP] at av8
      have e78 : v7 = v8 := av7.eq av8
      subst e78
      obtain ⟨ag8, n1, n2, n3, n4⟩ := Agree.taken (A' := A7) (B' := B8) ag3 hs3 ht3 g1 g2 j1 j2 j3 j4 j5 (fun z => j6 z) j7
      have G8 : Good r7 := ⟨fun n hn => by rw [n2]; exact G3.s4 n (by rw [← n1]; exact hn), fun n hn h => by rw [n2] at h; rw [n4]; exact G3.ex0 n (by rw [← n1]; exact hn) h, fun a b ha hb => by rw [n2] at ha ⊢; rw [n3] at hb; exact G3.cl a b ha hb,
        fun a haN ha => by rw [n2] at ha ⊢; rw [n3]; exact G3.dn a (by rw [← n1]; exact haN) ha, fun a b hb => by rw [n2]; rw [n3] at hb; exact G3.nn a b hb⟩
      rw [decide_eq_true rfl]
      exact q H8 { y with A := A7, r := r7, B := B8, w := w8 } c8 ag8 G8 rfl (e7.trans eA) (e8.trans eB) rfl (n1.trans rN) (j1.trans enl) (by show w8.re.length ≤ _; rw [j5]; exact ere) ((k56.trans k7).trans k8)
    · refine ifN (decide_eq_false cd) ?_
      exact q H6 { y with A := A2, r := r3, B := B3, w := w3 } c6 ag3 G3 rfl eA eB rfl rN enl ere k56
end
end Cy
end

section
set_option maxHeartbeats 4000000
/-! The law's own defs, sixth part: a module ends. -/
namespace Cy
open PySem PySem.Spec PyProof.Rows
open L2 hiding St
/-! ### sorted names -/
theorem rising_pw : ∀ (r : List Str) (p : Str), risingS p r = true → (p :: r).Pairwise fun a b => ¬ cps b < cps a
  | [], p, _ => List.pairwise_singleton _ _
  | x :: r, p, h => by
    have h : (!ltCps x.cps.toList p.cps.toList && risingS x r) = true := h
    rw [Bool.and_eq_true, ltCps_eq] at h
    have h1 : ¬ cps x < cps p := by
      have z := h.1
      rw [Bool.not_eq_true', decide_eq_false_iff_not] at z
      exact z
    have ih := rising_pw r x h.2
    refine List.pairwise_cons.mpr ⟨fun y hy => ?_, ih⟩
    rcases List.mem_cons.mp hy with rfl | hy
    · exact h1
    · have h2 := (List.pairwise_cons.mp ih).1 y hy
      exact fun z => h1 (List.lt_of_le_of_lt (List.not_lt.mp h2) z)
theorem sortedS_pw : ∀ {l : List Str}, sortedS l = true → l.Pairwise fun a b => ¬ cps b < cps a
  | [], _ => .nil
  | x :: r, h => rising_pw r x h
theorem sortedS_eq : ∀ {l m : List Str}, (l.Pairwise fun a b => ¬ cps b < cps a) → (m.Pairwise fun a b => ¬ cps b < cps a) → l.Perm m → l = m
  | [], m, _, _, h => h.nil_eq
  | p :: l, [], _, _, h => absurd h.length_eq (by simp)
  | p :: l, q :: m, hl, hm, h => by
    obtain ⟨a1, a2⟩ := List.pairwise_cons.mp hl
    obtain ⟨b1, b2⟩ := List.pairwise_cons.mp hm
    have e : p = q := by
      rcases List.mem_cons.mp (h.mem_iff.mp (List.mem_cons_self (a := p) (l := l))) with e | e
      · exact e
      · rcases List.mem_cons.mp (h.mem_iff.mpr (List.mem_cons_self (a := q) (l := m))) with e2 | e2
        · exact e2.symm
        · exact cps_inj (lt_total (b1 p e) (a1 q e2))
    subst e
    rw [sortedS_eq a2 b2 ((List.perm_cons p).mp h)]
/-! ### repr of names -/
theorem shown_nm {K : PySem.W.Frag} {l : List Str} (h : ∀ n ∈ l, isNm n) (hl : l.length ≤ 10) : (shownL l).length ≤ sizeLine := by
  refine PyData.shown_fits_of_layable0 (B := 8) (by decide) (by decide) ?_ ?_
  · have w : ∀ m : List Str, (∀ n ∈ m, isNm n) → PyData.weightAll (m.map PyData.str) ≤ 9 * m.length := by
      intro m
      induction m with
      | nil => intro _; simp [PyData.weightAll]
      | cons x m ih =>
        intro hm
        have := ih fun n hn => hm n (List.mem_cons_of_mem _ hn)
        have hx := (hm x List.mem_cons_self).2.1
        have hx : x.cps.size ≤ 8 := hx
        simp only [List.map_cons, PyData.weightAll, PyData.weight, List.length_cons]
        omega
    have w2 := w l h
    have sh := shaped_strs h
    unfold SeqAt.shaped at sh
    unfold PyData.layable0
    rw [sh, Bool.true_and, decide_eq_true_eq]
    show PyData.weightAll (l.map PyData.str) ≤ 2 ^ 20
    omega
  · show PyData.intsShortAll 8 (l.map PyData.str) = true
    exact PyData.intsShortAll_strs 8 l
def setC (C : KR → Addr) (n : Str) (p : Addr) : KR → Addr
  | .k => C .k
  | .c m => if m = n then p else C (.c m)
theorem keep_one {H : Hp} {C : KR → Addr} {kl : List Str} {ks ks' : Str → List (Str × Int)} {n : Str} {p : Addr} (a : At H C (obK C kl ks)) (hn : n ∉ kl) (hp : H p = none) (hk : ∀ m ∈ kl, ks' m = ks m) :
    At (upd (upd H p (.dK (exK (ks' n)))) (C .k) (.dK (putK (kvS kl fun m => .ref (C (.c m))) (.inr n) (.ref p)))) (setC C n p) (obK (setC C n p) (kl ++ [n]) ks') ∧
      Fr (KFp C kl ks) (KFp (setC C n p) (kl ++ [n]) ks') H (upd (upd H p (.dK (exK (ks' n)))) (C .k) (.dK (putK (kvS kl fun m => .ref (C (.c m))) (.inr n) (.ref p)))) := by
  refine a.new (l0 := .k) (l1 := .c n) rfl (fun z => by cases z) hp ?_ ?_ (fun _ z => by cases z) (fun _ z => by cases z) (fun m h0 h1 => ?_) (if_pos rfl) fun m h1 => ?_
  · show (if n ∈ kl ++ [n] then some (HO.dK (exK (ks' n))) else none) = _
    rw [if_pos (by simp)]
  · rw [putK_new _ (kvS_no hn)]
    show some (HO.dK (kvS (kl ++ [n]) fun m => .ref (setC C n p (.c m)))) = _
    rw [kvS_app]
    congr 2
    have z : kvS kl (fun m => V.ref (setC C n p (.c m))) = kvS kl fun m => .ref (C (.c m)) := kvS_congr fun m hm => by
      show V.ref (if m = n then p else C (.c m)) = _
      rw [if_neg (fun (z : m = n) => hn (by rw [← z]; exact hm))]
    rw [z]
    congr 1
    show [((Sum.inr n : Key), V.ref (if n = n then p else C (.c n)))] = _
    rw [if_pos rfl]
  · cases m with
    | k => exact absurd rfl h0
    | c m =>
      have hm : m ≠ n := fun z => h1 (by rw [z])
      show (if m ∈ kl ++ [n] then some (HO.dK (exK (ks' m))) else none) = if m ∈ kl then some (HO.dK (exK (ks m))) else none
      by_cases c : m ∈ kl
      · rw [if_pos c, if_pos (List.mem_append_left _ c), hk m c]
      · rw [if_neg c, if_neg fun z => (List.mem_append.mp z).elim c fun z => hm (List.mem_singleton.mp z)]
  · cases m with
    | k => rfl
    | c m => exact if_neg fun z => h1 (by rw [z])
theorem Agree.ended {y : Sy} (ag : Agree y) (G : Good y.r) {m : Str} {ex : List (Str × Int)} {ys : List Str} {p : Str → Bool} {A' : RR → Addr} {B' : WR → Addr} {C' : KR → Addr} {w' : Wd} {kl' : List Str} {ks' : Str → List (Str × Int)} (hm : m ∈ y.r.N) (hr : y.r.st m = "running") (hex : ex.length ≤ 1)
    (hy : ys = y.r.N.filter p) (hp : ∀ n ∈ y.r.N, p n = true ↔ (setS y.r.st m "done" n = "done" ∧ compl (setS y.r.st m "done") y.r.g.T n))
    (h1 : w'.nl = y.w.nl) (h2 : w'.exs = setS y.w.exs m ex) (h3 : w'.L = y.w.L) (h4 : w'.re = y.w.re) (h5 : w'.st = fun n => if n ∈ ys then ("ready" : Str) else setS y.w.st m ("done" : Str) n) (h6 : w'.EL.map (·.2) = (y.w.EL.map (·.2)).filter fun q => decide (q.1 ∉ ys))
    (h7 : kl' = y.kl ++ ys) (h8 : ∀ n ∈ y.kl, ks' n = y.ks n) (h9 : ∀ n ∈ ys, ks' n = setS y.w.exs m ex n) :
    Agree { y with A := A', r := ({ y.r with exs := setS y.r.exs m ex } : Rg).fin m ys, B := B', w := w', C := C', kl := kl', ks := ks' } := by
  have iny : ∀ n, n ∈ ys → n ∈ y.r.N ∧ setS y.r.st m "done" n = "done" := fun n h => by
    rw [hy] at h
    obtain ⟨a, b⟩ := List.mem_filter.mp h
    exact ⟨a, ((hp n a).mp b).1⟩
  have nky : ∀ n ∈ y.kl, n ≠ m ∧ n ∉ ys := fun n hn => by
    obtain ⟨n1, n2, n3⟩ := ag.kr n hn
    have nm : n ≠ m := fun z => s_ry (hr.symm.trans (z ▸ n2))
    refine ⟨nm, fun z => ?_⟩
    have e := (iny n z).2
    rw [setS_ne nm, n2] at e
    exact s_dy e.symm
  have el : ∀ f : Str → List (Str × Int), (∀ n, (f n).length ≤ 1) → ∀ n, (setS f m ex n).length ≤ 1 := fun f hf n => by
    unfold setS
    split
    · exact hex
    · exact hf n
  refine ⟨⟨ag.ro.hN, ag.ro.gok, el _ ag.ro.el, ag.ro.pn.sublist List.filter_sublist, Nat.le_trans (List.length_filter_le _ _) ag.ro.pl⟩, ⟨?_, ?_, ?_, ?_, ?_, ?_, ?_, ?_⟩, ?_, ag.so, ?_, ?_, ?_, ?_, fun n hn => ?_⟩
  · show Nms w'.nl
    rw [h1]; exact ag.wo.hN
  · show ∀ n, (w'.exs n).length ≤ 1
    rw [h2]; exact el _ ag.wo.el
  · show (w'.L.map (·.2)).Nodup
    rw [h3]; exact ag.wo.ln
  · show ∀ q ∈ w'.L.map (·.2), q.1 ∈ w'.nl ∧ q.2 ∈ w'.nl
    rw [h3, h1]; exact ag.wo.lN
  · show ∀ a b, (a, b) ∈ w'.L.map (·.2) ↔ b ∈ y.r.g.T a
    rw [h3]; exact ag.wo.lT
  · show (w'.EL.map (·.2)).Nodup
    rw [h6]; exact ag.wo.en.sublist List.filter_sublist
  · show ∀ q ∈ w'.EL.map (·.2), q.1 ∈ w'.nl ∧ q.2 ∈ w'.nl
    rw [h6, h1]; exact fun q hq => ag.wo.eN q (List.mem_filter.mp hq).1
  · show w'.re.length ≤ 1000
    rw [h4]; exact ag.wo.rl
  · show y.r.N.Perm w'.nl
    rw [h1]; exact ag.pm
  · show w'.st = fun n => if n ∈ ys then ("ready" : Str) else setS y.r.st m ("done" : Str) n
    rw [h5, ag.st]
  · show w'.exs = setS y.r.exs m ex
    rw [h2, ag.exs]
  · show w'.EL.map (·.2) = y.r.P.filter fun q => decide (q.1 ∉ ys)
    rw [h6, ag.P]
  · show kl'.Nodup
    rw [h7]
    refine List.nodup_append.mpr ⟨ag.kn, ?_, fun a ha b hb z => (nky a ha).2 (by rw [z]; exact hb)⟩
    rw [hy]
    exact ag.ro.hN.nd.sublist List.filter_sublist
  · have hn : n ∈ kl' := hn
    rw [h7] at hn
    show n ∈ y.r.N ∧ (if n ∈ ys then ("ready" : Str) else setS y.r.st m "done" n) = "ready" ∧ ks' n = setS y.r.exs m ex n
    rcases List.mem_append.mp hn with z | z
    · obtain ⟨n1, n2, n3⟩ := ag.kr n z
      obtain ⟨k1, k2⟩ := nky n z
      rw [if_neg k2, setS_ne k1, setS_ne k1, h8 n z]
      exact ⟨n1, n2, n3⟩
    · rw [if_pos z, h9 n z, ag.exs]
      exact ⟨(iny n z).1, rfl, rfl⟩
def spEnded (K : PySem.W.Frag) : Sp := fun vs H Q _ => ∃ (y : Sy) (rl : Addr) (rs : List Str), vs = [.ref y.p, .ref (y.A .p), .ref (y.B .w), .ref rl, .ref (y.C .k)] ∧ Cm K H y ∧ Agree y ∧ Good y.r ∧ H rl = some (.lst (rs.map V.str)) ∧ rs ≠ [] ∧ rs.length ≤ 10 ∧ rl ≠ y.p ∧ (∀ n ∈ rs, n ∈ y.r.N ∧ y.r.st n = "running") ∧
  ∀ H' (y' : Sy) (m : Str), Cm K H' y' → Agree y' → Good y'.r → y'.p = y.p → y'.A .p = y.A .p → y'.B .w = y.B .w → y'.C .k = y.C .k → y'.r.N = y.r.N → y'.w.nl = y.w.nl → y'.w.re = y.w.re → Fr (CFp K y) (CFp K y') H H' → m ∈ rs → (∀ n, y'.r.st n = "running" → y.r.st n = "running" ∧ n ≠ m) → Q (.bl true) H'
section
variable {P : Program} {w : World} {K : PySem.W.Frag} {mg : Str → Option Value} {base : Heap}
theorem ok_ended (T : Tx K mg) : ∃ z, FnG P w K mg base 6 (He.ga K "_law_ended") z ["_law_pot_here", "_law_registry", "_law_world_here", "_law_running", "_law_kept"] (spEnded K) ∧ PySem.W.keepIn K (.ref (He.ga K "_law_ended")) = true ∧ Binds K z ["_law_pot_here", "_law_registry", "_law_world_here", "_law_running", "_law_kept"] [] := by
  have sc : FnScope ["_law_pot_here", "_law_registry", "_law_world_here", "_law_running", "_law_kept", "_law_module", "_law_label", "_law_number", "_law_due", "_law_name"] ["_law_pot_here", "_law_registry", "_law_world_here", "_law_running", "_law_kept"] (defScope s__law_ended) := ⟨rfl, rfl, rfl, by decide +kernel, rfl, by decide +kernel, by decide +kernel⟩
  have nd := sc.nd
  obtain ⟨z, F⟩ := T.f__law_ended
  refine ⟨z, fnG_of F sc (fun vs H Q E h => ?_) (fun cdv A outer sh H vs Q E hr hgd h => ?_), F.kp, F.bindsN fun _ _ _ _ _ _ us hl => match us, hl with | [_, _, _, _, _], _ => rfl⟩
  · obtain ⟨y, rl, rs, rfl, _⟩ := h
    rfl
  obtain ⟨y, rl, rs, rfl, cm, ag, G, hrl, ne, lrs, nrp, hrs, q⟩ := h
  refine ⟨_, (C8.pss_cut (ps_par (i := 5) (j := 6) rfl nd rfl rfl (by decide) rfl rfl (pa_cons (pe_c (ok_choice T) hr (by decide) rfl (pa_cons (pv 0) (pa_cons (pv 3) pa_nil))) (pa_cons (pe_c (ok_choice T) hr (by decide) rfl (pa_cons (pv 0) (pa_cons (pe_lst (pa_cons pe_str (pa_cons pe_str (pa_cons pe_str pa_nil)))) pa_nil))) pa_nil)) (by rfl))
      (C8.pss_cut (ps_set (i := 7) nd rfl (.inl rfl) (pe_op op_sub (pe_c (ok_draw T) hr (by decide) rfl (pa_cons (pv 0) (pa_cons (pe_op op_pow pe_int pe_int) pa_nil))) (pe_op op_pow pe_int pe_int)))
      (C8.pss_cut (ps_expr (pe_mt (ok_R_export T) hr (by decide) (pv 1) (pa_cons (pv 5) (pa_cons (pv 6) (pa_cons (pv 7) pa_nil)))))
      (C8.pss_cut (ps_dput (hu hr) (pe_dget (hu hr) (pe_dget (hu hr) (pv 2) pe_str (fun _ _ => rfl)) (pv 5) (fun _ _ => rfl)) (pv 6) (pv 7) rfl)
      (pss_cons (ps_set (i := 8) nd rfl (.inl rfl) (pe_c (ok_finished T) hr (by decide) rfl (pa_cons (pv 2) (pa_cons (pv 5) pa_nil))))
      (C8.pss_cut (ps_for PassesOwn.never rfl (pi_list (pv 8)) (pg_name (i := 9) nd rfl (.inl rfl)) (pss_one (ps_dput (hu hr) (pv 4) (pv 9) (pe_callTy call_dictD rfl T.b_dict (by decide +kernel) (pa_cons (pe_dget (hu hr) (pe_dget (hu hr) (pv 2) pe_str (fun _ _ => rfl)) (pv 9) (fun _ _ => rfl)) pa_nil)) rfl)))
      (pss_one (ps_ret (pe_cmpR op_eq (pe_callB (call_reprL hgd (hu64 hr)) rfl T.b_repr (by decide +kernel) (pa_cons (pe_mt (ok_R_finish T) hr (by decide) (pv 1) (pa_cons (pv 5) pa_nil)) pa_nil)) (pe_callB (call_reprL hgd (hu64 hr)) rfl T.b_repr (by decide +kernel) (pa_cons (pv 8) pa_nil)) (nomark _)))))))))), ?_⟩
  obtain ⟨a0, b0, po⟩ := cm.po
  have sz : ∀ n : Nat, n < 2000 → n < sizeLine := fun n h => by rw [sizeLine_eq]; omega
  have l10 := ag.ro.hN.le
  -- module and label are drawn
  refine ⟨fun σ' H' => ∃ m x, σ' = [some (.ref y.p), some (.ref (y.A .p)), some (.ref (y.B .w)), some (.ref rl), some (.ref (y.C .k)), some (.str m), some (.str x), none, none, none] ∧ m ∈ rs ∧ isNm x ∧ Cm K H' y ∧ Fr (CFp K y) (CFp K y) H H', ?_, ?_⟩
  · refine ⟨_, rfl, _, rfl, y.p, rl, a0, b0, rs.map V.str, rfl, po, hrl, fun z => ne (List.map_eq_nil_iff.mp z), by rw [List.length_map]; omega, nrp, fun H1 a1 b1 v1 hv1 f1 p1 => ?_⟩
    obtain ⟨m, hm, rfl⟩ := List.mem_map.mp hv1
    obtain ⟨c1, k1⟩ := cm.pot p1 f1
    refine ⟨_, rfl, (by rw [sizeLine_eq]; show 3 ≤ _; decide), fun l hl => ?_⟩
    have nlp := p1.fresh hl
    have c2 := c1.same (sameNew (o := .lst [V.str "a", V.str "x", V.str "zz"]) hl)
    refine ⟨y.p, l, a1, b1, [V.str "a", V.str "x", V.str "zz"], rfl, p1.same (sameNew hl), upd_same, List.cons_ne_nil _ _, (by show 3 ≤ 1000; decide), nlp, fun H3 a3 b3 v3 hv3 f3 p3 => ?_⟩
    obtain ⟨c3, k3⟩ := c2.pot p3 f3
    have hx : ∃ x : Str, v3 = .str x ∧ isNm x := by
      have z : ∀ n ∈ ([("a" : Str), "x", "zz"] : List Str), isNm n := by
        intro n hn
        have z : ([("a" : Str), "x", "zz"] : List Str).all (fun n => decide (1 ≤ n.length) && decide (n.length ≤ 8) && n.cps.toList.all fun c => decide (c ∈ letters.cps.toList)) = true := by decide +kernel
        have y := List.all_eq_true.mp z n hn
        simp only [Bool.and_eq_true, decide_eq_true_eq, List.all_eq_true] at y
        exact ⟨y.1.1, y.1.2, y.2⟩
      have hv : v3 ∈ ([("a" : Str), "x", "zz"] : List Str).map V.str := hv3
      obtain ⟨x, hx, rfl⟩ := List.mem_map.mp hv
      exact ⟨x, rfl, z x hx⟩
    obtain ⟨x, rfl, hx⟩ := hx
    exact ⟨_, _, rfl, m, x, rfl, hm, hx, c3, (k1.trans (frC_same (sameNew hl))).trans k3⟩
  rintro σ' H1 ⟨m, x, rfl, hm, hx, c1, k1⟩
  obtain ⟨mN, mr⟩ := hrs m hm
  have mW : m ∈ y.w.nl := ag.pm.mem_iff.mp mN
  -- the number
  refine ⟨fun σ' H' => ∃ i : Int, σ' = [some (.ref y.p), some (.ref (y.A .p)), some (.ref (y.B .w)), some (.ref rl), some (.ref (y.C .k)), some (.str m), some (.str x), some (.int i), none, none] ∧ Cm K H' y ∧ Fr (CFp K y) (CFp K y) H H', ?_, ?_⟩
  · obtain ⟨a1, b1, p1⟩ := c1.po
    refine ⟨_, rfl, _, _, rfl, rfl, ⟨by decide, by decide, by decide⟩, y.p, a1, b1, _, rfl, p1, by decide, by decide, fun H2 a2 b2 d h0 h1 f2 p2 => ?_⟩
    obtain ⟨c2, k2⟩ := c1.pot p2 f2
    exact ⟨_, _, rfl, rfl, ⟨by decide, by decide, by decide⟩, _, _, rfl, rfl, _, rfl, c2, k1.trans k2⟩
  clear c1 k1 H1
  rintro σ' H1 ⟨i, rfl, c1, k1⟩
  let ex : List (Str × Int) := [(x, i)]
  have ex0 : y.r.exs m = [] := G.ex0 m mN (.inr mr)
  -- registry.export
  let r1 : Rg := { y.r with exs := setS y.r.exs m ex }
  refine ⟨fun σ' H' => σ' = [some (.ref y.p), some (.ref (y.A .p)), some (.ref (y.B .w)), some (.ref rl), some (.ref (y.C .k)), some (.str m), some (.str x), some (.int i), none, none] ∧ Cm K H' { y with r := r1 } ∧ Fr (CFp K y) (CFp K { y with r := r1 }) H H', ?_, ?_⟩
  · refine ⟨_, rfl, _, _, _, rfl, c1.rg.is .p _ rfl, rfl, _, rfl, _, rfl, _, rfl, y.A, y.r, m, x, i, rfl, c1.rg, ag.ro, mN, mr, ex0, hx, fun H2 a2 f2 => ?_⟩
    obtain ⟨c2, k2⟩ := c1.reg a2 f2
    exact ⟨rfl, c2, k1.trans k2⟩
  clear c1 k1 H1
  rintro σ' H1 ⟨rfl, c1, k1⟩
  -- the world's export
  let w1 : Wd := { y.w with exs := setS y.w.exs m ex }
  have exw : y.w.exs m = [] := by rw [ag.exs]; exact ex0
  refine ⟨fun σ' H' => σ' = [some (.ref y.p), some (.ref (y.A .p)), some (.ref (y.B .w)), some (.ref rl), some (.ref (y.C .k)), some (.str m), some (.str x), some (.int i), none, none] ∧ Cm K H' { y with r := r1, w := w1 } ∧ Fr (CFp K y) (CFp K { y with r := r1, w := w1 }) H H', ?_, ?_⟩
  · have he := c1.wo.at_.is (.e m) _ (if_pos mW)
    have z := At.putf (ob := obW y.B y.w) (ob' := obW y.B w1) (o' := .dK (putK (exK (y.w.exs m)) (.inr x) (.int i))) c1.wo.at_ (l := .e m) (if_pos mW) ?_ (fun _ z => by cases z) fun l hl => ?_
    · refine ⟨_, rfl, _, rfl, _, _, rfl, .inl ⟨_, .inr "exports", .inl (c1.wo.at_.is .w _ rfl), rfl, rfl⟩, _, rfl, _, _, rfl, dgY (.inl (c1.wo.at_.is .ex _ rfl)) mW, _, rfl, y.B (.e m), _, rfl, .inl ⟨_, .inr x, he, rfl, ?_, rfl⟩, ?_⟩
      · rw [exw, sizeLine_eq]
        show 0 < _
        decide
      · obtain ⟨c2, k2⟩ := c1.wor (c1.wo.keep z.2 z.1 rfl rfl) z.2
        exact ⟨rfl, c2, k1.trans k2⟩
    · show (if m ∈ y.w.nl then some (HO.dK (exK (setS y.w.exs m ex m))) else none) = _
      rw [if_pos mW, setS_same, exw]
      rfl
    · cases l with
      | e n =>
        have hn : n ≠ m := fun z => hl (by rw [z])
        show (if n ∈ y.w.nl then some (HO.dK (exK (setS y.w.exs m ex n))) else none) = _
        rw [setS_ne hn]
        rfl
      | _ => rfl
  clear c1 k1 H1
  rintro σ' H1 ⟨rfl, c1, k1⟩
  have el1 : ∀ f : Str → List (Str × Int), (∀ n, (f n).length ≤ 1) → ∀ n, (setS f m ex n).length ≤ 1 := fun f hf n => by
    unfold setS
    split
    · exact Nat.le_refl 1
    · exact hf n
  have wok : WOk w1 y.r.g.T := ⟨ag.wo.hN, el1 _ ag.wo.el, ag.wo.ln, ag.wo.lN, ag.wo.lT, ag.wo.en, ag.wo.eN, ag.wo.rl⟩
  have rok : ROk r1 := ⟨ag.ro.hN, ag.ro.gok, el1 _ ag.ro.el, ag.ro.pn, ag.ro.pl⟩
  refine ⟨_, rfl, _, rfl, y.B, w1, y.r.g.T, m, rfl, c1.wo, wok, mW, fun H2 B2 w2 l p ys N pm so hy hp a2 e2 f2 g1 g2 g3 g4 g5 g6 hl el nl => ?_⟩
  obtain ⟨c2, k2⟩ := c1.wor a2 f2
  have eN : N = y.r.N := sortedS_eq (sortedS_pw so) (sortedS_pw ag.so) (pm.trans ag.pm.symm)
  rw [eN] at hy
  have hpN : ∀ n ∈ y.r.N, p n = true ↔ (setS y.r.st m "done" n = "done" ∧ compl (setS y.r.st m "done") y.r.g.T n) := fun n hn => by
    have z := hp n (ag.pm.mem_iff.mp hn)
    rw [show w1.st = y.r.st from ag.st] at z
    exact z
  have yN : ∀ n ∈ ys, n ∈ y.r.N := fun n h => by rw [hy] at h; exact (List.mem_filter.mp h).1
  have ynd : ys.Nodup := by rw [hy]; exact ag.ro.hN.nd.sublist List.filter_sublist
  have yl : ys.length ≤ 10 := Nat.le_trans (nodup_len ynd yN) l10
  have nky : ∀ n ∈ y.kl, n ∉ ys := fun n hn z => by
    obtain ⟨n1, n2, n3⟩ := ag.kr n hn
    have nm : n ≠ m := fun z => s_ry (mr.symm.trans (z ▸ n2))
    rw [hy] at z
    have e := ((hpN n n1).mp (List.mem_filter.mp z).2).1
    rw [setS_ne nm, n2] at e
    exact s_dy e.symm
  have k12 := k1.trans k2
  have nlC : ¬ CFp K { y with r := r1, w := w2, B := B2 } l := fun z => by
    rcases z with z | z | z | z
    · exact live c1.rg z hl
    · exact nl z
    · exact live c1.kp z hl
    · exact c1.lp (by rw [← show l = y.p from z]; exact hl)
  -- kept
  let klI : Nat → List Str := fun j => y.kl ++ ys.take j
  let ksI : Nat → Str → List (Str × Int) := fun j n => if n ∈ ys.take j then w2.exs n else y.ks n
  let y2 : Sy := { y with r := r1, w := w2, B := B2 }
  let yj : (KR → Addr) → Nat → Sy := fun C' j => { y with r := r1, w := w2, B := B2, C := C', kl := klI j, ks := ksI j }
  refine ⟨fun σ' H' => ∃ C' v, σ' = [some (.ref y.p), some (.ref (y.A .p)), some (.ref (y.B .w)), some (.ref rl), some (.ref (y.C .k)), some (.str m), some (.str x), some (.int i), some (.ref l), v] ∧ C' .k = y.C .k ∧ Cm K H' (yj C' ys.length) ∧ Fr (CFp K y2) (CFp K (yj C' ys.length)) H2 H', ?_, ?_⟩
  · have e0 : yj y.C 0 = y2 := by
      have a : klI 0 = y.kl := List.append_nil _
      have b : ksI 0 = y.ks := funext fun n => if_neg List.not_mem_nil
      show ({ y with r := r1, w := w2, B := B2, C := y.C, kl := klI 0, ks := ksI 0 } : Sy) = { y with r := r1, w := w2, B := B2 }
      rw [a, b]
    refine ⟨_, rfl, l, rfl, ⟨_, .inl (.inl el)⟩, for_it (walk_names (l := ys)) (fun j σ' H' => ∃ C' v, σ' = [some (.ref y.p), some (.ref (y.A .p)), some (.ref (y.B .w)), some (.ref rl), some (.ref (y.C .k)), some (.str m), some (.str x), some (.int i), some (.ref l), v] ∧ C' .k = y.C .k ∧ Cm K H' (yj C' j) ∧ Fr (CFp K y2) (CFp K (yj C' j)) H2 H')
      ⟨y.C, none, rfl, rfl, by rw [e0]; exact c2, by rw [e0]; exact .of_same (Same.refl _) fun _ z => z⟩ (fun j σ H' _ ⟨_, _, _, _, _, f⟩ => .inl (.inl (f.keep _ _ el nlC))) ?_ ?_⟩
    · rintro j v0 σ H3 H4 hj ⟨C', v, rfl, eC, c3, f3⟩ ⟨rfl, n, en, rfl⟩
      have nY := List.mem_of_getElem? en
      have nW2 : n ∈ w2.nl := by rw [g1]; exact ag.pm.mem_iff.mp (yN n nY)
      have nnew : n ∉ klI j := fun z => by
        rcases List.mem_append.mp z with z | z
        · exact nky n z nY
        · exact take_no ynd en z
      have tk : ys.take (j + 1) = ys.take j ++ [n] := take_at en
      have ek : klI j ++ [n] = klI (j + 1) := by
        show (y.kl ++ ys.take j) ++ [n] = y.kl ++ ys.take (j + 1)
        rw [tk, List.append_assoc]
      have en1 : ksI (j + 1) n = w2.exs n := if_pos (by rw [tk]; simp)
      have lk : (klI j).length ≤ 20 := by
        have h1 := nodup_len ag.kn fun n hn => (ag.kr n hn).1
        have h2 : (ys.take j).length ≤ ys.length := by rw [List.length_take]; omega
        show (y.kl ++ ys.take j).length ≤ 20
        rw [List.length_append]
        omega
      refine ⟨_, rfl, _, _, rfl, .inl ⟨_, .inr "exports", .inl (by rw [← e2]; exact c3.wo.at_.is .w _ rfl), rfl, rfl⟩, _, rfl, _, _, rfl, dgY (.inl (c3.wo.at_.is .ex _ rfl)) nW2, B2 (.e n), _, rfl, .inl (c3.wo.at_.is (.e n) _ (if_pos nW2)), fun p5 hp5 => ?_⟩
      have z := keep_one (ks' := ksI (j + 1)) c3.kp nnew hp5 fun m2 hm2 => (by
        show (if m2 ∈ ys.take (j + 1) then w2.exs m2 else y.ks m2) = if m2 ∈ ys.take j then w2.exs m2 else y.ks m2
        have hne : m2 ≠ n := fun z => nnew (by rw [← z]; exact hm2)
        rw [tk]
        by_cases c : m2 ∈ ys.take j
        · rw [if_pos c, if_pos (List.mem_append_left _ c)]
        · rw [if_neg c, if_neg fun z => (List.mem_append.mp z).elim c fun z => hne (List.mem_singleton.mp z)])
      have ek2 : (yj C' j).kl ++ [n] = klI (j + 1) := ek
      rw [ek2, en1] at z
      obtain ⟨c4, k4⟩ := Cm.kep c3 z.1 z.2
      have hkd := sameNew (o := .dK (exK (w2.exs n))) hp5 _ _ (c3.kp.is .k _ rfl)
      refine ⟨_, rfl, _, rfl, y.C .k, _, rfl, .inl ⟨_, .inr n, by rw [← eC]; exact hkd, rfl, by rw [kvS_len]; exact sz _ (Nat.lt_of_le_of_lt lk (by decide)), rfl⟩, setC C' n p5, _, rfl, eC, ?_, ?_⟩
      · rw [← eC]
        exact c4
      · rw [← eC]
        exact f3.trans k4
    · rintro σ H3 ⟨C', v, rfl, eC, c3, f3⟩
      exact ⟨C', v, rfl, eC, c3, f3⟩
  rintro σ' H3 ⟨C3, v, rfl, eC, c3, f3⟩
  have el3 := f3.keep _ _ el nlC
  have nl3 : ¬ CFp K (yj C3 ys.length) l := fun z => by
    rcases f3.new _ z with w | w
    · exact nlC w
    · rw [el] at w
      cases w
  refine ⟨_, rfl, _, _, _, rfl, c3.rg.is .p _ rfl, rfl, _, rfl, y.A, r1, m, rfl, c3.rg, rok, mN, mr, fun H4 A4 l4 p4 ys4 hy4 hp4 a4 e4 f4 hl4 el4 nl4 => ?_⟩
  have eys : ys4 = ys := by
    rw [hy4, hy]
    exact List.filter_congr fun n hn => Bool.eq_iff_iff.mpr ((hp4 n).trans (hpN n hn).symm)
  subst eys
  obtain ⟨c5, k5⟩ := c3.reg a4 f4
  have ynm : ∀ n ∈ ys4, isNm n := fun n hn => ag.ro.hN.nm n (yN n hn)
  refine ⟨l4, ys4, rfl, .inl (.inl el4), shown_nm (K := K) ynm yl, ?_⟩
  refine ⟨_, rfl, l, ys4, rfl, .inl (.inl (f4.keep _ _ el3 fun z => nl3 (.inl z))), shown_nm (K := K) ynm yl, rfl, ?_⟩
  rw [decide_eq_true rfl]
  have tl : ys4.take ys4.length = ys4 := List.take_length
  have nkl : klI ys4.length = y.kl ++ ys4 := by
    show y.kl ++ ys4.take ys4.length = _
    rw [tl]
  have ag' : Agree { y with A := A4, r := r1.fin m ys4, B := B2, w := w2, C := C3, kl := klI ys4.length, ks := ksI ys4.length } := by
    refine Agree.ended (A' := A4) (B' := B2) (C' := C3) ag G mN mr (Nat.le_refl 1) hy hpN g1 g2 g3 g4 g5 g6 nkl (fun n hn => ?_) fun n hn => ?_
    · show (if n ∈ ys4.take ys4.length then w2.exs n else y.ks n) = y.ks n
      rw [tl, if_neg (nky n hn)]
    · show (if n ∈ ys4.take ys4.length then w2.exs n else y.ks n) = setS y.w.exs m ex n
      rw [tl, if_pos hn, g2]
  have G' : Good (r1.fin m ys4) := Good.fin G ag.ro mN mr hy hpN
  refine q H4 { y with A := A4, r := r1.fin m ys4, B := B2, w := w2, C := C3, kl := klI ys4.length, ks := ksI ys4.length } m c5 ag' G' rfl e4 e2 eC rfl g1 g4 ((k12.trans f3).trans k5) hm fun n hn => ?_
  have hn : (if n ∈ ys4 then ("ready" : Str) else setS y.r.st m "done" n) = "running" := hn
  split at hn
  · exact absurd hn s_ry.symm
  · unfold setS at hn
    split at hn
    · exact absurd hn s_rd.symm
    · rename_i c
      exact ⟨hn, c⟩
end
end Cy
end

section
set_option maxHeartbeats 4000000
/-! The law. -/
namespace Cy
open PySem PySem.Spec PyProof.Rows
open L2 hiding St
structure Ids where
  p : Addr
  a : Addr
  b : Addr
  c : Addr
  N : List Str
  nl : List Str
structure Iv (K : PySem.W.Frag) (Hk : Hp) (E : List (Addr × HO)) (d : Ids) (y : Sy) (H : Hp) : Prop where
  cm : Cm K H y
  ag : Agree y
  go : Good y.r
  base : Same Hk H
  new : ∀ b, CFp K y b → Hk b = none
  ex : ∀ e ∈ E, H e.1 = some e.2 ∧ ¬ CFp K y e.1
  ip : y.p = d.p
  ia : y.A .p = d.a
  ib : y.B .w = d.b
  ic : y.C .k = d.c
  iN : y.r.N = d.N
  il : y.w.nl = d.nl
section
variable {K : PySem.W.Frag} {Hk H H' : Hp} {E : List (Addr × HO)} {d : Ids} {y y' : Sy}
theorem Iv.step (v : Iv K Hk E d y H) (c : Cm K H' y') (ag : Agree y') (G : Good y'.r) (f : Fr (CFp K y) (CFp K y') H H') (e1 : y'.p = y.p) (e2 : y'.A .p = y.A .p) (e3 : y'.B .w = y.B .w) (e4 : y'.C .k = y.C .k) (e5 : y'.r.N = y.r.N) (e6 : y'.w.nl = y.w.nl) : Iv K Hk E d y' H' := by
  refine ⟨c, ag, G, fun b o e => f.keep b o (v.base b o e) fun z => ?_, fun b z => ?_, fun e he => ?_, e1.trans v.ip, e2.trans v.ia, e3.trans v.ib, e4.trans v.ic, e5.trans v.iN, e6.trans v.il⟩
  · rw [v.new b z] at e
    cases e
  · rcases f.new b z with q | q
    · exact v.new b q
    · exact v.base.free q
  · obtain ⟨h1, h2⟩ := v.ex e he
    refine ⟨f.keep _ _ h1 h2, fun z => ?_⟩
    rcases f.new _ z with q | q
    · exact h2 q
    · rw [h1] at q
      cases q
theorem Iv.same (v : Iv K Hk E d y H) (s : Same H H') : Iv K Hk E d y H' := v.step (v.cm.same s) v.ag v.go (frC_same s) rfl rfl rfl rfl rfl rfl
theorem CFp.live (c : Cm K H y) {b : Addr} (f : CFp K y b) : H b ≠ none := by
  rcases f with z | z | z | z
  · exact Cy.live c.rg z
  · exact Cy.live c.wo.at_ z
  · exact Cy.live c.kp z
  · rw [z]; exact c.lp
theorem Iv.more (v : Iv K Hk E d y H) (s : Same H H') {a : Addr} {o : HO} (h0 : H a = none) (h1 : H' a = some o) : Iv K Hk ((a, o) :: E) d y H' := by
  have w := v.same s
  refine ⟨w.cm, w.ag, w.go, w.base, w.new, fun e he => ?_, w.ip, w.ia, w.ib, w.ic, w.iN, w.il⟩
  rcases List.mem_cons.mp he with rfl | he
  · exact ⟨h1, fun z => CFp.live v.cm z h0⟩
  · exact w.ex e he
theorem Iv.less {e : Addr × HO} (v : Iv K Hk (e :: E) d y H) : Iv K Hk E d y H := ⟨v.cm, v.ag, v.go, v.base, v.new, fun x hx => v.ex x (List.mem_cons_of_mem _ hx), v.ip, v.ia, v.ib, v.ic, v.iN, v.il⟩
end
def mkC (k : Addr) : KR → Addr
  | .k => k
  | .c _ => 0
theorem cut_names {nm : List Str} {lo hi : Option Int} : ∃ nm2 : List Str, cutV (nm.map V.str) lo hi = nm2.map V.str ∧ (∀ n ∈ nm2, n ∈ nm) ∧ nm2.length ≤ nm.length := by
  unfold cutV
  generalize HT.sIx (nm.map V.str).length 0 lo = a
  generalize HT.sIx (nm.map V.str).length (nm.map V.str).length hi - a = b
  refine ⟨(nm.drop a).take b, by rw [List.map_take, List.map_drop], fun n hn => List.mem_of_mem_drop (List.mem_of_mem_take hn), ?_⟩
  rw [List.length_take, List.length_drop]
  omega
theorem agree0 {N nm : List Str} {y : Sy} (hr : y.r = r0 N) (hw : y.w = w0 nm) (hk : y.kl = []) (h : Nms nm) (pm : N.Perm nm) (so : sortedS N = true) : Agree y ∧ Good y.r := by
  have hN : Nms N := ⟨pm.nodup_iff.mpr h.nd, by rw [pm.length_eq]; exact h.le, fun n hn => h.nm n (pm.mem_iff.mp hn)⟩
  have gok : GrOk N g0 := ⟨List.nodup_nil, fun _ z => (List.not_mem_nil z).elim, fun _ => List.nodup_nil, fun _ _ z => (List.not_mem_nil z).elim, fun _ _ => rfl⟩
  refine ⟨⟨?_, ?_, ?_, ?_, ?_, ?_, ?_, ?_, ?_⟩, ?_⟩
  · rw [hr]
    exact ⟨hN, gok, fun _ => Nat.zero_le _, List.nodup_nil, Nat.zero_le _⟩
  · rw [hr, hw]
    exact ⟨h, fun _ => Nat.zero_le _, List.nodup_nil, fun _ z => (List.not_mem_nil z).elim, fun _ _ => ⟨fun z => (List.not_mem_nil z).elim, fun z => (List.not_mem_nil z).elim⟩, List.nodup_nil, fun _ z => (List.not_mem_nil z).elim, Nat.zero_le _⟩
  · rw [hr, hw]; exact pm
  · rw [hr]; exact so
  · rw [hr, hw]; rfl
  · rw [hr, hw]; rfl
  · rw [hr, hw]; rfl
  · rw [hk]; exact List.nodup_nil
  · rw [hk]; exact fun _ z => (List.not_mem_nil z).elim
  · rw [hr]
    refine ⟨fun _ _ => .inl rfl, fun _ _ _ => rfl, fun a b _ z => (List.not_mem_nil z).elim, fun a _ z => absurd (show ("new" : Str) = "done" from z) s_nd, fun _ _ z => (List.not_mem_nil z).elim⟩
/-- how many run -/
def cnt (y : Sy) (nl : List Str) : List Str := nl.filter fun n => decide (y.r.st n = "running")
def spLaw (K : PySem.W.Frag) : Sp := fun vs H Q _ => ∃ (a : Addr) (ns : List Int), vs = [.ref a] ∧ SqL K H a (ns.map V.int) ∧ ns.length ≤ 63 ∧ ∀ H', Q (.bl true) H'
section
variable {P : Program} {w : World} {K : PySem.W.Frag} {mg : Str → Option Value} {base : Heap}
theorem ok_law (T : Tx K mg) {z : FuncData} (F : FunD K "law" "law" (defArgs s_law) (defBody s_law) (defScope s_law) [] [] (He.ga K "law") z) : FnG P w K mg base 9 (He.ga K "law") z ["_law_script"] (spLaw K) ∧ ∀ (s : Shared) (u : Value), BindsTo s z ⟨[u], []⟩ [("_law_script", u)] := by
  have sc : FnScope ["_law_script", "_law_k", "_law_pot_here", "_law_names", "_law_registry", "_law_world_here", "_law_kept", "_law_name", "_law_turn", "_law_running", "_law_is_need"] ["_law_script"] (defScope s_law) := ⟨rfl, rfl, rfl, by decide +kernel, rfl, by decide +kernel, by decide +kernel⟩
  have nd := sc.nd
  obtain ⟨ze, Fe, ke, be⟩ := ok_ended (P := P) (w := w) (base := base) T
  refine ⟨fnG_of F sc (fun vs H Q E h => ?_) (fun cdv A outer sh H vs Q E hr hgd h => ?_), fun s u => FunD.bindsA (ps := ["_law_script"]) F (fun _ _ _ _ _ _ us hl => match us, hl with | [_], _ => rfl) s [u] rfl⟩
  · obtain ⟨a, ns, rfl, _⟩ := h
    rfl
  obtain ⟨sa, ns, rfl, hsa, hlen, q⟩ := h
  refine ⟨_, (pss_cons (ps_for PassesOwn.never rfl (pi_range1 rfl T.b_range (pa_cons (pe_callB (call_max2 rfl) rfl T.b_max (by decide +kernel) (pa_cons pe_int (pa_cons (pe_callB (call_min2 rfl) rfl T.b_min (by decide +kernel) (pa_cons (pe_callB call_len_seq (by rfl) T.b_len PySem.boot_len (pa_cons (pv 0) pa_nil)) (pa_cons pe_int pa_nil))) pa_nil))) pa_nil)) (pg_name (i := 1) nd rfl (.inl rfl)) (C8.pss_cut (ps_set (i := 2) nd rfl (.inl rfl) (pe_c (ok_pot T) hr (by decide) rfl (pa_cons (pv 0) (pa_cons (pv 1) pa_nil))))
      (C8.pss_cut (ps_set (i := 3) nd rfl (.inl rfl) (pe_c (ok_words T) hr (by decide) rfl (pa_cons (pv 2) (pa_cons (pe_op op_add pe_int (pe_c (ok_draw T) hr (by decide) rfl (pa_cons (pv 2) (pa_cons pe_int pa_nil)))) pa_nil))))
      (C8.pss_cut (ps_asg (pe_tup (pa_cons (pe_mk (ok_R_init T) hr (by decide) rfl (pa_cons (pv 3) pa_nil)) (pa_cons (pe_c (ok_world T) hr (by decide) rfl (pa_cons (pe_callTy (call_dictP rfl) rfl T.b_dict (by decide +kernel) (pa_cons (pe_lc (own := [("_law_name", 7)]) (g := (gName 7)) (tt := tYes) rfl nd (pi_list (pv 3)) (blkOk_by (by rfl)) (fun _ _ _ _ _ => (pg_name (i := 7) nd rfl (.inl rfl))) (fun _ _ _ _ _ => pts_nil) (fun _ _ _ _ _ => (pe_tup (pa_cons (pv 7) (pa_cons (pe_lst pa_nil) pa_nil))))) pa_nil)) pa_nil)) (pa_cons pe_dnewK pa_nil)))) (pg_tup rfl (pgs_cons (pg_name (i := 4) nd rfl (.inl rfl)) (pgs_cons (pg_name (i := 5) nd rfl (.inr rfl)) (pgs_cons (pg_name (i := 6) nd rfl (.inl rfl)) pgs_nil)))) rfl)
      (C8.pss_cut (ps_for PassesOwn.never rfl (pi_list (pe_slice sl_list (pv 3) po_none (po_some (pe_op op_add pe_int (pe_c (ok_draw T) hr (by decide) rfl (pa_cons (pv 2) (pa_cons (pe_callB call_len_seq (by rfl) T.b_len PySem.boot_len (pa_cons (pv 3) pa_nil)) pa_nil))))))) (pg_name (i := 7) nd rfl (.inl rfl)) (pss_one (ps_if (pt_cmpR op_ne (pe_callB call_reprB rfl T.b_repr (by decide +kernel) (pa_cons (pe_mt (ok_R_request T) hr (by decide) (pv 4) (pa_cons pe_non (pa_cons (pv 7) pa_nil))) pa_nil)) (pe_callB call_reprB rfl T.b_repr (by decide +kernel) (pa_cons (pe_c (ok_asked T) hr (by decide) rfl (pa_cons (pv 5) (pa_cons pe_non (pa_cons (pv 7) pa_nil)))) pa_nil)) (nomark _)) (pss_one (ps_ret pe_bl)) pss_nil)))
      (C8.pss_cut (ps_for PassesOwn.never rfl (pi_range1 rfl T.b_range (pa_cons pe_int pa_nil)) (pg_name (i := 8) nd rfl (.inl rfl)) (C8.pss_cut (ps_setLc (i := 9) (own := [("_law_name", 7)]) (g := (gName 7)) rfl nd rfl rfl (sw_true rfl rfl rfl (by decide +kernel)) (pi_list (pv 3)) (blkOk_by (by rfl)) (fun _ _ _ _ _ => (pg_name (i := 7) nd rfl (.inl rfl))) (fun _ _ _ _ _ => pts_one (pt_cmpR op_eq (pe_dget (hu hr) (pe_dget (hu hr) (pv 5) pe_str (fun _ _ => rfl)) (pv 7) (fun _ _ => rfl)) pe_str (nomark _))) (fun _ _ _ _ _ => (pv 7)))
      (pss_one (ps_if (pt_cmpR (op_neDK K (hu64 hr)) (pv 9) (pe_lst pa_nil) (nomark _)) (C8.pss_cut (ps_set (i := 10) nd rfl (.inl rfl) (pe_and (pe_cmpR op_lt (pv 8) pe_int (nomark _)) (pe_one (pe_cmpR op_gt (pe_c (ok_draw T) hr (by decide) rfl (pa_cons (pv 2) (pa_cons pe_int pa_nil))) pe_int (nomark _)))))
      (C8.pss_cut (ps_if (PW.pt (pw_and (pt_val (pv 10)) (pw_and1 (pt_not (pt_val (pe_c (ok_needed T) hr (by decide) rfl (pa_cons (pv 2) (pa_cons (pv 4) (pa_cons (pv 5) (pa_cons (pv 9) pa_nil)))))))))) (pss_one (ps_ret pe_bl)) pss_nil)
      (C8.pss_cut (ps_if (PW.pt (pw_and (pt_not (pt_val (pv 10))) (pw_and1 (pt_not (pt_val (pe_callG Fe hr (by decide) hgd rfl T.g__law_ended ke be (pa_cons (pv 2) (pa_cons (pv 4) (pa_cons (pv 5) (pa_cons (pv 9) (pa_cons (pv 6) pa_nil))))))))))) (pss_one (ps_ret pe_bl)) pss_nil)
      (pss_one (ps_if (PW.pt (pw_or (pt_not (pt_val (pe_c (ok_stands T) hr (by decide) rfl (pa_cons (pv 4) (pa_cons (pv 5) (pa_cons (pv 6) pa_nil)))))) (pw_or1 (pt_not (pt_val (pe_c (ok_groups T) hr (by decide) rfl (pa_cons (pv 4) (pa_cons (pv 5) pa_nil)))))))) (pss_one (ps_ret pe_bl)) pss_nil))))) pss_nil))))
      (pss_one (ps_if (PW.pt (pw_or (pt_cmpR (op_neDK K (hu64 hr)) (pe_mt (ok_R_in_state T) hr (by decide) (pv 4) (pa_cons pe_str pa_nil)) (pe_lst pa_nil) (nomark _)) (pw_or1 (pt_cmpR (op_neDK K (hu64 hr)) (pe_mt (ok_R_in_state T) hr (by decide) (pv 4) (pa_cons pe_str pa_nil)) (pe_lst pa_nil) (nomark _))))) (pss_one (ps_ret pe_bl)) pss_nil))))))))
      (pss_one (ps_ret pe_bl))), ?_⟩
  have sz : ∀ n : Nat, n < 2000 → n < sizeLine := fun n h => by rw [sizeLine_eq]; omega
  refine ⟨_, rfl, sa, _, rfl, .inl hsa, _, _, rfl, _, _, rfl, _, rfl, ?_, ?_, for_it walk_range (fun i σ' H' => ∃ s1 s2 s3 s4 s5 s6 s7 s8 s9 s10, σ' = [some (.ref sa), s1, s2, s3, s4, s5, s6, s7, s8, s9, s10] ∧ Same H H') ⟨none, none, none, none, none, none, none, none, none, none, rfl, Same.refl H⟩ (fun _ _ _ _ _ => trivial) ?_ ?_⟩
  · rw [List.length_map]
    split <;> split <;> omega
  · rw [List.length_map]
    split <;> split <;> omega
  · rintro kk v σ H1 H1' hi ⟨s1, s2, s3, s4, s5, s6, s7, s8, s9, s10, rfl, sm1⟩ ⟨rfl, rfl⟩
    have hk : kk ≤ 10 := by
      rw [List.length_map] at hi
      split at hi <;> split at hi <;> omega
    -- the pot
    refine ⟨fun σ' H' => ∃ p x y, σ' = [some (.ref sa), some (.int (0 + (kk : Nat))), some (.ref p), s3, s4, s5, s6, s7, s8, s9, s10] ∧ Same H1' H' ∧ H1' p = none ∧ PotAt H' p x y, ?_, ?_⟩
    · exact ⟨_, rfl, _, rfl, sa, ns, kk, by show [V.ref sa, V.int (0 + ((kk : Nat) : Int))] = _; rw [Int.zero_add], sm1.seq hsa, hk, fun H2 p x y s2 hp pp => ⟨p, x, y, rfl, s2, hp, pp⟩⟩
    rintro σ' H2 ⟨p, x, y, rfl, sm2, hp1, pp⟩
    -- the names
    refine ⟨fun σ' H' => ∃ l0 nm x y, σ' = [some (.ref sa), some (.int (0 + (kk : Nat))), some (.ref p), some (.ref l0), s4, s5, s6, s7, s8, s9, s10] ∧ Same H1' H' ∧ PotAt H' p x y ∧ Nms nm ∧ 1 ≤ nm.length ∧ H' l0 = some (.lst (nm.map V.str)) ∧ H1' l0 = none, ?_, ?_⟩
    · refine ⟨_, rfl, _, rfl, p, x, y, 10, rfl, pp, by decide, by decide, fun H3 x3 y3 d h0 h1 f3 p3 => ⟨_, _, rfl, rfl, p, x3, y3, (1 + d).toNat, ?_, p3, by omega, fun H4 x4 y4 l0 nm hnm hln f4 p4 hl0 el0 => ?_⟩⟩
      · show [V.ref p, V.int (1 + d)] = _
        rw [Int.toNat_of_nonneg (by omega)]
      · have sm : Same H1' H4 := fun b o e => by
          have n : b ≠ p := ne_of_none e hp1
          exact f4 b o n (f3 b o n (sm2 b o e))
        refine ⟨l0, nm, x4, y4, rfl, sm, p4, hnm, by omega, el0, ?_⟩
        cases e : H1' l0 with
        | none => rfl
        | some o =>
          have n : l0 ≠ p := ne_of_none e hp1
          rw [f3 l0 o n (sm2 l0 o e)] at hl0
          cases hl0
    clear sm2 pp H2 x y
    rintro σ' H2 ⟨l0, nm, x, y, rfl, sm2, pp, hnm, nm1, el0, hl0⟩
    -- the registry, the world, what is kept
    refine ⟨fun σ' H' => ∃ (d : Ids) (y : Sy), σ' = [some (.ref sa), some (.int (0 + (kk : Nat))), some (.ref p), some (.ref l0), some (.ref d.a), some (.ref d.b), some (.ref d.c), s7, s8, s9, s10] ∧ d.p = p ∧ d.nl = nm ∧ Iv K H1' [(l0, .lst (nm.map V.str))] d y H' ∧ y.w.re.length ≤ 0, ?_, ?_⟩
    · have l0p : l0 ≠ p := fun z => by
        rw [z, pp.at_] at el0
        cases nm with
        | nil => exact absurd nm1 (by decide)
        | cons a r => cases el0
      refine ⟨_, rfl, fun x0 dx hx hdx nx => ?_⟩
      have sx : Same H2 (upd (upd H2 dx (.own x0)) x0 (.ins (He.ga K "Registry") dx [])) := sameTo (sameNew hdx) hx
      refine ⟨x0, dx, l0, nm, rfl, upd_same, sx _ _ el0, hnm, nm1, fun H4 A0 N eA pmN so ra kp fp => ⟨rfl, ?_⟩⟩
      have s4 : Same H2 H4 := fun b o e => kp b o (ne_of_none e hx) (sx b o e)
      have fp2 : ∀ b, RFp K A0 (r0 N) b → H2 b = none := fun b hb => by
        rcases fp b hb with z | z
        · rw [z]; exact hx
        · exact sx.free z
      have el4 := s4 _ _ el0
      refine ⟨_, rfl, l0, rfl, ⟨_, .inl (.inl el4)⟩, fun D hD => gen_it (walk_names (l := nm)) (fun i H' => Same H4 H' ∧ ∃ (a : Str → Addr) (bs : List (Addr × Str)), H' D = some (.lst (bs.map fun e => V.ref e.1)) ∧ (∀ e ∈ bs, H' e.1 = some (.tup [.str e.2, .ref (a e.2)])) ∧ bs.map (·.2) = nm.take i)
        ⟨sameNew hD, fun _ => 0, [], upd_same, fun _ h => (List.not_mem_nil h).elim, rfl⟩ (fun i H' _ z => .inl (.inl (z.1 _ _ el4))) ?_ ?_⟩
      · rintro i v H5 H6 hi ⟨s5, a, bs, e1, e2, e3⟩ ⟨rfl, n, en, rfl⟩
        refine ⟨rfl, _, rfl, (by rw [sizeLine_eq]; show 0 ≤ _; decide), fun b hb => ⟨(by rw [sizeLine_eq]; show 2 ≤ _; decide), fun t ht => ?_⟩⟩
        have bt : b ≠ t := ne_of_none upd_same ht
        have ht2 : H6 t = none := by rw [upd_ne bt.symm] at ht; exact ht
        have Dt : D ≠ t := ne_of_none e1 ht2
        have Db : D ≠ b := ne_of_none e1 hb
        have nn := take_no hnm.nd en
        refine ⟨_, by rw [upd_ne Dt, upd_ne Db]; exact e1, ?_, sameTo (sameTo (sameTo s5 (s5.free hb)) (s5.free ht2)) hD, setS a n b, bs ++ [(t, n)], ?_, fun e he => ?_, ?_⟩
        · have z := congrArg List.length e3
          rw [List.length_map, List.length_take] at z
          have := hnm.le
          rw [List.length_map]
          exact sz _ (by omega)
        · rw [upd_same, List.map_append]
          rfl
        · rcases List.mem_append.mp he with he | he
          · have hne : e.2 ≠ n := fun z => nn (by rw [← e3, ← z]; exact List.mem_map.mpr ⟨e, he, rfl⟩)
            rw [upd_ne (ne_of (e2 e he) e1 (by intro q; cases q)), upd_ne (ne_of_none (e2 e he) ht2), upd_ne (ne_of_none (e2 e he) hb), setS_ne hne]
            exact e2 e he
          · rw [List.mem_singleton.mp he]
            show upd _ D _ t = some (.tup [.str n, .ref (setS a n b n)])
            rw [upd_ne Dt.symm, upd_same, setS_same]
        · rw [List.map_append, e3, take_at en]
          rfl
      · rintro H5 ⟨s5, a, bs, e1, e2, e3⟩
        rw [List.take_length] at e3
        refine ⟨D, bs.map (·.1), kvS nm fun n => .ref (a n), rfl, .inl (.inl (by rw [e1, List.map_map]; rfl)), ?_, fun m hm => ?_⟩
        · rw [← e3]
          exact paired_bs (g := fun n => .ref (a n)) e2
        rw [show mergeK [] (kvS nm fun n => V.ref (a n)) = kvS nm fun n => V.ref (a n) from mergeK_kvS (m := []) hnm.nd]
        refine ⟨m, nm, _, rfl, upd_same, hnm, fun H6 B s6 nB wat => ?_⟩
        intro k hk
        refine ⟨(by rw [sizeLine_eq]; show 3 ≤ _; decide), fun t ht => ?_⟩
        have sf := (sameNew (o := .dK []) hk).trans (sameNew (o := .tup [.ref x0, .ref (B .w), .ref k]) ht)
        have s46 : Same H4 H6 := (s5.trans (sameNew hm)).trans s6
        have s4m : Same H4 (upd H5 m (.dK (kvS nm fun n => .ref (a n)))) := s5.trans (sameNew hm)
        have s2f := (s4.trans s46).trans sf
        refine ⟨t, [.ref x0, .ref (B .w), .ref k], rfl, .inl (.inl upd_same), rfl, _, _, rfl, _, _, rfl, _, _, rfl, rfl, ⟨p, x0, B .w, k, N, nm⟩, ⟨A0, B, mkC k, p, r0 N, w0 nm, [], fun _ => []⟩, rfl, rfl, rfl, ?_, Nat.le_refl 0⟩
        have kf : ∀ b, KFp (mkC k) [] (fun _ => []) b → b = k := fun b ⟨l, o, e, z⟩ => by
          cases l with
          | k => exact z.symm
          | c n => exact absurd (show none = some o from e) (by simp)
        have r6 := ra.same s46
        have r6a : ∀ b, RFp K A0 (r0 N) b → H6 b ≠ none := fun b hb => live r6 hb
        have w6a : ∀ b, WFp B (w0 nm) b → H6 b ≠ none := fun b hb => live wat.at_ hb
        have p6 : H6 p ≠ none := fun z => by
          have y := (s4.trans s46) _ _ pp.at_
          rw [z] at y
          cases y
        obtain ⟨ag, go⟩ := agree0 (y := ⟨A0, B, mkC k, p, r0 N, w0 nm, [], fun _ => []⟩) rfl rfl rfl hnm pmN so
        have w2 : ∀ b, WFp B (w0 nm) b → H2 b = none := fun b hb => (s4.trans s4m).free (nB b hb)
        refine ⟨⟨r6.same sf, wat.same sf, .one (l0 := .k) (o := .dK []) ?_ (fun _ z => by cases z) fun l o e => ?_, ⟨x, y, pp.same s2f⟩, fun b h z => ?_, fun b h z => ?_, fun b h z => ?_, fun h => ?_, fun h => ?_, fun h => ?_⟩, ag, go, sm2.trans s2f, fun b z => ?_, fun e he => ?_, rfl, eA, rfl, rfl, rfl, rfl⟩
        · exact sameNew ht _ _ upd_same
        · cases l with
          | k => exact ⟨rfl, (Option.some.inj e).symm⟩
          | c n => exact absurd (show none = some o from e) (by simp)
        · exact live (ra.same s4m) h (nB b z)
        · exact r6a b h (by rw [kf b z]; exact hk)
        · exact w6a b h (by rw [kf b z]; exact hk)
        · have z := fp2 p h
          rw [pp.at_] at z
          cases z
        · have z := w2 p h
          rw [pp.at_] at z
          cases z
        · exact p6 (by rw [kf p h]; exact hk)
        · rcases z with z | z | z | z
          · exact sm2.free (fp2 b z)
          · exact sm2.free (w2 b z)
          · rw [kf b z]
            exact (sm2.trans (s4.trans s46)).free hk
          · rw [show b = p from z]
            exact hp1
        · rw [List.mem_singleton.mp he]
          refine ⟨s2f _ _ el0, fun z => ?_⟩
          rcases z with z | z | z | z
          · have y := fp2 _ z
            rw [el0] at y
            cases y
          · have y := w2 _ z
            rw [el0] at y
            cases y
          · have y := kf _ z
            have y2 := (s4.trans s46) _ _ el0
            rw [show l0 = k from y, hk] at y2
            cases y2
          · exact l0p z
    rintro σ' H3 ⟨d, y, rfl, dp, dl, iv, re0⟩
    -- the start
    refine ⟨fun σ' H' => ∃ (y : Sy) (s7 : Option V), σ' = [some (.ref sa), some (.int (0 + (kk : Nat))), some (.ref p), some (.ref l0), some (.ref d.a), some (.ref d.b), some (.ref d.c), s7, s8, s9, s10] ∧ Iv K H1' [(l0, .lst (nm.map V.str))] d y H' ∧ y.w.re.length ≤ 10, ?_, ?_⟩
    · have el3 := (iv.ex _ List.mem_cons_self).1
      obtain ⟨a3, b3, p3⟩ := iv.cm.po
      rw [iv.ip, dp] at p3
      have n10 := hnm.le
      refine ⟨_, rfl, _, rfl, _, rfl, l0, _, rfl, .inl (.inl (.inl el3)), p, a3, b3, _, rfl, p3, by rw [List.length_map]; omega, ?_, fun H5 a5 b5 dd h0 h1 f5 p5 => ?_⟩
      · rw [List.length_map]
        exact Int.le_trans (show (nm.length : Int) ≤ 10 by omega) (by decide)
      have f5' : Fr1 y.p H3 H5 := by rw [iv.ip, dp]; exact f5
      have p5' : PotAt H5 y.p a5 b5 := by rw [iv.ip, dp]; exact p5
      obtain ⟨c5, k5⟩ := iv.cm.pot p5' f5'
      have iv5 := iv.step c5 iv.ag iv.go k5 rfl rfl rfl rfl rfl rfl
      have el5 := (iv5.ex _ List.mem_cons_self).1
      obtain ⟨nm2, ec, sub2, len2⟩ := cut_names (nm := nm) (lo := none) (hi := some (1 + dd))
      refine ⟨_, _, rfl, rfl, _, rfl, l0, _, rfl, .inl (.inl el5), fun l5 hl5 => ?_⟩
      show ∃ a, V.ref l5 = .ref a ∧ _
      rw [ec]
      have iv6 := iv5.more (sameNew (o := .lst (nm2.map V.str)) hl5) hl5 upd_same
      refine ⟨l5, rfl, ⟨_, .inl (.inl upd_same)⟩, for_it (walk_names (l := nm2)) (fun j σ' H' => ∃ (y : Sy) (s7 : Option V), σ' = [some (.ref sa), some (.int (0 + (kk : Nat))), some (.ref p), some (.ref l0), some (.ref d.a), some (.ref d.b), some (.ref d.c), s7, s8, s9, s10] ∧ Iv K H1' [(l5, .lst (nm2.map V.str)), (l0, .lst (nm.map V.str))] d y H' ∧ y.w.re.length ≤ j)
        ⟨y, s7, rfl, iv6, re0⟩ (fun j σ H' _ ⟨_, _, _, v, _⟩ => .inl (.inl (v.ex _ List.mem_cons_self).1)) ?_ ?_⟩
      · rintro j v0 σ H7 H8 hj ⟨y, s7, rfl, iv, rej⟩ ⟨rfl, n, en, rfl⟩
        have nW : n ∈ y.w.nl := by rw [iv.il, dl]; exact sub2 n (List.mem_of_getElem? en)
        have nN : n ∈ y.r.N := iv.ag.pm.mem_iff.mpr nW
        have hp7 := iv.cm.rg.is .p _ rfl
        rw [iv.ia] at hp7
        refine ⟨_, rfl, _, _, _, rfl, hp7, rfl, _, rfl, y.A, y.r, none, n, by rw [iv.ia]; rfl, iv.cm.rg, iv.ag.ro, nN, (fun x e => by cases e), fun H9 A9 r9 e9 f9 => ⟨_, rfl, ?_⟩⟩
        obtain ⟨c9, k9⟩ := iv.cm.reg r9 f9
        refine ⟨_, rfl, _, rfl, y.B, y.w, y.r.g.T, none, n, by rw [iv.ib]; rfl, c9.wo, iv.ag.wo, nW, (fun x e => by cases e), fun H10 B10 w10 a10 e10 f10 g1 g2 g3 g4 g5 g6 g7 => ⟨_, rfl, ?_⟩⟩
        obtain ⟨c10, k10⟩ := c9.wor a10 f10
        have eb : decide (y.w.st n = "new") = decide (y.r.st n = "new") := by rw [iv.ag.st]
        rw [eb]
        refine ⟨rfl, _, rfl, ifN (by rw [decide_eq_true rfl]; rfl) ?_⟩
        have ag10 := Agree.asked (A' := A9) (B' := B10) iv.ag nN (s := none) (fun x e => by cases e) g1 g2 g3 g4 g5 g6 (by omega)
        exact ⟨{ y with A := A9, r := y.r.req none n, B := B10, w := w10 }, _, rfl, iv.step c10 ag10 (iv.go.req fun x e => by cases e) (k9.trans k10) rfl e9 e10 rfl rfl g1, by show w10.re.length ≤ j + 1; omega⟩
      · rintro σ H7 ⟨y, s7, rfl, iv, rej⟩
        exact ⟨y, s7, rfl, iv.less, by omega⟩
    clear iv re0 y s7
    rintro σ' H4 ⟨y, s7, rfl, iv, re0⟩
    -- the turns
    refine ⟨fun σ' H' => ∃ (y : Sy) (s7 s8 s9 s10 : Option V), σ' = [some (.ref sa), some (.int (0 + (kk : Nat))), some (.ref p), some (.ref l0), some (.ref d.a), some (.ref d.b), some (.ref d.c), s7, s8, s9, s10] ∧ Iv K H1' [(l0, .lst (nm.map V.str))] d y H' ∧ cnt y nm = [], ?_, ?_⟩
    · have n10 := hnm.le
      refine ⟨100, rfl, by decide, by decide, for_it walk_range (fun i σ' H' => ∃ (y : Sy) (s7 s8 s9 s10 : Option V), σ' = [some (.ref sa), some (.int (0 + (kk : Nat))), some (.ref p), some (.ref l0), some (.ref d.a), some (.ref d.b), some (.ref d.c), s7, s8, s9, s10] ∧ Iv K H1' [(l0, .lst (nm.map V.str))] d y H' ∧ y.w.re.length ≤ 10 + i ∧ (60 ≤ i → (cnt y nm).length ≤ 70 - i))
        ⟨y, s7, s8, s9, s10, rfl, iv, re0, fun h => absurd h (by decide)⟩ (fun _ _ _ _ _ => trivial) ?_ ?_⟩
      · clear iv re0 y s7 s8 s9 s10
        rintro i v σ H5 H5' hi ⟨y, s7, s8, s9, s10, rfl, iv, re0, ct⟩ ⟨rfl, rfl⟩
        have hi : i < 100 := hi
        have nlen : (cnt y nm).length ≤ 10 := Nat.le_trans (List.length_filter_le _ _) n10
        have wnl : y.w.nl = nm := iv.il.trans dl
        -- running
        refine ⟨fun σ' H' => ∃ rl, σ' = [some (.ref sa), some (.int (0 + (kk : Nat))), some (.ref p), some (.ref l0), some (.ref d.a), some (.ref d.b), some (.ref d.c), s7, some (.int (0 + (i : Nat))), some (.ref rl), s10] ∧ Iv K H1' [(rl, .lst ((cnt y nm).map V.str)), (l0, .lst (nm.map V.str))] d y H', ?_, ?_⟩
        · have hl0' := (iv.ex _ List.mem_cons_self).1
          have hw := iv.cm.wo.at_.is .w _ rfl
          rw [iv.ib] at hw
          refine ⟨_, rfl, l0, rfl, ⟨_, .inl (.inl hl0')⟩, fun D hD => lc_same (walk_names (l := nm)) hD (fun H6 s6 => .inl (.inl (s6 _ _ hl0'))) (fun j => .str (nm.getD j "")) (fun j => decide (y.r.st (nm.getD j "") = "running")) ?_ fun H6 s6 e6 => ?_⟩
          · rintro j x H6 H7 hj lc ⟨rfl, n, en, rfl⟩
            have eY : nm.getD j "" = n := by rw [List.getD_eq_getElem?_getD, en]; rfl
            have nW : n ∈ y.w.nl := by rw [wnl]; exact List.mem_of_getElem? en
            have c6 := iv.cm.same lc.same
            refine ⟨rfl, _, rfl, _, _, rfl, .inl ⟨_, .inr "states", .inl (lc.same _ _ hw), rfl, rfl⟩, _, rfl, _, _, rfl, dgY (.inl (c6.wo.at_.is .st _ rfl)) nW, rfl, _, rfl, ?_⟩
            have ed2 : decide (V.str (y.w.st n) = V.str "running") = decide (y.r.st n = "running") := decide_eq_decide.mpr ⟨fun z => by rw [← iv.ag.st]; exact V.str.inj z, fun z => by rw [iv.ag.st]; exact congrArg V.str z⟩
            show (if decide (V.str (y.w.st n) = V.str "running") = true then _ else _)
            rw [ed2]
            by_cases c : y.r.st n = "running"
            · exact ifT (decide_eq_true c) ⟨_, rfl, lc.yes (by omega) (by rw [eY]; exact decide_eq_true c) (by rw [eY]) (Same.refl _)⟩
            · exact ifN (decide_eq_false c) (lc.no (by omega) (by rw [eY]; exact decide_eq_false c) (Same.refl _))
          · refine ⟨D, rfl, iv.more s6 hD ?_⟩
            rw [e6, picks_list (l := nm) (g := V.str) (q := fun n => decide (y.r.st n = "running")) fun j x e => ?_]
            · rfl
            · have eY : nm.getD j "" = x := by rw [List.getD_eq_getElem?_getD, e]; rfl
              show V.str (nm.getD j "") = V.str x ∧ decide (y.r.st (nm.getD j "") = "running") = decide (y.r.st x = "running")
              rw [eY]
              exact ⟨rfl, rfl⟩
        rintro σ' H6 ⟨rl, rfl, iv6⟩
        have hrl := (iv6.ex _ List.mem_cons_self).1
        have csub : ∀ n ∈ cnt y nm, n ∈ y.r.N ∧ y.r.st n = "running" := fun n hn => by
          obtain ⟨h1, h2⟩ := List.mem_filter.mp hn
          exact ⟨iv6.ag.pm.mem_iff.mpr (by rw [wnl]; exact h1), of_decide_eq_true h2⟩
        refine ⟨_, rfl, (by rw [sizeLine_eq]; show 0 ≤ _; decide), fun z hz => ?_⟩
        have iv7 := iv6.same (sameNew (o := .lst []) hz)
        have hrl7 := (iv7.ex _ List.mem_cons_self).1
        refine ⟨_, _, dp_strs (.inl (.inl hrl7)), nil_strs K upd_same, shaped_strs fun n hn => hnm.nm n (List.mem_filter.mp hn).1, shaped_nil, _, rfl, ?_⟩
        rw [eqv_nil]
        by_cases ce : cnt y nm = []
        · refine ifN (by rw [ce]; rfl) ?_
          exact ⟨y, _, _, _, _, rfl, iv7.less, by omega, fun _ => by rw [ce]; exact Nat.zero_le _⟩
        refine ifT (by cases h : cnt y nm with | nil => exact absurd h ce | cons _ _ => rfl) ?_
        -- is_need
        have rlp : rl ≠ p := fun z => (iv7.ex _ List.mem_cons_self).2 (.inr (.inr (.inr (by show rl = y.p; rw [iv7.ip, dp]; exact z))))
        refine ⟨fun σ' H' => ∃ b, σ' = [some (.ref sa), some (.int (0 + (kk : Nat))), some (.ref p), some (.ref l0), some (.ref d.a), some (.ref d.b), some (.ref d.c), s7, some (.int (0 + (i : Nat))), some (.ref rl), some (.bl b)] ∧ Iv K H1' [(rl, .lst ((cnt y nm).map V.str)), (l0, .lst (nm.map V.str))] d y H' ∧ (60 ≤ i → b = false), ?_, ?_⟩
        · refine ⟨_, rfl, _, _, rfl, rfl, _, rfl, ?_⟩
          by_cases c60 : (0 + (i : Int)) < 60
          · refine ifT (decide_eq_true c60) ?_
            obtain ⟨a5, b5, p5⟩ := iv7.cm.po
            rw [iv7.ip, dp] at p5
            refine ⟨_, rfl, p, a5, b5, 3, rfl, p5, by decide, by decide, fun H8 a8 b8 d8 h0 h1 f8 p8 => ⟨_, _, rfl, rfl, _, rfl, ?_⟩⟩
            have f8' : Fr1 y.p (upd H6 z (.lst [])) H8 := by rw [iv7.ip, dp]; exact f8
            have p8' : PotAt H8 y.p a8 b8 := by rw [iv7.ip, dp]; exact p8
            obtain ⟨c8, k8⟩ := iv7.cm.pot p8' f8'
            exact iv7.step c8 iv7.ag iv7.go k8 rfl rfl rfl rfl rfl rfl |> fun w => ⟨w, fun h => absurd h (by omega)⟩
          · exact ifN (decide_eq_false c60) ⟨false, rfl, iv7, fun _ => rfl⟩
        rintro σ' H8 ⟨b, rfl, iv8, hb⟩
        have hrl8 := (iv8.ex _ List.mem_cons_self).1
        -- a need
        refine ⟨fun σ' H' => ∃ (y' : Sy), σ' = [some (.ref sa), some (.int (0 + (kk : Nat))), some (.ref p), some (.ref l0), some (.ref d.a), some (.ref d.b), some (.ref d.c), s7, some (.int (0 + (i : Nat))), some (.ref rl), some (.bl b)] ∧ Iv K H1' [(l0, .lst (nm.map V.str))] d y' H' ∧
          (b = true → y'.w.re.length ≤ 11 + i ∧ i < 60) ∧ (b = false → y' = y ∧ H' rl = some (.lst ((cnt y nm).map V.str))), ?_, ?_⟩
        · refine ⟨_, rfl, b, rfl, ?_⟩
          cases b with
          | false => exact ifN rfl (ifN rfl ⟨y, rfl, iv8.less, (fun z => nomatch z), fun _ => ⟨rfl, hrl8⟩⟩)
          | true =>
            have i60 : i < 60 := Nat.lt_of_not_le fun z => by cases hb z
            refine ifT rfl ⟨_, rfl, _, rfl, _, rfl, _, rfl, y, rl, cnt y nm, by rw [iv8.ip, iv8.ia, iv8.ib, dp]; rfl, iv8.cm, iv8.ag, iv8.go, by omega, hrl8, ce, nlen, by rw [iv8.ip, dp]; exact rlp, csub, fun H9 y9 c9 a9 g9 e1 e2 e3 e4 e5 e6 e7 f9 => ⟨true, rfl, ?_⟩⟩
            exact ifN rfl ⟨y9, rfl, iv8.less.step c9 a9 g9 f9 e1 e2 e3 e4 e5 e6, fun _ => ⟨by omega, i60⟩, (fun z => nomatch z)⟩
        rintro σ' H9 ⟨y9, rfl, iv9, hT, hF⟩
        -- an end
        refine ⟨fun σ' H' => ∃ (y' : Sy), σ' = [some (.ref sa), some (.int (0 + (kk : Nat))), some (.ref p), some (.ref l0), some (.ref d.a), some (.ref d.b), some (.ref d.c), s7, some (.int (0 + (i : Nat))), some (.ref rl), some (.bl b)] ∧ Iv K H1' [(l0, .lst (nm.map V.str))] d y' H' ∧
          y'.w.re.length ≤ 10 + (i + 1) ∧ (60 ≤ i + 1 → (cnt y' nm).length ≤ 70 - (i + 1)), ?_, ?_⟩
        · refine ⟨_, rfl, b, rfl, ?_⟩
          cases b with
          | true =>
            obtain ⟨h1, h2⟩ := hT rfl
            refine ifN rfl (ifN rfl ⟨y9, rfl, iv9, by omega, fun h => ?_⟩)
            have : (cnt y9 nm).length ≤ nm.length := List.length_filter_le _ _
            omega
          | false =>
            obtain ⟨rfl, hrl9⟩ := hF rfl
            refine ifT rfl ⟨_, rfl, _, rfl, _, rfl, _, rfl, _, rfl, y9, rl, cnt y9 nm, by rw [iv9.ip, iv9.ia, iv9.ib, iv9.ic, dp]; rfl, iv9.cm, iv9.ag, iv9.go, hrl9, ce, nlen, by rw [iv9.ip, dp]; exact rlp, csub, fun H10 y10 m c10 a10 g10 e1 e2 e3 e4 e5 e6 e7 f10 hm hrun => ⟨true, rfl, ?_⟩⟩
            refine ifN rfl ⟨y10, rfl, iv9.step c10 a10 g10 f10 e1 e2 e3 e4 e5 e6, by rw [e7]; omega, fun h => ?_⟩
            have nd1 : (cnt y10 nm).Nodup := hnm.nd.sublist List.filter_sublist
            have lt := nodup_len nd1 (N := (cnt y9 nm).erase m) fun n hn => by
              obtain ⟨h1, h2⟩ := List.mem_filter.mp hn
              obtain ⟨h3, h4⟩ := hrun n (of_decide_eq_true h2)
              exact (List.mem_erase_of_ne h4).mpr (List.mem_filter.mpr ⟨h1, decide_eq_true h3⟩)
            rw [List.length_erase_of_mem hm] at lt
            by_cases h60 : 60 ≤ i
            · have := ct h60
              omega
            · omega
        rintro σ' H10 ⟨y10, rfl, iv10, re10, ct10⟩
        -- what is asked
        refine ⟨_, rfl, _, rfl, _, rfl, y10, by rw [iv10.ia, iv10.ib, iv10.ic]; rfl, iv10.cm, iv10.ag, fun H11 s11 => ⟨true, rfl, ?_⟩⟩
        have iv11 := iv10.same s11
        refine ifN rfl ⟨_, rfl, _, rfl, y10, by rw [iv11.ia, iv11.ib]; rfl, iv11.cm, iv11.ag, iv11.go, fun H12 s12 => ⟨true, rfl, ?_⟩⟩
        exact ifN rfl ⟨y10, _, _, _, _, rfl, iv11.same s12, re10, ct10⟩
      · clear iv re0 y s7 s8 s9 s10
        rintro σ H5 ⟨y, s7, s8, s9, s10, rfl, iv, re0, ct⟩
        exact ⟨y, s7, s8, s9, s10, rfl, iv, List.length_eq_zero_iff.mp (by have := ct (by decide); omega)⟩
    clear iv re0 y s7 s8 s9 s10
    rintro σ' H5 ⟨y, s7, s8, s9, s10, rfl, iv, c0⟩
    -- the end
    have norun : ∀ n ∈ y.r.N, y.r.st n ≠ "running" := fun n hn z => by
      have h : n ∈ cnt y nm := List.mem_filter.mpr ⟨by rw [← dl, ← iv.il]; exact iv.ag.pm.mem_iff.mp hn, decide_eq_true z⟩
      rw [c0] at h
      cases h
    have f1 : (y.r.N.filter fun n => decide (y.r.st n = "running")) = [] := List.filter_eq_nil_iff.mpr fun n hn => by rw [decide_eq_true_eq]; exact norun n hn
    have f2 : (y.r.N.filter fun n => decide (y.r.st n = "done")) = [] := List.filter_eq_nil_iff.mpr fun n hn => by
      rw [decide_eq_true_eq]
      intro z
      obtain ⟨b, hb, hr⟩ := iv.go.dn n hn z
      exact norun b (hb.inN iv.ag.ro hn) hr
    rw [← iv.ia]
    refine ⟨_, rfl, _, _, _, rfl, iv.cm.rg.is .p _ rfl, rfl, y.A, y.r, "running", rfl, iv.cm.rg, iv.ag.ro, .inl rfl, fun H6 l6 s6 h6 e6 => ?_⟩
    refine ⟨(by rw [sizeLine_eq]; show 0 ≤ _; decide), fun z hz => ?_⟩
    rw [f1] at e6
    have s7_ := s6.trans (sameNew (o := .lst []) hz)
    refine ⟨_, _, dp_strs (l := []) (.inl (.inl (sameNew hz _ _ e6))), nil_strs K upd_same, shaped_nil, shaped_nil, _, rfl, ?_⟩
    refine ifN (by simp [PyData.eqv, PyData.eqvAll]) ?_
    have c7 := iv.cm.same s7_
    refine ⟨_, rfl, _, _, _, rfl, c7.rg.is .p _ rfl, rfl, y.A, y.r, "done", rfl, c7.rg, iv.ag.ro, .inr rfl, fun H8 l8 s8 h8 e8 => ?_⟩
    refine ⟨(by rw [sizeLine_eq]; show 0 ≤ _; decide), fun z2 hz2 => ?_⟩
    rw [f2] at e8
    refine ⟨_, _, dp_strs (l := []) (.inl (.inl (sameNew hz2 _ _ e8))), nil_strs K upd_same, shaped_nil, shaped_nil, _, rfl, ?_⟩
    refine ifN (by simp [PyData.eqv, PyData.eqvAll]) ?_
    exact ⟨_, _, _, _, _, _, _, _, _, _, rfl, sm1.trans (iv.base.trans (s7_.trans (s8.trans (sameNew hz2))))⟩
  · rintro σ H1 ⟨s1, s2, s3, s4, s5, s6, s7, s8, s9, s10, rfl, sm⟩
    exact q H1
end
end Cy
end

section
set_option maxHeartbeats 4000000
/-! The end: the law's promise, kept where no repr is under way, at the heap behind the top. -/
namespace Cy
open PySem PySem.Spec PyProof.Rows
open L2 hiding St
/-- what is tracked at the start: the script, where the module does not own it -/
def only (a : Addr) (o : Option HO) : Hp := fun b => if b = a then o else none
theorem start_any {P : Program} {w : World} {K : PySem.W.Frag} {mg mb : Str → Option Value} {k : Nat} {fa a : Addr} {fd : FuncData} {x : Str} {sp : Sp} {s₁ : Shared} {vs : List Value} {u : Option HO}
    (KX : K.In s₁.heap) (hns : s₁.heap.Ns mainGlobals mg) (hb : s₁.heap.Ns builtinsNs mb) (hbb : ∀ x : Str, x ≠ "__name__" → mb x = bootBuiltins x) (hlim : s₁.heap.NoLimit) (hg : s₁.gens = #[])
    (ha : s₁.heap.get? a = some { cls := .type "list", data := .seq vs.toArray }) (hr : Room k callerA)
    (F : ∀ base : Heap, K.In base → base.Ns mainGlobals mg → FnG P w K mg base k fa fd [x] sp) (hbind : ∀ (s : Shared) (u : Value), BindsTo s fd ⟨[u], []⟩ [(x, u)])
    (hsp : sp [.ref a] (only a u) (fun v _ => v = .bl true) fun _ _ _ => False)
    (hu : ∀ o, u = some o → (∃ ob xs, o = .frz ob (.lst xs)) ∧ ObjOk P w (only a u) s₁.heap a o) (hK : u ≠ none → K.lookup a = none) :
    codeAny (model P w) callerA (.call (.ref fa) ⟨[.ref a], []⟩) (fun r s' => r = .ok (.ret (.bool true)) ∧ OldK s₁.heap s'.heap ∧ s'.os = s₁.os ∧ AllBare s'.gens) s₁ := by
  have at_a : only a u a = u := if_pos rfl
  have off : ∀ b, b ≠ a → only a u b = none := fun b h => if_neg h
  have hok : HOk P w (only a u) s₁.heap := fun b o e => by
    by_cases h : b = a
    · subst h
      exact (hu o (at_a.symm.trans e)).2
    · rw [off b h] at e
      cases e
  have vis : ∀ {b : Addr} {o : Obj}, s₁.heap.get? b = some o → only a u b = none → (hidT s₁.heap (only a u)).get? b = some o := fun e n => hidT_get e n
  have kn : ∀ b o, K.lookup b = some o → only a u b = none := fun b o e => by
    by_cases h : b = a
    · rw [h, at_a]
      cases hq : u with
      | none => rfl
      | some q =>
        have z := hK (by rw [hq]; exact fun z => nomatch z)
        rw [← h, e] at z
        cases z
    · exact off b h
  have dn : ∀ {b : Addr} {o : Obj} {es : Array DictEntry} {ep : Nat}, s₁.heap.get? b = some o → o.data = .dict es ep → only a u b = none := fun {b o es ep} e d => by
    by_cases h : b = a
    · rw [h, ha] at e
      cases e
      have d' : Data.seq vs.toArray _ = Data.dict es ep := d
      cases d'
    · exact off b h
  have nsK : ∀ {b : Addr} {m : Str → Option Value}, s₁.heap.Ns b m → (hidT s₁.heap (only a u)).Ns b m := fun ⟨o, es, ep, e, d, r⟩ => ⟨o, es, ep, vis e (dn e d), d, r⟩
  have inK : K.In (hidT s₁.heap (only a u)) := fun b o e => vis (KX b o e) (kn b o e)
  have e0 : Env0 P w K mg (hidT s₁.heap (only a u)) callerA [] s₁ (only a u) :=
    ⟨rfl, ⟨inK, nsK hns, ⟨mb, nsK hb, hbb⟩, let ⟨mc, h1, h2⟩ := hlim; ⟨mc, nsK h1, h2⟩⟩, fun b o e => of_hidT e, Nat.le_of_eq (hidT_size _ _), trivial, fun b hb => absurd (show b ∈ ([] : List Addr) from hb) (by simp), hok, .of_eq hg⟩
  refine codeAny_mono ((F _ inK (nsK hns)).run callerA [] s₁ (only a u) ⟨[.ref a], []⟩ [.ref a] [.ref a] _ _ hr rfl e0 (hbind s₁ (.ref a)) (.cons rfl .nil) hsp) fun r s' h => ?_
  match r, h with
  | .error _, h => exact False.elim h
  | .ok .next, h => exact False.elim h
  | .ok .brk, h => exact False.elim h
  | .ok .cont, h => exact False.elim h
  | .ok (.ret v'), h =>
    obtain ⟨v, H', os, bare, un, hok', rv, (rfl : v = .bl true)⟩ := h
    obtain rfl : v' = Value.bool true := rv
    refine ⟨rfl, OldK.of_keep fun b o e => ?_, os, bare⟩
    cases hq : only a u b with
    | none => exact un.keep b o e hq (fun z => absurd (show b ∈ ([] : List Addr) from z) (by simp)) (by simp)
    | some q =>
      have hba : b = a := Classical.byContradiction fun h => by rw [off b h] at hq; cases hq
      have hu2 := hu q (by rw [hba] at hq; rw [← at_a]; exact hq)
      obtain ⟨⟨ob, xs, rfl⟩, _⟩ := hu2
      obtain ⟨e1, _⟩ := hok b _ hq
      obtain ⟨e2, _⟩ := hok' b _ (un.frzs b ob _ hq)
      rw [e] at e1
      cases e1
      exact e2
theorem start_law {P : Program} {w : World} {K : PySem.W.Frag} {mg mb : Str → Option Value} {k : Nat} {fa a : Addr} {fd : FuncData} {x : Str} {sp : Sp} {s₁ : Shared} {vs : List Value} {ns : List Int}
    (KX : K.In s₁.heap) (hns : s₁.heap.Ns mainGlobals mg) (hb : s₁.heap.Ns builtinsNs mb) (hbb : ∀ x : Str, x ≠ "__name__" → mb x = bootBuiltins x) (hlim : s₁.heap.NoLimit) (hg : s₁.gens = #[])
    (ha : s₁.heap.get? a = some { cls := .type "list", data := .seq vs.toArray }) (hi : IntsAre vs ns) (hl : ns.length ≤ sizeLine) (hr : Room k callerA)
    (F : ∀ base : Heap, K.In base → base.Ns mainGlobals mg → FnG P w K mg base k fa fd [x] sp) (hbind : ∀ (s : Shared) (u : Value), BindsTo s fd ⟨[u], []⟩ [(x, u)])
    (hsp : ∀ H : Hp, SqL K H a (ns.map V.int) → sp [.ref a] H (fun v _ => v = .bl true) fun _ _ _ => False) :
    codeAny (model P w) callerA (.call (.ref fa) ⟨[.ref a], []⟩) (fun r s' => r = .ok (.ret (.bool true)) ∧ OldK s₁.heap s'.heap ∧ s'.os = s₁.os ∧ AllBare s'.gens) s₁ := by
  have rv := vals_ints hi
  have lenV := hi.length
  cases hk : K.lookup a with
  | some o =>
    have e := KX a o hk
    rw [ha] at e
    cases e
    exact start_any (u := none) KX hns hb hbb hlim hg ha hr F hbind (hsp _ (.inr ⟨_, vs.toArray, _, hk, rfl, rfl, rfl, by rw [List.size_toArray, lenV]; exact hl, by simpa using rv⟩)) (fun _ z => nomatch z) fun z => absurd rfl z
  | none =>
    refine start_any (u := some (.frz { cls := .type "list", data := .seq vs.toArray } (.lst (ns.map V.int)))) KX hns hb hbb hlim hg ha hr F hbind (hsp _ (.inl (.inr ⟨{ cls := .type "list", data := .seq vs.toArray }, if_pos rfl⟩))) (fun o z => ?_) fun _ => hk
    obtain rfl := Option.some.inj z
    exact ⟨⟨_, _, rfl⟩, ha, by rw [List.length_map]; exact hl, vs, _, rv, ha⟩
theorem walk_law {l : PySem.W.OpenLaw} {n k : Nat} {q : Program} {loose : List Str} {XP : (Str → Option Value) → Heap → Prop} {YP : World → Heap → Prop} {d : DefRec} {x : Str}
    (hn : l.most = some n) (hn2 : n ≤ sizeLine) (hdf : d.params.defaults = []) (hr : Room k callerA)
    (F : ∀ (w : World) (mg : Str → Option Value) (fa : Addr) (h : Heap), YP w h → h.Ns mainGlobals mg → mg d.name = some (.ref fa) →
      ∃ (K : PySem.W.Frag) (fd : FuncData) (sp : Sp), K.In h ∧ (∀ (s : Shared) (u : Value), BindsTo s fd ⟨[u], []⟩ [(x, u)]) ∧
        (∀ (H : Hp) (a : Addr) (ns : List Int), ns.length ≤ n → SqL K H a (ns.map V.int) → sp [.ref a] H (fun v _ => v = .bl true) fun _ _ _ => False) ∧
        ∀ base : Heap, K.In base → base.Ns mainGlobals mg → FnG l.prog w K mg base k fa fd [x] sp) :
    PySem.W.WalkO q loose XP YP l.row.toRowW d [] (fun f vs => PySem.call f vs) := by
  refine Att.attach_call hn hdf fun w s₀ s₁ mg mb fa o pm cd doc a vs ns G Y ho hd hcd hmg hobj hints hlen hg => ?_
  obtain ⟨K, fd, sp, KX, hb, hsp, hF⟩ := F w mg fa _ Y G.T.g hmg
  exact start_law KX G.T.g G.T.b G.T.builtins G.T.nolimit hg hobj hints (Nat.le_trans hlen hn2) hr hF hb fun H hS => hsp H a ns hlen hS
end Cy
end

set_option maxHeartbeats 0
namespace Cy
open PySem PySem.Spec PyProof.Rows
open L2 hiding St
theorem facts {P : Program} {w : World} {K : PySem.W.Frag} {h : Heap} {mg : Str → Option Value} {f : Addr} (X : K.In h) (G : h.Ns mainGlobals mg) (hfa : mg ("law" : Str) = some (.ref f)) (c : Says K) :
    ∃ fd : FuncData, (∀ (s : Shared) (v : Value), BindsTo s fd ⟨[v], []⟩ [("_law_script", v)]) ∧ ∀ base : Heap, K.In base → base.Ns mainGlobals mg → FnG P w K mg base 9 f fd ["_law_script"] (spLaw K) := by
  have T := tx_of X G c
  obtain ⟨z, F⟩ := T.f_law
  have e := hfa.symm.trans T.g_law
  cases e
  exact ⟨z, (ok_law (P := P) (w := w) (base := h) T F).2, fun base _ _ => (ok_law T F).1⟩
end Cy
open PySem PySem.W PySem.Calls PyProof.Rows
theorem PySem.Challenge.cw_cycleready_k42_whole_readiness_holds : PySem.Challenge.rw_cycleready_k42_whole_readiness.Holds := by
  w_on; o_law
  refine HandSHeadRun.head_any (r := OpenLaw.row PySem.Challenge.rw_cycleready_k42_whole_readiness) (q := Cy.qv) (H := Cy.hk) (ob := Cy.ob) (M := 20000) (loose := Cy.loose) (d := HandSHeadRun.topDef Cy.Rw.prog 46) (kwd := []) Cy.ob_eq
    (by kernel_rfl) (fun s => by kernel_rfl) Cy.run (by kernel_rfl) (by kernel_rfl) (by kernel_rfl) (by rfl) (by first | assumption | decide +kernel) (by decide +kernel) ⟨rfl, rfl, rfl, rfl, rfl, by decide +kernel⟩ ?hw ?hc
  case hw => w_witness2
  case hc =>
    refine Cy.walk_law (l := PySem.Challenge.rw_cycleready_k42_whole_readiness) (n := 63) (k := 9) (x := "_law_script") rfl (by decide) (by kernel_rfl) ⟨rfl, by decide, by decide⟩ ?F
    intro w mg fa h Y G hmg0
    obtain ⟨K, KX, c⟩ := Y
    have hmg : mg ("law" : PySem.Str) = some (.ref fa) := by
      have e : (HandSHeadRun.topDef Cy.Rw.prog 46).name = ("law" : PySem.Str) := by kernel_rfl
      rw [← e]
      exact hmg0
    obtain ⟨fd, hb, hF⟩ := Cy.facts (P := (PySem.Challenge.rw_cycleready_k42_whole_readiness).prog) (w := w) KX G hmg c
    exact ⟨K, fd, Cy.spLaw K, KX, hb, fun H a ns hl hS => ⟨a, ns, rfl, hS, hl, fun _ => rfl⟩, hF⟩
