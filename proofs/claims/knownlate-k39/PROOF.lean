import PyProof.Rows.All
import PySem.Str
import Wide.All
import OpenK.AllK
import Wide.FinOn
import HandS.ForMost
import HandS.Property
import HandS.IsInst
import HandS.Defaults
import HandS.SetKeys
import HandS.SetBool
import HandS.Conv
import HandS.DictComp
import HandS.Deep
import HandS.SortInts
import HandS.SortKw
import HandS.Style
import HandS.Walk
import HandS.Steps
import KE.KDictKeyed
import KE.KDictCopyH
import KE.KDictDisplayH
import KE.KDictWalk
import KE.GoesDict
import KE.SortData
import KE.DataMinMax
import HandS.TupLen
import HandS.Strs
import PyProof.DictUpdate
import KE.KStateDown
import Lean
import HandS.Head0
import HandS.Head1
import HandS.Head2
import HandS.HeadEnd
import HandS.HeadHook1
import HandS.HeadHook2
import PySem.Challenge.RW_knownlate_k39_whole_beside_a_stranger
set_option Elab.async false
set_option linter.all false
set_option maxRecDepth 100000
namespace Kn
open PySem PySem.Spec PyProof.Rows L2
def top (i : Nat) : Stmt := PySem.Challenge.pw_knownlate_k39_whole_beside_a_stranger.main.body.getD i (.Pass ⟨0, 0, 0, 0⟩)
abbrev sIsInteger : Stmt := top 16
abbrev sIsCount : Stmt := top 17
abbrev sIsState : Stmt := top 18
abbrev sIsName : Stmt := top 19
abbrev sIsRow : Stmt := top 20
abbrev sStepsFrom : Stmt := top 37
abbrev sIsFaultStep : Stmt := top 38
abbrev sSightOf : Stmt := top 49
abbrev sIsStep : Stmt := top 29
abbrev sCheckedSteps : Stmt := top 28
abbrev sCheckedFaults : Stmt := top 30
abbrev sLeavingTable : Stmt := top 31
abbrev sReachedStates : Stmt := top 32
abbrev sMachineInit : Stmt := inClass (top 27) 0
abbrev sMachineStart : Stmt := inClass (top 27) 1
abbrev sMachineFaultNames : Stmt := inClass (top 27) 4
abbrev sFitFaults : Stmt := top 33
abbrev sCheckSizes : Stmt := top 34
abbrev sPairMoves : Stmt := top 36
abbrev sPairSteps : Stmt := top 35
abbrev sMachineBeside : Stmt := inClass (top 27) 8
abbrev sCheckFault : Stmt := top 39
abbrev sWatchInit : Stmt := inClass (top 42) 0
abbrev sIsSightTable : Stmt := top 43
abbrev sCheckWatches : Stmt := top 48
abbrev sFirstTuple : Stmt := top 54
abbrev sSideMoves : Stmt := top 55
abbrev sAnswersTo : Stmt := top 56
abbrev sMainMoves : Stmt := top 57
abbrev sMetKeys : Stmt := top 58
abbrev sMetTuples : Stmt := top 59
abbrev sBehindMoves : Stmt := top 61
abbrev sFinishOrder : Stmt := top 62
abbrev sComponents : Stmt := top 63
abbrev sRankTable : Stmt := top 64
abbrev sCheckedWatches : Stmt := top 66
abbrev sRanks : Stmt := top 68
abbrev sLate : Stmt := top 67
abbrev sLawMix : Stmt := top 70
abbrev sLawCell : Stmt := top 71
abbrev sLawRow : Stmt := top 72
abbrev sLawNames : Stmt := top 73
abbrev sLawMachine : Stmt := top 74
abbrev sLawSights : Stmt := top 75
abbrev sLawAlone : Stmt := top 76
abbrev sLaw : Stmt := top 77
end Kn
section
set_option maxHeartbeats 0
/-! The head: what stands when the top has run. -/
namespace Kn
open PySem PySem.Spec PyProof.Rows L2
def hdFn0 : List He.DefD := [⟨("is_integer", none), "is_integer", "is_integer", defArgs sIsInteger, defBody sIsInteger, defScope sIsInteger, [], []⟩, ⟨("is_count", none), "is_count", "is_count", defArgs sIsCount, defBody sIsCount, defScope sIsCount, [], []⟩, ⟨("is_state", none), "is_state", "is_state", defArgs sIsState, defBody sIsState, defScope sIsState, [], []⟩, ⟨("is_name", none), "is_name", "is_name", defArgs sIsName, defBody sIsName, defScope sIsName, [], []⟩, ⟨("is_row", none), "is_row", "is_row", defArgs sIsRow, defBody sIsRow, defScope sIsRow, [], []⟩, ⟨("checked_steps", none), "checked_steps", "checked_steps", defArgs sCheckedSteps, defBody sCheckedSteps, defScope sCheckedSteps, [], []⟩, ⟨("is_step", none), "is_step", "is_step", defArgs sIsStep, defBody sIsStep, defScope sIsStep, [], []⟩, ⟨("checked_faults", none), "checked_faults", "checked_faults", defArgs sCheckedFaults, defBody sCheckedFaults, defScope sCheckedFaults, [], []⟩, ⟨("leaving_table", none), "leaving_table", "leaving_table", defArgs sLeavingTable, defBody sLeavingTable, defScope sLeavingTable, [], []⟩, ⟨("reached_states", none), "reached_states", "reached_states", defArgs sReachedStates, defBody sReachedStates, defScope sReachedStates, [], []⟩, ⟨("fit_faults", none), "fit_faults", "fit_faults", defArgs sFitFaults, defBody sFitFaults, defScope sFitFaults, [], []⟩, ⟨("check_sizes", none), "check_sizes", "check_sizes", defArgs sCheckSizes, defBody sCheckSizes, defScope sCheckSizes, [], []⟩, ⟨("pair_steps", none), "pair_steps", "pair_steps", defArgs sPairSteps, defBody sPairSteps, defScope sPairSteps, [], []⟩, ⟨("pair_moves", none), "pair_moves", "pair_moves", defArgs sPairMoves, defBody sPairMoves, defScope sPairMoves, [], []⟩, ⟨("steps_from", none), "steps_from", "steps_from", defArgs sStepsFrom, defBody sStepsFrom, defScope sStepsFrom, [], []⟩, ⟨("is_fault_step", none), "is_fault_step", "is_fault_step", defArgs sIsFaultStep, defBody sIsFaultStep, defScope sIsFaultStep, [], []⟩]
def hdFn1 : List He.DefD := [⟨("check_fault", none), "check_fault", "check_fault", defArgs sCheckFault, defBody sCheckFault, defScope sCheckFault, [], []⟩, ⟨("is_sight_table", none), "is_sight_table", "is_sight_table", defArgs sIsSightTable, defBody sIsSightTable, defScope sIsSightTable, [], []⟩, ⟨("check_watches", none), "check_watches", "check_watches", defArgs sCheckWatches, defBody sCheckWatches, defScope sCheckWatches, [], []⟩, ⟨("sight_of", none), "sight_of", "sight_of", defArgs sSightOf, defBody sSightOf, defScope sSightOf, [], []⟩, ⟨("first_tuple", none), "first_tuple", "first_tuple", defArgs sFirstTuple, defBody sFirstTuple, defScope sFirstTuple, [], []⟩, ⟨("side_moves", none), "side_moves", "side_moves", defArgs sSideMoves, defBody sSideMoves, defScope sSideMoves, [], []⟩, ⟨("answers_to", none), "answers_to", "answers_to", defArgs sAnswersTo, defBody sAnswersTo, defScope sAnswersTo, [], []⟩, ⟨("main_moves", none), "main_moves", "main_moves", defArgs sMainMoves, defBody sMainMoves, defScope sMainMoves, [], []⟩, ⟨("met_keys", none), "met_keys", "met_keys", defArgs sMetKeys, defBody sMetKeys, defScope sMetKeys, [], []⟩, ⟨("met_tuples", none), "met_tuples", "met_tuples", defArgs sMetTuples, defBody sMetTuples, defScope sMetTuples, [], []⟩, ⟨("behind_moves", none), "behind_moves", "behind_moves", defArgs sBehindMoves, defBody sBehindMoves, defScope sBehindMoves, [], []⟩, ⟨("finish_order", none), "finish_order", "finish_order", defArgs sFinishOrder, defBody sFinishOrder, defScope sFinishOrder, [], []⟩, ⟨("components", none), "components", "components", defArgs sComponents, defBody sComponents, defScope sComponents, [], []⟩, ⟨("rank_table", none), "rank_table", "rank_table", defArgs sRankTable, defBody sRankTable, defScope sRankTable, [], []⟩, ⟨("checked_watches", none), "checked_watches", "checked_watches", defArgs sCheckedWatches, defBody sCheckedWatches, defScope sCheckedWatches, [], []⟩, ⟨("late", none), "late", "late", defArgs sLate, defBody sLate, defScope sLate, [], []⟩]
def hdFn2 : List He.DefD := [⟨("ranks", none), "ranks", "ranks", defArgs sRanks, defBody sRanks, defScope sRanks, [], []⟩, ⟨("_law_mix", none), "_law_mix", "_law_mix", defArgs sLawMix, defBody sLawMix, defScope sLawMix, [], []⟩, ⟨("_law_cell", none), "_law_cell", "_law_cell", defArgs sLawCell, defBody sLawCell, defScope sLawCell, [], []⟩, ⟨("_law_row", none), "_law_row", "_law_row", defArgs sLawRow, defBody sLawRow, defScope sLawRow, [], []⟩, ⟨("_law_names", none), "_law_names", "_law_names", defArgs sLawNames, defBody sLawNames, defScope sLawNames, [], []⟩, ⟨("_law_machine", none), "_law_machine", "_law_machine", defArgs sLawMachine, defBody sLawMachine, defScope sLawMachine, [], []⟩, ⟨("_law_sights", none), "_law_sights", "_law_sights", defArgs sLawSights, defBody sLawSights, defScope sLawSights, [], []⟩, ⟨("_law_alone", none), "_law_alone", "_law_alone", defArgs sLawAlone, defBody sLawAlone, defScope sLawAlone, [], []⟩, ⟨("law", none), "law", "law", defArgs (top 77), defBody (top 77), defScope (top 77), [], []⟩, ⟨("Machine", some "__init__"), "__init__", "Machine.__init__", defArgs sMachineInit, defBody sMachineInit, defScope sMachineInit, [.non], []⟩, ⟨("Watch", some "__init__"), "__init__", "Watch.__init__", defArgs sWatchInit, defBody sWatchInit, defScope sWatchInit, [.non], []⟩, ⟨("Machine", some "beside"), "beside", "Machine.beside", defArgs sMachineBeside, defBody sMachineBeside, defScope sMachineBeside, [], []⟩]
def hdFn : List He.DefD := hdFn0 ++ hdFn1 ++ hdFn2
def hdFa0 : List He.Fa := [.glo "is_integer", .glo "is_count", .glo "is_state", .glo "is_name", .glo "is_row", .glo "checked_steps", .glo "is_step", .glo "checked_faults", .glo "leaving_table", .glo "reached_states", .glo "fit_faults", .glo "check_sizes", .glo "pair_steps", .glo "pair_moves", .glo "steps_from", .glo "is_fault_step"]
def hdFa1 : List He.Fa := [.glo "check_fault", .glo "is_sight_table", .glo "check_watches", .glo "sight_of", .glo "first_tuple", .glo "side_moves", .glo "answers_to", .glo "main_moves", .glo "met_keys", .glo "met_tuples", .glo "behind_moves", .glo "finish_order", .glo "components", .glo "rank_table", .glo "checked_watches", .glo "late"]
def hdFa2 : List He.Fa := [.glo "ranks", .glo "_law_mix", .glo "_law_cell", .glo "_law_row", .glo "_law_names", .glo "_law_machine", .glo "_law_sights", .glo "_law_alone", .glo "law", .glo "Machine", .glo "Watch", .free "len", .free "isinstance", .free "sorted", .free "enumerate", .free "range"]
def hdFa3 : List He.Fa := [.free "list", .free "tuple", .free "set", .free "dict", .free "int", .free "max", .free "bool", .free "str", .str "LETTERS" "abcdefghijklmnopqrstuvwxyz", .int "MOST_STATE" 99, .int "MOST_LETTERS" 12, .int "MOST_STEPS" 80, .int "MOST_FROM" 8, .int "MOST_WORDS" 14, .int "MOST_FAULTS" 3, .int "MOST_PAIRS" 100]
def hdFa4 : List He.Fa := [.int "MOST_WATCHES" 3, .int "MOST_TUPLES" 5000, .int "AHEAD" 0, .int "BEHIND" 1, .cls "Machine", .cls "Watch", .noat "Machine" "first_state", .noat "Machine" "step_rows", .noat "Machine" "word_list", .noat "Machine" "fault_table", .noat "Machine" "leaving", .noat "Machine" "met_states", .noat "Watch" "table", .meth "Machine" "beside", .mkr "Machine", .mkr "Watch"]
def hdFa : List He.Fa := hdFa0 ++ hdFa1 ++ hdFa2 ++ hdFa3 ++ hdFa4
def hdNm0 : List PySem.Str := ["_wall", "KnowError", "BadState", "BadSteps", "BadFaults", "NotLive", "BadWord", "BadWatch", "BadWatches", "NoFault", "TooMany", "LETTERS", "MOST_STATE", "MOST_LETTERS", "is_integer", "is_count"]
def hdNm1 : List PySem.Str := ["is_state", "is_name", "is_row", "MOST_STEPS", "MOST_FROM", "MOST_WORDS", "MOST_FAULTS", "MOST_PAIRS", "Machine", "checked_steps", "is_step", "checked_faults", "leaving_table", "reached_states", "fit_faults", "check_sizes"]
def hdNm2 : List PySem.Str := ["pair_steps", "pair_moves", "steps_from", "is_fault_step", "check_fault", "MOST_WATCHES", "Watch", "is_sight_table", "sight_table", "joined_table", "shared_table", "table_without", "check_watches", "sight_of", "MOST_TUPLES", "AHEAD"]
def hdNm3 : List PySem.Str := ["BEHIND", "first_tuple", "side_moves", "answers_to", "main_moves", "met_keys", "met_tuples", "behind_moves", "finish_order", "components", "rank_table", "checked_watches", "late", "ranks", "_law_mix", "_law_cell"]
def hdNm4 : List PySem.Str := ["_law_row", "_law_names", "_law_machine", "_law_sights", "_law_alone"]
def hdNm : List PySem.Str := hdNm0 ++ hdNm1 ++ hdNm2 ++ hdNm3 ++ hdNm4
/-- the getter of a property of Machine -/
def gAd (K : PySem.W.Frag) (m : Str) : Addr := match PySem.W.recIn K (He.ma K (He.ga K "Machine") m) "property" with
  | some (.ref g :: _) => g
  | _ => 0
def prB (K : PySem.W.Frag) (m : Str) : Bool := He.eqO (PySem.W.findIn K (.ref (He.ga K "Machine")) m) (some (some (.ref (He.ma K (He.ga K "Machine") m)))) && (He.eqO (PySem.W.specialIn K (.ref (He.ma K (He.ga K "Machine") m)) "__get__") (some (some (.builtin "property.__get__"))) && (decide (PySem.W.takesIn K (.ref (He.ma K (He.ga K "Machine") m)) = some true) && (match PySem.W.recIn K (He.ma K (He.ga K "Machine") m) "property" with
  | some (.ref _ :: _) => true
  | _ => false)))
def clB (K : PySem.W.Frag) (x : Str) : Bool := He.eqO (PySem.W.findIn K (.ref (He.ga K x)) "__class__") (some (some (.builtin "object.__class__"))) && (He.eqO (PySem.W.specialIn K (.builtin "object.__class__") "__get__") (some (some (.builtin "getset_descriptor.__get__"))) && (decide (PySem.W.takesIn K (.builtin "object.__class__") = some true) && (decide (PySem.W.mroIn K (He.ga K x) (.type "object") = some true) && decide (PySem.W.kitOne K (.ref (He.ga K x)) (.ref (He.ga K x)) = some true))))
def fnA (K : PySem.W.Frag) (a : Addr) : He.FnW := match K.lookup a with
  | some ⟨_, _, .func fd, _⟩ => some (fd.name, fd.qualname, fd.params, fd.body, fd.scope, fd.globals, fd.closure, fd.builtins)
  | _ => none
def fnB (K : PySem.W.Frag) (a : Addr) (q : Str) : Bool := PySem.W.keepIn K (.ref a) && (match K.lookup a with
  | some ⟨_, _, .func fd, _⟩ => PySem.W.codeIn K fd.code q && He.dflB K fd.defaults []
  | _ => false)
def fnV (x q : Str) (st : Stmt) : He.FnW := some (x, q, defArgs st, .stmts (defBody st), defScope st, mainGlobals, [], builtinsNs)
def hdX (K : PySem.W.Frag) : Bool × List He.FnW := (prB K "start" && (prB K "fault_names" && (clB K "Machine" && (clB K "Watch" && (fnB K (gAd K "start") "Machine.start" && fnB K (gAd K "fault_names") "Machine.fault_names")))), [fnA K (gAd K "start"), fnA K (gAd K "fault_names")])
def hdXV : Bool × List He.FnW := (true, [fnV "start" "Machine.start" sMachineStart, fnV "fault_names" "Machine.fault_names" sMachineFaultNames])
def hdObs (g : Addr → Option Obj) : He.AlD × (Bool × List He.FnW) := (He.obsDG 5 hdFa hdFn g, hdX (He.frG g (He.asD g 5)))
def hdHk : PySem.W.Hook where
  α := He.AlD × (Bool × List He.FnW)
  obs := fun s => hdObs s.heap.get?
  val := fun _ => (He.valD hdFn, hdXV)
  says := fun _ h => ∃ K : PySem.W.Frag, K.In h ∧ He.SaysD hdFa hdFn K ∧ hdX K = hdXV
  of := fun _ s e => ⟨He.frG s.heap.get? (He.asD s.heap.get? 5), He.frG_in, (_root_.Prod.mk.inj (show (He.obsDG 5 hdFa hdFn s.heap.get?, hdX (He.frG s.heap.get? (He.asD s.heap.get? 5))) = (He.valD hdFn, hdXV) from e)).1, (_root_.Prod.mk.inj (show (He.obsDG 5 hdFa hdFn s.heap.get?, hdX (He.frG s.heap.get? (He.asD s.heap.get? 5))) = (He.valD hdFn, hdXV) from e)).2⟩
  keeps := fun _ _ _ ⟨K, hK, c⟩ k => ⟨K, PySem.W.Frag.In.keeps hK k, c⟩
abbrev hdR : PySem.W.OpenRow := PySem.W.OpenLaw.row PySem.Challenge.rw_knownlate_k39_whole_beside_a_stranger
def hdOb (s : PySem.W.SharedT) : He.AlD × (Bool × List He.FnW) := hdObs (HandSHeadRun.getT s)
theorem hdOb_eq (s : PySem.W.SharedT) : hdOb s = hdHk.obs s.abs := by
  have e : HandSHeadRun.getT s = s.abs.heap.get? := funext (HandSHeadRun.getT_eq s)
  show hdObs (HandSHeadRun.getT s) = hdObs s.abs.heap.get?
  rw [e]
theorem hdRun (w : World) : HandSHeadRun.RunEq hdR (PySem.W.view hdR.prog [77]) hdHk hdOb 9000 hdNm w := by
  intro os
  kernel_rfl
end Kn

end
section
/-! The plain law: an abstract machine, its alike tuples, the product of two machines. No program here. -/
namespace Kn
open PySem
abbrev Row := Int × Str × Int
abbrev Tab := List (Str × Str)
def look (t : Tab) (w : Str) : Option Str := (t.find? fun p => decide (p.1 = w)).map (·.2)
structure Mach where
  start : Int
  rows : List Row
  ft : Tab
def Mach.fault (M : Mach) (w : Str) : Option Str := look M.ft w
/-- a side move: one y does an unseen step that is none of the fault -/
def Side (M : Mach) (ws : List Tab) (f : Str) (sp sp' : List Int) : Prop :=
  ∃ (k : Nat) (t : Tab) (y : Int) (r : Row), ws[k]? = some t ∧ sp[k + 1]? = some y ∧ r ∈ M.rows ∧ r.1 = y ∧ look t r.2.1 = none ∧ M.fault r.2.1 ≠ some f ∧ sp' = sp.set (k + 1) r.2.2
/-- what one y may do at a sight -/
def Ans (M : Mach) (f : Str) (t : Tab) (z : Option Str) (y e : Int) : Prop :=
  match z with
  | none => e = y
  | some s => ∃ r ∈ M.rows, r.1 = y ∧ look t r.2.1 = some s ∧ M.fault r.2.1 ≠ some f ∧ e = r.2.2
def AllAns (M : Mach) (f w : Str) : List Tab → List Int → List Int → Prop
  | [], [], [] => True
  | t :: ts, y :: ys, e :: es => Ans M f t (look t w) y e ∧ AllAns M f w ts ys es
  | _, _, _ => False
/-- a main move; c: its step is one of the fault -/
def Main (M : Mach) (ws : List Tab) (f : Str) (c : Bool) (sp sp' : List Int) : Prop :=
  ∃ r ∈ M.rows, ∃ ys es, sp = r.1 :: ys ∧ c = decide (M.fault r.2.1 = some f) ∧ AllAns M f r.2.1 ws ys es ∧ sp' = r.2.2 :: es
inductive Reach (M : Mach) (ws : List Tab) (f : Str) : Bool → List Int → Prop
  | start : Reach M ws f false (List.replicate (ws.length + 1) M.start)
  | side {b : Bool} {sp sp' : List Int} : Reach M ws f b sp → Side M ws f sp sp' → Reach M ws f b sp'
  | main {b c : Bool} {sp sp' : List Int} : Reach M ws f b sp → Main M ws f c sp sp' → Reach M ws f (b || c) sp'
theorem AllAns.lens {M : Mach} {f w : Str} : ∀ {ts : List Tab} {ys es : List Int}, AllAns M f w ts ys es → ys.length = ts.length ∧ es.length = ts.length
  | [], [], [], _ => ⟨rfl, rfl⟩
  | _ :: ts, _ :: ys, _ :: es, h => by
    have q := AllAns.lens (ts := ts) (ys := ys) (es := es) h.2
    simp only [List.length_cons, q.1, q.2, and_self]
theorem Reach.len {M : Mach} {ws : List Tab} {f : Str} {b : Bool} {sp : List Int} (h : Reach M ws f b sp) : sp.length = ws.length + 1 := by
  induction h with
  | start => exact List.length_replicate
  | side _ s ih =>
    obtain ⟨k, t, y, r, _, _, _, _, _, _, e⟩ := s
    rw [e, List.length_set, ih]
  | main _ s ih =>
    obtain ⟨r, _, ys, es, _, _, a, e⟩ := s
    rw [e, List.length_cons, a.lens.2]
/-- what late tells of a machine and its watches -/
def Pot (M : Mach) (ws : List Tab) (f : Str) (N : Int) (φ : List Int → Int) : Prop :=
  (∀ sp, Reach M ws f true sp → φ sp < N) ∧
  (∀ sp sp', Reach M ws f true sp → Side M ws f sp sp' → φ sp ≤ φ sp') ∧
  ∀ c sp sp', Reach M ws f true sp → Main M ws f c sp sp' → φ sp < φ sp'
def Met (M : Mach) (ws : List Tab) (f : Str) : Prop := ∃ sp, Reach M ws f true sp

/-! ### two machines at once -/
structure Prod (A B C : Mach) (pr : List (Int × Int)) : Prop where
  start : C.start = 0
  p0 : pr[0]? = some (A.start, B.start)
  rows : ∀ r ∈ C.rows, ∃ (m n : Nat) (p q p' q' : Int), r.1 = (m : Int) ∧ r.2.2 = (n : Int) ∧ pr[m]? = some (p, q) ∧ pr[n]? = some (p', q') ∧
    (((p, r.2.1, p') ∈ A.rows ∧ q' = q) ∨ ((q, r.2.1, q') ∈ B.rows ∧ p' = p))
  left : ∀ (m : Nat) (p q : Int) (w : Str) (p' : Int), pr[m]? = some (p, q) → (p, w, p') ∈ A.rows → ∃ n : Nat, pr[n]? = some (p', q) ∧ ((m : Int), w, (n : Int)) ∈ C.rows
  right : ∀ (m : Nat) (p q : Int) (w : Str) (q' : Int), pr[m]? = some (p, q) → (q, w, q') ∈ B.rows → ∃ n : Nat, pr[n]? = some (p, q') ∧ ((m : Int), w, (n : Int)) ∈ C.rows
  fault : ∀ r ∈ C.rows, ∀ f, C.fault r.2.1 = some f ↔ A.fault r.2.1 = some f ∨ B.fault r.2.1 = some f
def swp (p : Int × Int) : Int × Int := (p.2, p.1)
theorem swp_at {pr : List (Int × Int)} {m : Nat} {p q : Int} : (pr.map swp)[m]? = some (p, q) ↔ pr[m]? = some (q, p) := by
  rw [List.getElem?_map]
  cases h : pr[m]? with
  | none => simp
  | some z =>
    obtain ⟨a, b⟩ := z
    simp only [Option.map_some, swp, Option.some.injEq, Prod.mk.injEq]
    exact ⟨fun h => ⟨h.2, h.1⟩, fun h => ⟨h.2, h.1⟩⟩
theorem Prod.swap {A B C : Mach} {pr : List (Int × Int)} (P : Prod A B C pr) : Prod B A C (pr.map swp) where
  start := P.start
  p0 := swp_at.mpr P.p0
  rows := fun r hr => by
    obtain ⟨m, n, p, q, p', q', h1, h2, h3, h4, h5⟩ := P.rows r hr
    refine ⟨m, n, q, p, q', p', h1, h2, swp_at.mpr h3, swp_at.mpr h4, ?_⟩
    rcases h5 with h | h
    · exact .inr h
    · exact .inl h
  left := fun m p q w p' h hr => by
    obtain ⟨n, h1, h2⟩ := P.right m q p w p' (swp_at.mp h) hr
    exact ⟨n, swp_at.mpr h1, h2⟩
  right := fun m p q w q' h hr => by
    obtain ⟨n, h1, h2⟩ := P.left m q p w q' (swp_at.mp h) hr
    exact ⟨n, swp_at.mpr h1, h2⟩
  fault := fun r hr f => (P.fault r hr f).trans Or.comm

/-- the tables of the watches of both and of one -/
structure Views (A B : Mach) (ws wa : List Tab) : Prop where
  len : ws.length = wa.length
  own : ∀ (k : Nat) (t ta : Tab), ws[k]? = some t → wa[k]? = some ta → ∀ r ∈ A.rows, look t r.2.1 = look ta r.2.1
  apart : ∀ (k : Nat) (t : Tab), ws[k]? = some t → ∀ r ∈ A.rows, ∀ r' ∈ B.rows, ∀ z, look t r.2.1 = some z → look t r'.2.1 ≠ some z
structure Own (A B : Mach) (f : Str) : Prop where
  no : ∀ w, B.fault w ≠ some f
  off : ∀ r ∈ B.rows, A.fault r.2.1 ≠ some f

section
variable {A B C : Mach} {pr : List (Int × Int)} {ws wa : List Tab} {f : Str}
def pj (pr : List (Int × Int)) (i : Int) : Int := ((pr[i.toNat]?).getD (0, 0)).1
theorem pj_at {m : Nat} {p q : Int} (h : pr[m]? = some (p, q)) : pj pr (m : Int) = p := by
  unfold pj
  rw [Int.toNat_natCast, h]
  rfl
theorem Prod.step (P : Prod A B C pr) (r : Row) (hr : r ∈ C.rows) : ((pj pr r.1, r.2.1, pj pr r.2.2) ∈ A.rows) ∨ (pj pr r.2.2 = pj pr r.1 ∧ ∃ r' ∈ B.rows, r'.2.1 = r.2.1) := by
  obtain ⟨m, n, p, q, p', q', h1, h2, h3, h4, h5⟩ := P.rows r hr
  rw [h1, h2, pj_at h3, pj_at h4]
  rcases h5 with ⟨h, _⟩ | ⟨h, e⟩
  · exact .inl h
  · exact .inr ⟨e, _, h, rfl⟩
theorem Prod.flt (P : Prod A B C pr) (O : Own A B f) {r : Row} (hr : r ∈ C.rows) : (C.fault r.2.1 = some f) ↔ (A.fault r.2.1 = some f) := by
  rw [P.fault r hr f]
  exact ⟨fun h => h.resolve_right (O.no _), .inl⟩
theorem map_set_same {α β : Type} (g : α → β) : ∀ (l : List α) (k : Nat) (x y : α), l[k]? = some y → g x = g y → (l.set k x).map g = l.map g
  | [], _, _, _, h, _ => by simp at h
  | a :: l, 0, x, y, h, e => by
    have h' : a = y := Option.some.inj h
    show g x :: l.map g = g a :: l.map g
    rw [e, h']
  | a :: l, k + 1, x, y, h, e => by
    show g a :: (l.set k x).map g = g a :: l.map g
    rw [map_set_same g l k x y h e]
theorem getElem?_lt_some {α : Type} {l : List α} {k : Nat} (h : k < l.length) : ∃ x, l[k]? = some x := ⟨l[k], List.getElem?_eq_getElem h⟩
/-- all answers of the product, seen from A -/
theorem proj_ans (P : Prod A B C pr) (V : Views A B ws wa) (O : Own A B f) {r : Row} (hr : r ∈ C.rows) (hA : (pj pr r.1, r.2.1, pj pr r.2.2) ∈ A.rows) :
    ∀ (k : Nat) (ys es : List Int), AllAns C f r.2.1 (ws.drop k) ys es → AllAns A f r.2.1 (wa.drop k) (ys.map (pj pr)) (es.map (pj pr)) := by
  intro k
  generalize hn : ws.length - k = n
  induction n generalizing k with
  | zero =>
    intro ys es h
    have l1 : ws.length ≤ k := by omega
    rw [List.drop_eq_nil_of_le l1] at h
    rw [List.drop_eq_nil_of_le (by rw [← V.len]; exact l1)]
    match ys, es, h with
    | [], [], _ => trivial
  | succ n ih =>
    intro ys es h
    have l1 : k < ws.length := by omega
    have l2 : k < wa.length := by rw [← V.len]; exact l1
    rw [List.drop_eq_getElem_cons l1] at h
    rw [List.drop_eq_getElem_cons l2]
    match ys, es, h with
    | y :: ys, e :: es, h =>
      obtain ⟨h1, h2⟩ := h
      refine ⟨?_, ih (k + 1) (by omega) ys es h2⟩
      have o := V.own k _ _ (List.getElem?_eq_getElem l1) (List.getElem?_eq_getElem l2)
      have oA := o _ hA
      dsimp only at oA
      rw [← oA]
      cases hz : look ws[k] r.2.1 with
      | none =>
        rw [hz] at h1
        exact congrArg (pj pr) h1
      | some z =>
        rw [hz] at h1
        obtain ⟨r2, hr2, e1, e2, e3, e4⟩ := h1
        rcases P.step r2 hr2 with s | ⟨_, r', hr', s⟩
        · refine ⟨_, s, ?_, ?_, ?_, ?_⟩
          · show pj pr r2.1 = pj pr y
            rw [e1]
          · show look wa[k] r2.2.1 = some z
            rw [← o _ s]
            exact e2
          · show A.fault r2.2.1 ≠ some f
            exact fun q => e3 ((P.flt O hr2).mpr q)
          · show pj pr e = pj pr r2.2.2
            rw [e4]
        · exfalso
          refine V.apart k _ (List.getElem?_eq_getElem l1) _ hA r' hr' z hz ?_
          rw [s]
          exact e2
/-- a step of the stranger: nobody moves, seen from A -/
theorem proj_still (P : Prod A B C pr) (V : Views A B ws wa) {r : Row} {rb : Row} (hrb : rb ∈ B.rows) (hw : rb.2.1 = r.2.1) :
    ∀ (k : Nat) (ys es : List Int), AllAns C f r.2.1 (ws.drop k) ys es → es.map (pj pr) = ys.map (pj pr) := by
  intro k
  generalize hn : ws.length - k = n
  induction n generalizing k with
  | zero =>
    intro ys es h
    rw [List.drop_eq_nil_of_le (by omega)] at h
    match ys, es, h with
    | [], [], _ => rfl
  | succ n ih =>
    intro ys es h
    have l1 : k < ws.length := by omega
    rw [List.drop_eq_getElem_cons l1] at h
    match ys, es, h with
    | y :: ys, e :: es, h =>
      obtain ⟨h1, h2⟩ := h
      rw [List.map_cons, List.map_cons, ih (k + 1) (by omega) ys es h2]
      congr 1
      cases hz : look ws[k] r.2.1 with
      | none =>
        rw [hz] at h1
        exact congrArg (pj pr) h1
      | some z =>
        rw [hz] at h1
        obtain ⟨r2, hr2, e1, e2, e3, e4⟩ := h1
        rcases P.step r2 hr2 with s | ⟨s, _⟩
        · exfalso
          refine V.apart k _ (List.getElem?_eq_getElem l1) _ s rb hrb z e2 ?_
          rw [hw]
          exact hz
        · rw [e4, s, e1]
theorem Prod.down (P : Prod A B C pr) (V : Views A B ws wa) (O : Own A B f) {b : Bool} {sp : List Int} (h : Reach C ws f b sp) : Reach A wa f b (sp.map (pj pr)) := by
  induction h with
  | start =>
    rw [List.map_replicate, P.start, V.len]
    have e : pj pr 0 = A.start := pj_at (m := 0) P.p0
    rw [e]
    exact .start
  | @side b sp sp' _ s ih =>
    obtain ⟨k, t, y, r, h1, h2, h3, h4, h5, h6, e⟩ := s
    have l1 : k < wa.length := by
      rw [← V.len]
      exact (List.getElem?_eq_some_iff.mp h1).1
    obtain ⟨ta, hta⟩ := getElem?_lt_some l1
    rcases P.step r h3 with q | ⟨q, _⟩
    · rw [e, List.map_set]
      refine .side ih ⟨k, ta, _, _, hta, ?_, q, rfl, ?_, ?_, rfl⟩
      · rw [List.getElem?_map, h2, Option.map_some, h4]
      · show look ta r.2.1 = none
        rw [← V.own k t ta h1 hta _ q]
        exact h5
      · exact fun z => h6 ((P.flt O h3).mpr z)
    · rw [e, map_set_same (pj pr) sp (k + 1) r.2.2 y h2 (by rw [q, h4])]
      exact ih
  | @main b c sp sp' _ s ih =>
    obtain ⟨r, hr, ys, es, e1, e2, e3, e4⟩ := s
    rcases P.step r hr with q | ⟨q, rb, hrb, hw⟩
    · rw [e4, List.map_cons]
      have a := proj_ans P V O hr q 0 ys es e3
      rw [e1, List.map_cons] at ih
      refine .main ih ⟨_, q, _, _, rfl, ?_, a, rfl⟩
      rw [e2]
      exact decide_eq_decide.mpr (P.flt O hr)
    · have a := proj_still P V hrb hw 0 ys es e3
      have hc : c = false := by
        rw [e2]
        refine decide_eq_false fun z => O.off rb hrb ?_
        rw [hw]
        exact (P.flt O hr).mp z
      rw [e4, List.map_cons, a, q, hc, Bool.or_false]
      rw [e1, List.map_cons] at ih
      exact ih

/-- spots of the product that stand beside q -/
def At (pr : List (Int × Int)) (q : Int) : List Int → List Int → Prop
  | [], [] => True
  | a :: sp, i :: sc => (∃ n : Nat, i = (n : Int) ∧ pr[n]? = some (a, q)) ∧ At pr q sp sc
  | _, _ => False
theorem At.rep {q a i : Int} (h : ∃ n : Nat, i = (n : Int) ∧ pr[n]? = some (a, q)) : ∀ n : Nat, At pr q (List.replicate n a) (List.replicate n i)
  | 0 => trivial
  | n + 1 => ⟨h, At.rep h n⟩
theorem At.set {q a i : Int} (h : ∃ n : Nat, i = (n : Int) ∧ pr[n]? = some (a, q)) : ∀ {k : Nat} {sp sc : List Int}, At pr q sp sc → At pr q (sp.set k a) (sc.set k i)
  | _, [], [], _ => trivial
  | 0, _ :: _, _ :: _, x => ⟨h, x.2⟩
  | k + 1, _ :: _, _ :: _, x => ⟨x.1, At.set h (k := k) x.2⟩
theorem At.get {q : Int} : ∀ {k : Nat} {sp sc : List Int} {a : Int}, At pr q sp sc → sp[k]? = some a → ∃ i, sc[k]? = some i ∧ ∃ n : Nat, i = (n : Int) ∧ pr[n]? = some (a, q)
  | _, [], [], _, _, h => by simp at h
  | 0, x :: sp, i :: sc, a, h, e => by
    have e' : x = a := Option.some.inj e
    subst e'
    exact ⟨i, rfl, h.1⟩
  | k + 1, _ :: sp, _ :: sc, a, h, e => At.get (k := k) h.2 e
/-- answers of A are answers of the product, the stranger standing -/
theorem lift_ans (P : Prod A B C pr) (V : Views A B ws wa) (O : Own A B f) {w : Str} (hw : ∃ r ∈ A.rows, r.2.1 = w) {q : Int} :
    ∀ (k : Nat) (ys es ysc : List Int), At pr q ys ysc → AllAns A f w (wa.drop k) ys es → ∃ esc, At pr q es esc ∧ AllAns C f w (ws.drop k) ysc esc := by
  intro k
  generalize hn : ws.length - k = n
  induction n generalizing k with
  | zero =>
    intro ys es ysc ha h
    rw [List.drop_eq_nil_of_le (by rw [← V.len]; omega)] at h
    rw [List.drop_eq_nil_of_le (by omega)]
    match ys, es, ysc, h, ha with
    | [], [], [], _, _ => exact ⟨[], trivial, trivial⟩
  | succ n ih =>
    intro ys es ysc ha h
    have l1 : k < ws.length := by omega
    have l2 : k < wa.length := by rw [← V.len]; exact l1
    rw [List.drop_eq_getElem_cons l2] at h
    rw [List.drop_eq_getElem_cons l1]
    match ys, es, ysc, h, ha with
    | y :: ys, e :: es, yc :: ysc, h, ha =>
      obtain ⟨h1, h2⟩ := h
      obtain ⟨hy, ha⟩ := ha
      obtain ⟨esc, x1, x2⟩ := ih (k + 1) (by omega) ys es ysc ha h2
      have o := V.own k _ _ (List.getElem?_eq_getElem l1) (List.getElem?_eq_getElem l2)
      obtain ⟨r0, hr0, ew⟩ := hw
      have oA : look ws[k] w = look wa[k] w := by
        rw [← ew]
        exact o _ hr0
      cases hz : look wa[k] w with
      | none =>
        rw [hz] at h1
        have e' : e = y := h1
        subst e'
        refine ⟨yc :: esc, ⟨hy, x1⟩, ?_, x2⟩
        show Ans C f ws[k] (look ws[k] w) yc yc
        rw [oA, hz]
        rfl
      | some z =>
        rw [hz] at h1
        obtain ⟨r2, hr2, e1, e2, e3, e4⟩ := h1
        obtain ⟨m, rfl, hm⟩ := hy
        obtain ⟨n', hn', hrow⟩ := P.left m y q r2.2.1 r2.2.2 hm (by rw [← e1]; exact hr2)
        refine ⟨(n' : Int) :: esc, ⟨⟨n', rfl, by rw [e4]; exact hn'⟩, x1⟩, ?_, x2⟩
        show Ans C f ws[k] (look ws[k] w) (m : Int) (n' : Int)
        rw [oA, hz]
        refine ⟨_, hrow, rfl, ?_, ?_, rfl⟩
        · show look ws[k] r2.2.1 = some z
          rw [o _ hr2]
          exact e2
        · exact fun q => e3 ((P.flt O hrow).mp q)
theorem Prod.up (P : Prod A B C pr) (V : Views A B ws wa) (O : Own A B f) {b : Bool} {sp : List Int} (h : Reach A wa f b sp) : ∃ sc, At pr B.start sp sc ∧ Reach C ws f b sc := by
  induction h with
  | start =>
    refine ⟨_, At.rep ⟨0, rfl, P.p0⟩ _, ?_⟩
    rw [← V.len]
    have q := Reach.start (M := C) (ws := ws) (f := f)
    rw [P.start] at q
    exact q
  | @side b sp sp' _ s ih =>
    obtain ⟨sc, h, hr⟩ := ih
    obtain ⟨k, ta, y, r, h1, h2, h3, h4, h5, h6, e⟩ := s
    have l1 : k < ws.length := by
      rw [V.len]
      exact (List.getElem?_eq_some_iff.mp h1).1
    obtain ⟨t, ht⟩ := getElem?_lt_some l1
    obtain ⟨i, hi, m, rfl, hm⟩ := h.get h2
    obtain ⟨n, hn, hrow⟩ := P.left m y _ r.2.1 r.2.2 hm (by rw [← h4]; exact h3)
    refine ⟨sc.set (k + 1) (n : Int), ?_, .side hr ⟨k, t, _, _, ht, hi, hrow, rfl, ?_, ?_, rfl⟩⟩
    · rw [e]
      exact h.set ⟨n, rfl, hn⟩
    · show look t r.2.1 = none
      rw [V.own k t ta ht h1 _ h3]
      exact h5
    · exact fun q => h6 ((P.flt O hrow).mp q)
  | @main b c sp sp' _ s ih =>
    obtain ⟨sc, h, hr⟩ := ih
    obtain ⟨r, hrA, ys, es, e1, e2, e3, e4⟩ := s
    subst e1
    match sc, h with
    | i :: ysc, ⟨⟨m, hi, hm⟩, ha⟩ =>
      subst hi
      obtain ⟨esc, x1, x2⟩ := lift_ans P V O ⟨r, hrA, rfl⟩ 0 ys es ysc ha e3
      obtain ⟨n, hn, hrow⟩ := P.left m _ _ r.2.1 r.2.2 hm hrA
      refine ⟨(n : Int) :: esc, ?_, .main hr ⟨_, hrow, _, _, rfl, ?_, x2, rfl⟩⟩
      · rw [e4]
        exact ⟨⟨n, rfl, hn⟩, x1⟩
      · rw [e2]
        exact decide_eq_decide.mpr (P.flt O hrow).symm
theorem Prod.met (P : Prod A B C pr) (V : Views A B ws wa) (O : Own A B f) : Met C ws f ↔ Met A wa f :=
  ⟨fun ⟨_, h⟩ => ⟨_, P.down V O h⟩, fun ⟨_, h⟩ => let ⟨_, _, h'⟩ := P.up V O h; ⟨_, h'⟩⟩
/-- a fault that comes needs a step of it -/
theorem Reach.has {M : Mach} {b : Bool} {sp : List Int} (h : Reach M ws f b sp) : b = true → ∃ r ∈ M.rows, M.fault r.2.1 = some f := by
  induction h with
  | start => intro e; cases e
  | side _ _ ih => exact ih
  | @main b c sp sp' _ s ih =>
    intro e
    obtain ⟨r, hr, _, _, _, e2, _, _⟩ := s
    cases b with
    | true => exact ih rfl
    | false =>
      have e' : c = true := e
      rw [e2] at e'
      exact ⟨r, hr, of_decide_eq_true e'⟩

/-! ### the stranger goes on for ever -/
/-- the k-th and later followers walk q to q' -/
theorem At.len {q : Int} : ∀ {sp sc : List Int}, At pr q sp sc → sc.length = sp.length
  | [], [], _ => rfl
  | _ :: _, _ :: _, h => by rw [List.length_cons, List.length_cons, At.len h.2]
/-- spots beside q where the j first followers stand beside q' -/
def Mix (pr : List (Int × Int)) (q q' : Int) (j : Nat) (sp sc : List Int) : Prop :=
  sc.length = sp.length ∧ ∀ (k : Nat) (a : Int), sp[k]? = some a → ∃ n : Nat, sc[k]? = some (n : Int) ∧ (if k < j then pr[n]? = some (a, q') else pr[n]? = some (a, q) ∨ pr[n]? = some (a, q'))
/-- the answers to a step of the stranger's -/
theorem go_ans (P : Prod A B C pr) (O : Own A B f) {w : Str} {q q' : Int} (hB : (q, w, q') ∈ B.rows) :
    ∀ (ts : List Tab) (ys ysc : List Int), ys.length = ts.length → At pr q ys ysc → ∃ esc, AllAns C f w ts ysc esc ∧ esc.length = ys.length ∧
      ∀ (k : Nat) (a : Int) (t : Tab), ys[k]? = some a → ts[k]? = some t → ∃ n : Nat, esc[k]? = some (n : Int) ∧ ((pr[n]? = some (a, q) ∧ look t w = none) ∨ pr[n]? = some (a, q')) := by
  intro ts
  induction ts with
  | nil =>
    intro ys ysc hl ha
    match ys, ysc, hl, ha with
    | [], [], _, _ => exact ⟨[], trivial, rfl, fun k a t h _ => by simp at h⟩
  | cons t ts ih =>
    intro ys ysc hl ha
    match ys, ysc, hl, ha with
    | y :: ys, yc :: ysc, hl, ⟨⟨m, hm1, hm⟩, ha⟩ =>
      subst hm1
      obtain ⟨esc, x1, x2, x3⟩ := ih ys ysc (by simpa using hl) ha
      cases hz : look t w with
      | none =>
        refine ⟨(m : Int) :: esc, ⟨?_, x1⟩, by simp [x2], fun k a t' h1 h2 => ?_⟩
        · show Ans C f t (look t w) (m : Int) (m : Int)
          rw [hz]
          rfl
        · match k, h1, h2 with
          | 0, h1, h2 =>
            have e1 : y = a := Option.some.inj h1
            have e2 : t = t' := Option.some.inj h2
            subst e1 e2
            exact ⟨m, rfl, .inl ⟨hm, hz⟩⟩
          | k + 1, h1, h2 => exact x3 k a t' h1 h2
      | some z =>
        obtain ⟨n, hn, hrow⟩ := P.right m y q w q' hm hB
        refine ⟨(n : Int) :: esc, ⟨?_, x1⟩, by simp [x2], fun k a t' h1 h2 => ?_⟩
        · show Ans C f t (look t w) (m : Int) (n : Int)
          rw [hz]
          exact ⟨_, hrow, rfl, hz, fun z => O.off _ hB ((P.flt O hrow).mp z), rfl⟩
        · match k, h1, h2 with
          | 0, h1, h2 =>
            have e1 : y = a := Option.some.inj h1
            subst e1
            exact ⟨n, rfl, .inr hn⟩
          | k + 1, h1, h2 => exact x3 k a t' h1 h2
theorem Mix.full {q q' : Int} : ∀ {j : Nat} {sp sc : List Int}, Mix pr q q' j sp sc → sp.length ≤ j → At pr q' sp sc
  | j, sp, sc, h, hj => by
    induction sp generalizing j sc with
    | nil =>
      have h0 : sc.length = 0 := h.1
      match sc, h0 with
      | [], _ => trivial
    | cons a sp ih =>
      have h0 : sc.length = sp.length + 1 := h.1
      match sc, j, h0, hj, h with
      | c :: sc, j + 1, h0, hj, h =>
        refine ⟨?_, ih (j := j) (sc := sc) (And.intro (by simpa using h0) fun k b hb => ?_) (by simpa using hj)⟩
        · obtain ⟨n, h1, h2⟩ := h.2 0 a rfl
          rw [if_pos (Nat.succ_pos j)] at h2
          exact ⟨n, Option.some.inj h1, h2⟩
        · obtain ⟨n, h1, h2⟩ := h.2 (k + 1) b hb
          refine ⟨n, h1, ?_⟩
          by_cases hk : k < j
          · rw [if_pos hk]
            rw [if_pos (Nat.succ_lt_succ hk)] at h2
            exact h2
          · rw [if_neg hk]
            rw [if_neg (fun z => hk (Nat.lt_of_succ_lt_succ z))] at h2
            exact h2
/-- one round: from beside q to beside q', the potential has grown -/
theorem round (P : Prod A B C pr) (O : Own A B f) {N : Int} {φ : List Int → Int} (F : Pot C ws f N φ) {w : Str} {q q' : Int} (hB : (q, w, q') ∈ B.rows) {sp sc : List Int}
    (hl : sp.length = ws.length + 1) (ha : At pr q sp sc) (hr : Reach C ws f true sc) : ∃ sc', At pr q' sp sc' ∧ Reach C ws f true sc' ∧ φ sc < φ sc' := by
  match sp, sc, ha with
  | x :: ys, xc :: ysc, ⟨⟨m, hm1, hm⟩, ha⟩ =>
    subst hm1
    obtain ⟨n, hn, hrow⟩ := P.right m x q w q' hm hB
    obtain ⟨esc, x1, x2, x3⟩ := go_ans P O hB ws ys ysc (by simpa using hl) ha
    have mv : Main C ws f (decide (C.fault w = some f)) ((m : Int) :: ysc) ((n : Int) :: esc) := ⟨_, hrow, _, _, rfl, rfl, x1, rfl⟩
    have r1 : Reach C ws f true ((n : Int) :: esc) := by
      have z := Reach.main hr mv
      rw [Bool.true_or] at z
      exact z
    have up1 := F.2.2 _ _ _ hr mv
    -- the followers that stand beside q go, one by one
    have key : ∀ j : Nat, j ≤ ws.length → ∃ sc', Mix pr q q' (j + 1) (x :: ys) sc' ∧ Reach C ws f true sc' ∧ φ ((n : Int) :: esc) ≤ φ sc' ∧
        ∀ (k : Nat) (t : Tab) (i : Nat) (a : Int), ws[k]? = some t → ys[k]? = some a → sc'[k + 1]? = some (i : Int) → pr[i]? = some (a, q) → pr[i]? = some (a, q') ∨ look t w = none := by
      intro j
      induction j with
      | zero =>
        intro _
        refine ⟨_, ⟨by rw [List.length_cons, List.length_cons, x2], fun k a h => ?_⟩, r1, Int.le_refl _, fun k t i a h1 h2 h3 h4 => ?_⟩
        · match k, h with
          | 0, h =>
            have e : x = a := Option.some.inj h
            subst e
            exact ⟨n, rfl, by rw [if_pos Nat.one_pos]; exact hn⟩
          | k + 1, h =>
            have hk : k < ws.length := by
              have := (List.getElem?_eq_some_iff.mp h).1
              simp only [List.length_cons] at this hl
              omega
            obtain ⟨t, ht⟩ := getElem?_lt_some hk
            obtain ⟨i, h1, h2⟩ := x3 k a t h ht
            refine ⟨i, h1, ?_⟩
            rw [if_neg (by omega)]
            rcases h2 with ⟨h2, _⟩ | h2
            · exact .inl h2
            · exact .inr h2
        · obtain ⟨i', h5, h6⟩ := x3 k a t h2 h1
          have h3' : esc[k]? = some (i : Int) := h3
          rw [h5] at h3'
          have e : i' = i := by
            have := Option.some.inj h3'
            omega
          subst e
          rcases h6 with ⟨_, h6⟩ | h6
          · exact .inr h6
          · exact .inl h6
      | succ j ih =>
        intro hj
        obtain ⟨sc', m1, m2, m3, m4⟩ := ih (by omega)
        obtain ⟨t, ht⟩ := getElem?_lt_some (show j < ws.length by omega)
        obtain ⟨a, hya⟩ := getElem?_lt_some (show j < ys.length by simp only [List.length_cons] at hl; omega)
        obtain ⟨i, h1, h2⟩ := m1.2 (j + 1) a hya
        rw [if_neg (by omega)] at h2
        by_cases hq : pr[i]? = some (a, q')
        · refine ⟨sc', ⟨m1.1, fun k b hb => ?_⟩, m2, m3, m4⟩
          obtain ⟨i2, h3, h4⟩ := m1.2 k b hb
          refine ⟨i2, h3, ?_⟩
          by_cases hk : k < j + 1
          · rw [if_pos (by omega)]
            rw [if_pos hk] at h4
            exact h4
          · by_cases hk2 : k = j + 1
            · subst hk2
              rw [if_pos (by omega)]
              have e1 : b = a := Option.some.inj (hb.symm.trans hya)
              have e2 : i2 = i := by
                have := Option.some.inj (h3.symm.trans h1)
                omega
              rw [e1, e2]
              exact hq
            · rw [if_neg (by omega)]
              rw [if_neg hk] at h4
              exact h4
        · have hq1 := h2.resolve_right hq
          have hun : look t w = none := (m4 j t i a ht hya h1 hq1).resolve_left hq
          obtain ⟨n2, hn2, hrow2⟩ := P.right i a q w q' hq1 hB
          have sd : Side C ws f sc' (sc'.set (j + 1) (n2 : Int)) := ⟨j, t, _, _, ht, h1, hrow2, rfl, hun, fun z => O.off _ hB ((P.flt O hrow2).mp z), rfl⟩
          have hlt : j + 1 < sc'.length := (List.getElem?_eq_some_iff.mp h1).1
          refine ⟨_, ⟨by rw [List.length_set]; exact m1.1, fun k b hb => ?_⟩, .side m2 sd, Int.le_trans m3 (F.2.1 _ _ m2 sd), fun k t' i' a' g1 g2 g3 g4 => ?_⟩
          · by_cases hk2 : k = j + 1
            · subst hk2
              have e1 : b = a := Option.some.inj (hb.symm.trans hya)
              refine ⟨n2, List.getElem?_set_self hlt, ?_⟩
              rw [if_pos (by omega), e1]
              exact hn2
            · obtain ⟨i2, h3, h4⟩ := m1.2 k b hb
              refine ⟨i2, by rw [List.getElem?_set_ne (Ne.symm hk2)]; exact h3, ?_⟩
              by_cases hk : k < j + 1
              · rw [if_pos (by omega)]
                rw [if_pos hk] at h4
                exact h4
              · rw [if_neg (by omega)]
                rw [if_neg hk] at h4
                exact h4
          · by_cases hk2 : k = j
            · subst hk2
              rw [List.getElem?_set_self hlt] at g3
              have e1 : a' = a := Option.some.inj (g2.symm.trans hya)
              have e2 : i' = n2 := by
                have := Option.some.inj g3
                omega
              subst e1 e2
              exact .inl hn2
            · rw [List.getElem?_set_ne (fun z => hk2 (by omega))] at g3
              exact m4 k t' i' a' g1 g2 g3 g4
    obtain ⟨sc', k1, k2, k3, _⟩ := key ws.length (Nat.le_refl _)
    exact ⟨sc', k1.full (by rw [hl]; exact Nat.le_refl _), k2, Int.lt_of_lt_of_le up1 k3⟩
/-- THE STRANGER GOES ON: no potential -/
theorem Prod.never (P : Prod A B C pr) (V : Views A B ws wa) (O : Own A B f) (L : Int → Prop) (l0 : L B.start) (live : ∀ q, L q → ∃ w q', (q, w, q') ∈ B.rows ∧ L q') (hM : Met A wa f) (N : Int) (φ : List Int → Int) : ¬ Pot C ws f N φ := by
  intro F
  obtain ⟨sp, hsp⟩ := hM
  obtain ⟨sc, ha, hr⟩ := P.up V O hsp
  have hl : sp.length = ws.length + 1 := by rw [V.len]; exact hsp.len
  have go : ∀ n : Nat, ∃ q sc', L q ∧ At pr q sp sc' ∧ Reach C ws f true sc' ∧ φ sc + n ≤ φ sc' := by
    intro n
    induction n with
    | zero => exact ⟨_, sc, l0, ha, hr, by simp⟩
    | succ n ih =>
      obtain ⟨q, sc1, hq, h1, h2, h3⟩ := ih
      obtain ⟨w, q', hB, hq'⟩ := live q hq
      obtain ⟨sc2, g1, g2, g3⟩ := round P O F hB hl h1 h2
      exact ⟨q', sc2, hq', g1, g2, by omega⟩
  obtain ⟨q, sc', _, _, h2, h3⟩ := go (N - φ sc).toNat
  have h4 := F.1 _ h2
  omega
end
end Kn

end
section
/-! What all defs share: the text, callees by name, heaps that grow. -/
namespace Kn
open PySem PySem.Spec PyProof.Rows L2

/-! ### heaps that grow -/
theorem same_new {H : Hp} {p : Addr} {o : HO} (h : H p = none) : Same H (upd H p o) := fun b x e => by
  rw [upd_ne (ne_of_none e h)]
  exact e
/-- what H does not know may be written -/
theorem same_mut {H H' : Hp} {p : Addr} {o : HO} (s : Same H H') (h : H p = none) : Same H (upd H' p o) := fun b x e => by
  rw [upd_ne (ne_of_none e h)]
  exact s b x e
theorem same_add {H H' : Hp} {p : Addr} {o : HO} (s : Same H H') (h : H' p = none) : Same H (upd H' p o) := s.trans (same_new h)
theorem up_new {H : Hp} {a p : Addr} {o u : HO} (e : H a = some o) (h : H p = none) : upd H p u a = some o := by
  rw [upd_ne (ne_of_none e h)]
  exact e
theorem up_ne {H : Hp} {a p : Addr} {o u : HO} (e : H a = some o) (h : a ≠ p) : upd H p u a = some o := by
  rw [upd_ne h]
  exact e
theorem ne_new {H : Hp} {a p : Addr} {o : HO} (e : H a = some o) (h : H p = none) : a ≠ p := ne_of_none e h
theorem seqT_same {K : PySem.W.Frag} {H H' : Hp} {a : Addr} {xs : List V} (s : Same H H') (h : SqT K H a xs) : SqT K H' a xs := by
  rcases h with (h | ⟨o, h⟩) | h
  · exact .inl (.inl (s _ _ h))
  · exact .inl (.inr ⟨o, s _ _ h⟩)
  · exact .inr h
/-- the tuples stay -/
def Tups (H H' : Hp) : Prop := ∀ a xs, H a = some (.tup xs) → H' a = some (.tup xs)
theorem Tups.of {H H' : Hp} (s : Same H H') : Tups H H' := fun a xs h => s a _ h
theorem Tups.trans {H H1 H2 : Hp} (a : Tups H H1) (b : Tups H1 H2) : Tups H H2 := fun c xs h => b c xs (a c xs h)
theorem Tups.refl (H : Hp) : Tups H H := fun _ _ h => h
/-- writing what is no tuple -/
theorem Tups.put {H : Hp} {p : Addr} {o u : HO} (h : H p = some o) (n : ∀ xs, o ≠ .tup xs) : Tups H (upd H p u) := fun a xs e => by
  rw [upd_ne (fun q => by subst q; rw [h] at e; exact n xs (Option.some.inj e))]
  exact e
theorem Tups.new {H : Hp} {p : Addr} {u : HO} (h : H p = none) : Tups H (upd H p u) := Tups.of (same_new h)

/-! ### callees -/
/-- a def of the text by its name, with its promise -/
structure Cal (P : Program) (w : World) (K : PySem.W.Frag) (mg : Str → Option Value) (base : Heap) (k : Nat) (x : Str) (ps : List Str) (sp : Sp) : Prop where
  ex : ∃ f fd, FnOk P w K mg base CX0 k f fd ps sp ∧ mg x = some (.ref f) ∧ PySem.W.keepIn K (.ref f) = true ∧ Binds K fd ps []
theorem Cal.mono {P : Program} {w : World} {K : PySem.W.Frag} {mg : Str → Option Value} {base : Heap} {j k : Nat} {x : Str} {ps : List Str} {sp : Sp} (C : Cal P w K mg base j x ps sp) (h : j ≤ k) : Cal P w K mg base k x ps sp :=
  let ⟨f, fd, a, b, c, d⟩ := C.ex
  ⟨f, fd, a.mono h, b, c, d⟩
def tCl (sp : Sp) (t : TA) : TE := fun σ H Q => t σ H fun vs H1 => sp vs H1 Q E0
section
variable {X : Cx} {k : Nat} {x : Str} {ps : List Str} {sp : Sp} {e : Expr} {es : List Expr} {p pos : Pos} {t : TA}
theorem pc (C : Cal X.prog X.w X.K X.mg X.base k x ps sp) (hr : Room k X.A) (ha : PA X (e :: es) t) (hg : Gl X x := by rfl) (hdb : (x == ("__debug__" : Str)) = false := by decide)
    (he : starEach (e :: es) X.env = (false, eval e X.env) :: starEach es X.env := by rfl) (hpl : (backTo pos (starEach es X.env)).any (·.1) = false := by rfl) : PE X (.Call (.Name x p) (e :: es) [] pos) (tCl sp t) := by
  obtain ⟨f, fd, F, hm, hk, hb⟩ := C.ex
  have q := pe_call (p := p) (pos := pos) F hr hg hm hk hb .nil pass0 ha hdb he hpl
  refine ⟨fun pins s σ H Q I h => q.run pins s σ H Q I ?_⟩
  show t σ H fun vs H1 => sp (vs ++ []) H1 Q E0
  have e1 : (fun vs H1 => sp (vs ++ []) H1 Q E0) = (fun vs H1 => sp vs H1 Q E0) := by
    funext vs H1
    rw [List.append_nil]
  rw [e1]
  exact h
/-- a module's constants -/
theorem pgi {i : Int} {x : Str} {pos : Pos} (h : ∃ t, X.mg x = some (.int i t)) (hg : Gl X x := by rfl) (hd : (x == ("__debug__" : Str)) = false := by decide) : PE X (.Name x pos) (tC (.int i)) := by
  obtain ⟨t, h⟩ := h
  exact pe_glob hg h ⟨t, rfl⟩ hd
theorem pgs {z x : Str} {pos : Pos} (h : ∃ t, X.mg x = some (.str z t)) (hg : Gl X x := by rfl) (hd : (x == ("__debug__" : Str)) = false := by decide) : PE X (.Name x pos) (tC (.str z)) := by
  obtain ⟨t, h⟩ := h
  exact pe_glob hg h ⟨t, rfl⟩ hd
/-- a class of the text as a value -/
theorem pgc {C : Addr} {x : Str} {pos : Pos} (h : X.mg x = some (.ref C)) (hg : Gl X x := by rfl) (hd : (x == ("__debug__" : Str)) = false := by decide) : PE X (.Name x pos) (tC (.ref C)) := pe_glob hg h rfl hd
/-- a built-in class as a value -/
theorem pty (n : String) {x : Str} {pos : Pos} (hm : X.mg x = none) (hg : Gl X x := by rfl) (hv : bootBuiltins x = some (.type n) := by decide +kernel) (hn : x ≠ "__name__" := by decide) (hd : (x == ("__debug__" : Str)) = false := by decide) :
    PE X (.Name x pos) (tC (.ty n)) := pe_bltn hg hm hv rfl hn hd
end
section
variable {P : Program} {w : World} {K : PySem.W.Frag} {mg : Str → Option Value} {base : Heap} {x qual : Str} {st : Stmt} {dvs : List V} {f : Addr} {fd : FuncData}
abbrev FnP (K : PySem.W.Frag) (x qual : Str) (st : Stmt) (dvs : List V) (f : Addr) (fd : FuncData) : Prop := FunD K x qual (defArgs st) (defBody st) (defScope st) dvs [] f fd
/-- the body of a def keeps its promise -/
theorem mk_fn {N ps : List Str} {k : Nat} {sp : Sp} (F : FnP K x qual st dvs f fd) (S : FnScope N ps (defScope st)) (len : ∀ vs H Q E, sp vs H Q E → vs.length = ps.length)
    (body : ∀ (cdv : Value) (A : Around) (outer : List Env) (s : Shared) (H : Hp) (vs : List V) (Q : VK) (E : XK), Room k (A.deeper (envOfC qual (defScope st) s.heap.objs.size f cdv)) → sp vs H Q E →
      ∃ t, PSs (cxOf CX0 P w K mg base N qual (defScope st) f cdv A outer s H E).nox (defBody st) t ∧ t { nx := fun _ H' => Q .non H', rt := Q } (start N vs) H) : FnOk P w K mg base CX0 (k + 1) f fd ps sp :=
  F.ok S len fun cdv A outer s H vs Q E hr h => let ⟨t, p, q⟩ := body cdv A outer s H vs Q E hr h; ⟨t, p.nox, q⟩
theorem mk_cal {k : Nat} {ps : List Str} {sp : Sp} (F : FnP K x qual st [] f fd) (hm : mg x = some (.ref f)) (O : FnOk P w K mg base CX0 k f fd ps sp)
    (b : ∀ (kV doc pm : Value) (an : Option Addr) (cdv ct : Value) (us : List Value), us.length = ps.length → bindArgs (PySem.W.fnOf x qual (defArgs st) (defBody st) (defScope st) .none kV doc pm an cdv ct) ⟨us, []⟩ = pure (ps.zip us)) : Cal P w K mg base k x ps sp := by
  refine ⟨f, fd, O, hm, F.kp, ?_⟩
  obtain ⟨oc, od, dV, kV, doc, pm, an, cdv, ct, osl, rfl, lk, hcd, hD, hK⟩ := F.ex
  rcases hD with ⟨_, rfl⟩ | ⟨e, _⟩
  · exact .all (b kV doc pm an cdv ct)
  · exact absurd rfl e
end

/-! ### what the top holds -/
structure Tx (K : PySem.W.Frag) (mg : Str → Option Value) : Prop where
  len : mg "len" = none
  isinstance : mg "isinstance" = none
  sorted : mg "sorted" = none
  enumerate : mg "enumerate" = none
  range : mg "range" = none
  list : mg "list" = none
  tuple : mg "tuple" = none
  set : mg "set" = none
  dict : mg "dict" = none
  int : mg "int" = none
  max : mg "max" = none
  bool : mg "bool" = none
  str : mg "str" = none
  LETTERS : ∃ t, mg "LETTERS" = some (.str "abcdefghijklmnopqrstuvwxyz" t)
  MOST_STATE : ∃ t, mg "MOST_STATE" = some (.int 99 t)
  MOST_LETTERS : ∃ t, mg "MOST_LETTERS" = some (.int 12 t)
  MOST_STEPS : ∃ t, mg "MOST_STEPS" = some (.int 80 t)
  MOST_FROM : ∃ t, mg "MOST_FROM" = some (.int 8 t)
  MOST_WORDS : ∃ t, mg "MOST_WORDS" = some (.int 14 t)
  MOST_FAULTS : ∃ t, mg "MOST_FAULTS" = some (.int 3 t)
  MOST_PAIRS : ∃ t, mg "MOST_PAIRS" = some (.int 100 t)
  MOST_WATCHES : ∃ t, mg "MOST_WATCHES" = some (.int 3 t)
  MOST_TUPLES : ∃ t, mg "MOST_TUPLES" = some (.int 5000 t)
  AHEAD : ∃ t, mg "AHEAD" = some (.int 0 t)
  BEHIND : ∃ t, mg "BEHIND" = some (.int 1 t)
/-- a class of the text whose instances are met -/
structure ClsX (K : PySem.W.Frag) (C : Addr) : Prop where
  cl : Cls K C
  ha : PySem.W.findIn K (.ref C) "__class__" = some (some (.builtin "object.__class__"))
  hn : PySem.W.specialIn K (.builtin "object.__class__") "__get__" = some (some (.builtin "getset_descriptor.__get__"))
  htk : PySem.W.takesIn K (.builtin "object.__class__") = some true
  hm : PySem.W.mroIn K C (.type "object") = some true
  self : PySem.W.kitOne K (.ref C) (.ref C) = some true
end Kn

end
section
namespace Kn
open PySem PySem.Spec PyProof.Rows L2
section
variable {P : Program} {w : World} {K : PySem.W.Frag} {mg : Str → Option Value} {base : Heap}
theorem sc_IsInteger : FnScope ["value"] ["value"] (defScope sIsInteger) := ⟨rfl, rfl, rfl, by decide +kernel, rfl, by decide +kernel, by decide +kernel⟩
theorem sc_IsCount : FnScope ["value", "most"] ["value", "most"] (defScope sIsCount) := ⟨rfl, rfl, rfl, by decide +kernel, rfl, by decide +kernel, by decide +kernel⟩
theorem sc_IsState : FnScope ["value"] ["value"] (defScope sIsState) := ⟨rfl, rfl, rfl, by decide +kernel, rfl, by decide +kernel, by decide +kernel⟩
theorem sc_IsName : FnScope ["value", "letter"] ["value"] (defScope sIsName) := ⟨rfl, rfl, rfl, by decide +kernel, rfl, by decide +kernel, by decide +kernel⟩
theorem sc_IsRow : FnScope ["value"] ["value"] (defScope sIsRow) := ⟨rfl, rfl, rfl, by decide +kernel, rfl, by decide +kernel, by decide +kernel⟩
def spIsInteger : Sp := fun vs H Q _ => ∃ n : Int, vs = [.int n] ∧ Q (.bl true) H
theorem ok_IsInteger {f : Addr} {fd : FuncData} (F : FnP K "is_integer" "is_integer" sIsInteger [] f fd) (T : Tx K mg) : FnOk P w K mg base CX0 1 f fd ["value"] spIsInteger := by
  refine mk_fn F sc_IsInteger (fun vs H Q E h => ?_) (fun cdv A outer s H vs Q E hr h => ?_)
  · obtain ⟨n, rfl, _⟩ := h
    rfl
  · obtain ⟨n, rfl, q⟩ := h
    refine ⟨_, pss_one (ps_ret (pe_and (pe_callB call_isi (by rfl) T.isinstance (by decide +kernel) (pa_cons (pv 0) (pa_cons (pty "int" T.int) pa_nil)))
      (pe_one (pe_not (pe_callB call_isi (by rfl) T.isinstance (by decide +kernel) (pa_cons (pv 0) (pa_cons (pty "bool" T.bool) pa_nil))))))), ?_⟩
    refine ⟨_, rfl, _, _, _, _, true, rfl, .ty _, .base (.int n), kit_ty (by decide +kernel), true, rfl, iteT ?_⟩
    refine ⟨_, rfl, _, _, _, _, false, rfl, .ty _, .base (.int n), kit_ty (by decide +kernel), false, rfl, q⟩
def spIsCount : Sp := fun vs H Q _ => ∃ n m : Int, vs = [.int n, .int m] ∧ Q (.bl (decide (0 ≤ n ∧ n ≤ m))) H
theorem ok_IsCount {f : Addr} {fd : FuncData} (F : FnP K "is_count" "is_count" sIsCount [] f fd) (C1 : Cal P w K mg base 1 "is_integer" ["value"] spIsInteger) : FnOk P w K mg base CX0 2 f fd ["value", "most"] spIsCount := by
  refine mk_fn F sc_IsCount (fun vs H Q E h => ?_) (fun cdv A outer s H vs Q E hr h => ?_)
  · obtain ⟨n, m, rfl, _⟩ := h
    rfl
  · obtain ⟨n, m, rfl, q⟩ := h
    refine ⟨_, pss_one (ps_ret (pe_and (pc C1 hr (pa_cons (pv 0) pa_nil)) (pe_one (pe_chain op_le op_le pe_int (pv 0) (pv 1))))), ?_⟩
    refine ⟨_, rfl, n, rfl, true, rfl, iteT ?_⟩
    refine ⟨_, rfl, _, _, rfl, rfl, _, rfl, ite2 (fun e => ?_) (fun e => ?_)⟩
    · have e0 : (0 : Int) ≤ n := of_decide_eq_true e
      refine ⟨_, rfl, _, _, rfl, rfl, ?_⟩
      have e1 : decide (n ≤ m) = decide (0 ≤ n ∧ n ≤ m) := decide_eq_decide.mpr ⟨fun z => ⟨e0, z⟩, fun z => z.2⟩
      show Q (.bl (decide (n ≤ m))) H
      rw [e1]
      exact q
    · have e1 : decide (0 ≤ n ∧ n ≤ m) = false := decide_eq_false fun z => e (decide_eq_true z.1)
      rw [e1] at q
      exact q
def spIsState : Sp := fun vs H Q _ => ∃ n : Int, vs = [.int n] ∧ 0 ≤ n ∧ n ≤ 99 ∧ Q (.bl true) H
theorem ok_IsState {f : Addr} {fd : FuncData} (F : FnP K "is_state" "is_state" sIsState [] f fd) (T : Tx K mg) (C1 : Cal P w K mg base 2 "is_count" ["value", "most"] spIsCount) : FnOk P w K mg base CX0 3 f fd ["value"] spIsState := by
  refine mk_fn F sc_IsState (fun vs H Q E h => ?_) (fun cdv A outer s H vs Q E hr h => ?_)
  · obtain ⟨n, rfl, _⟩ := h
    rfl
  · obtain ⟨n, rfl, h0, h1, q⟩ := h
    refine ⟨_, pss_one (ps_ret (pc C1 hr (pa_cons (pv 0) (pa_cons (pgi T.MOST_STATE) pa_nil)))), ?_⟩
    refine ⟨_, rfl, n, 99, rfl, ?_⟩
    rw [decide_eq_true (show (0 : Int) ≤ n ∧ n ≤ 99 from ⟨h0, h1⟩)]
    exact q
/-- a name: 1 to 12 letters -/
def NameOk (z : Str) : Prop := 1 ≤ z.length ∧ z.length ≤ 12 ∧ ∀ c ∈ z.cps.toList, c ∈ ("abcdefghijklmnopqrstuvwxyz" : Str).cps.toList
def spIsName : Sp := fun vs H Q _ => ∃ z : Str, vs = [.str z] ∧ NameOk z ∧ Q (.bl true) H
theorem ok_IsName {f : Addr} {fd : FuncData} (F : FnP K "is_name" "is_name" sIsName [] f fd) (T : Tx K mg) : FnOk P w K mg base CX0 1 f fd ["value"] spIsName := by
  refine mk_fn F sc_IsName (fun vs H Q E h => ?_) (fun cdv A outer s H vs Q E hr h => ?_)
  · obtain ⟨z, rfl, _⟩ := h
    rfl
  · obtain ⟨z, rfl, ⟨h1, h2, h3⟩, q⟩ := h
    refine ⟨_, pss_cons (ps_if (PW.pt (pw_or (pt_not (pt_val (pe_callB call_isi (by rfl) T.isinstance (by decide +kernel) (pa_cons (pv 0) (pa_cons (pty "str" T.str) pa_nil)))))
        (pw_or1 (pt_not (pt_chain op_le op_le pe_int (pe_callB call_len_str (by rfl) T.len PySem.boot_len (pa_cons (pv 0) pa_nil)) (pgi T.MOST_LETTERS)))))) pss_never pss_nil)
      (pss_cons (ps_for PassesOwn.never rfl (pi_str (pv 0)) (pg_name (i := 1) sc_IsName.nd rfl (Or.inl rfl))
        (pss_one (ps_if (pt_cmpR op_notIn_sign (pv 1) (pgs T.LETTERS) rfl) pss_never pss_nil)))
      (pss_one (ps_ret pe_bl))), ?_⟩
    refine ⟨_, rfl, _, _, _, _, true, rfl, .ty _, .base (.str z), kit_ty (by decide +kernel), true, rfl, iteF ?_⟩
    refine ⟨_, rfl, _, rfl, Nat.le_trans h2 (by decide), _, _, rfl, rfl, _, rfl, ?_⟩
    rw [if_pos (decide_eq_true (show (1 : Int) ≤ (z.length : Int) by omega))]
    refine ⟨_, _, rfl, rfl, _, rfl, ?_⟩
    have e : decide ((z.length : Int) ≤ 12) = true := decide_eq_true (by omega)
    rw [e]
    refine iteF ?_
    refine ⟨_, rfl, z, rfl, ?_⟩
    refine for_it walk_str (fun i σ H' => H' = H ∧ ∃ v, σ = [some (.str z), v]) ⟨rfl, _, rfl⟩ (fun _ _ _ _ _ => trivial) ?_ ?_
    · rintro i x σ H1 H2 hi ⟨rfl, v, rfl⟩ ⟨rfl, c, hc, rfl⟩
      refine ⟨_, rfl, c, _, rfl, rfl, _, rfl, ?_⟩
      have m : c ∈ z.cps.toList := by
        rw [Array.mem_toList_iff]
        exact Array.mem_of_getElem? hc
      rw [decide_eq_true (h3 c m)]
      exact iteF ⟨rfl, _, rfl⟩
    · rintro σ H1 ⟨rfl, v, rfl⟩
      exact q
/-- what is a list or a tuple -/
def spIsRow (K : PySem.W.Frag) : Sp := fun vs H Q _ => ∃ a xs, vs = [.ref a] ∧ H a = some (.lst xs) ∧ ∀ H', Same H H' → Q (.bl true) H'
theorem ok_IsRow {f : Addr} {fd : FuncData} (F : FnP K "is_row" "is_row" sIsRow [] f fd) (T : Tx K mg) : FnOk P w K mg base CX0 1 f fd ["value"] (spIsRow K) := by
  refine mk_fn F sc_IsRow (fun vs H Q E h => ?_) (fun cdv A outer s H vs Q E hr h => ?_)
  · obtain ⟨a, xs, rfl, _⟩ := h
    rfl
  · obtain ⟨a, xs, rfl, hx, q⟩ := h
    refine ⟨_, pss_one (ps_ret (pe_callB call_isiT (by rfl) T.isinstance (by decide +kernel) (pa_cons (pv 0) (pa_cons (pe_tup (pa_cons (pty "list" T.list) (pa_cons (pty "tuple" T.tuple) pa_nil))) pa_nil)))), ?_⟩
    refine ⟨_, rfl, by show 2 ≤ sizeLine; decide, fun p np => ?_⟩
    refine ⟨_, p, _, _, _, true, rfl, upd_same, .cons (.ty _) (.cons (.ty _) .nil), .base (.lst (up_new hx np)), ?_, q _ (same_new np)⟩
    exact kitAny_cons (b := true) (kit_ty (by decide +kernel)) (fun z => nomatch z) (fun _ => rfl)
end
end Kn

end
section
/-! Machines and watches as they stand in the heap. -/
namespace Kn
open PySem PySem.Spec PyProof.Rows L2
def RowAt (H : Hp) (a : Addr) (r : Row) : Prop := H a = some (.tup [.int r.1, .str r.2.1, .int r.2.2])
def SpotAt (H : Hp) (a : Addr) (sp : List Int) : Prop := H a = some (.tup (sp.map V.int))
def tabK (t : Tab) : List (Key × V) := t.map fun p => (.inr p.1, .str p.2)
theorem valV_tab (t : Tab) (x : Str) : valV (tabK t) (.inr x) = (look t x).map V.str := by
  induction t with
  | nil => rfl
  | cons p r ih =>
    by_cases e : p.1 = x
    · have e1 : valV (tabK (p :: r)) (.inr x) = some (.str p.2) := valV_pos (p := (Sum.inr p.1, V.str p.2)) (congrArg Sum.inr e)
      have e2 : look (p :: r) x = some p.2 := by
        unfold look
        rw [List.find?_cons, decide_eq_true e]
        rfl
      rw [e1, e2]
      rfl
    · have e1 : valV (tabK (p :: r)) (.inr x) = valV (tabK r) (.inr x) := valV_neg (p := (Sum.inr p.1, V.str p.2)) fun z => e (Sum.inr.inj z)
      have e2 : look (p :: r) x = look r x := by
        unfold look
        rw [List.find?_cons, decide_eq_false e]
      rw [e1, e2, ih]
/-- the numbers of the steps that leave s -/
def nums (rows : List Row) (s : Int) : List Nat := (List.range rows.length).filter fun i => decide ((rows[i]?).map (·.1) = some s)
theorem mem_nums {rows : List Row} {s : Int} {i : Nat} : i ∈ nums rows s ↔ ∃ r, rows[i]? = some r ∧ r.1 = s := by
  unfold nums
  rw [List.mem_filter, List.mem_range, decide_eq_true_eq]
  constructor
  · rintro ⟨h, e⟩
    rw [List.getElem?_eq_getElem h] at e
    exact ⟨_, List.getElem?_eq_getElem h, Option.some.inj e⟩
  · rintro ⟨r, h, e⟩
    refine ⟨(List.getElem?_eq_some_iff.mp h).1, ?_⟩
    rw [h, Option.map_some, e]
abbrev natV (n : Nat) : V := V.int (n : Int)
def LvAt (H : Hp) (lv : List (Key × V)) (ns : List Nat) (s : Int) : Prop := (valV lv (.inl s) = none ∧ ns = []) ∨ ∃ l, valV lv (.inl s) = some (.ref l) ∧ H l = some (.lst (ns.map natV))
structure MDat where
  dx : Addr
  fs : List (Str × V)
  ar : Addr
  aw : Addr
  af : Addr
  al : Addr
  ts : List Addr
  lv : List (Key × V)
structure MachD (C : Addr) (H : Hp) (m : Addr) (M : Mach) (wl : List Str) (d : MDat) : Prop where
  ob : H m = some (.ins C d.dx d.fs)
  f1 : d.fs.lookup ("first_state" : Str) = some (.int M.start)
  f2 : d.fs.lookup ("step_rows" : Str) = some (.ref d.ar)
  rows : H d.ar = some (.lst (d.ts.map V.ref))
  row : Paired (RowAt H) d.ts M.rows
  f3 : d.fs.lookup ("word_list" : Str) = some (.ref d.aw)
  wl : H d.aw = some (.lst (wl.map V.str))
  f4 : d.fs.lookup ("fault_table" : Str) = some (.ref d.af)
  ft : H d.af = some (.dK (tabK M.ft))
  f5 : d.fs.lookup ("leaving" : Str) = some (.ref d.al)
  lv : H d.al = some (.dK d.lv)
  lvs : ∀ s : Int, LvAt H d.lv (nums M.rows s) s
  no : d.fs.lookup ("beside" : Str) = none
theorem RowAt.tups {H H' : Hp} (s : Tups H H') {a : Addr} {r : Row} (h : RowAt H a r) : RowAt H' a r := s _ _ h
theorem SpotAt.tups {H H' : Hp} (s : Tups H H') {a : Addr} {r : List Int} (h : SpotAt H a r) : SpotAt H' a r := s _ _ h
theorem rows_tups {H H' : Hp} (s : Tups H H') {ts : List Addr} {rows : List Row} (h : Paired (RowAt H) ts rows) : Paired (RowAt H') ts rows := Paired.mapP h fun _ _ z => z.tups s
theorem LvAt.same {H H' : Hp} (s : Same H H') {lv : List (Key × V)} {ns : List Nat} {x : Int} (h : LvAt H lv ns x) : LvAt H' lv ns x := by
  rcases h with h | ⟨l, h1, h2⟩
  · exact .inl h
  · exact .inr ⟨l, h1, s _ _ h2⟩
theorem MachD.same {C : Addr} {H H' : Hp} {m : Addr} {M : Mach} {wl : List Str} {d : MDat} (s : Same H H') (h : MachD C H m M wl d) : MachD C H' m M wl d where
  ob := s _ _ h.ob
  f1 := h.f1
  f2 := h.f2
  rows := s _ _ h.rows
  row := rows_tups (.of s) h.row
  f3 := h.f3
  wl := s _ _ h.wl
  f4 := h.f4
  ft := s _ _ h.ft
  f5 := h.f5
  lv := s _ _ h.lv
  lvs := fun x => (h.lvs x).same s
  no := h.no
def MachAt (C : Addr) (H : Hp) (m : Addr) (M : Mach) (wl : List Str) : Prop := ∃ d, MachD C H m M wl d
theorem MachAt.same {C : Addr} {H H' : Hp} {m : Addr} {M : Mach} {wl : List Str} (s : Same H H') (h : MachAt C H m M wl) : MachAt C H' m M wl := let ⟨d, x⟩ := h; ⟨d, x.same s⟩
theorem MachD.at {C : Addr} {H : Hp} {m : Addr} {M : Mach} {wl : List Str} {d : MDat} (h : MachD C H m M wl d) {i : Nat} {r : Row} (e : M.rows[i]? = some r) : ∃ t, d.ts[i]? = some t ∧ RowAt H t r := by
  have q := h.row
  have hl : d.ts.length = M.rows.length := Paired.length q
  have hi : i < d.ts.length := by
    rw [hl]
    exact (List.getElem?_eq_some_iff.mp e).1
  obtain ⟨b, hb, hr⟩ := L2.paired_get q (List.getElem?_eq_getElem hi)
  rw [e] at hb
  cases hb
  exact ⟨_, List.getElem?_eq_getElem hi, hr⟩
/-- a watch -/
def WatchAt (C : Addr) (H : Hp) (a : Addr) (t : Tab) : Prop := ∃ dx fs ad, H a = some (.ins C dx fs) ∧ fs.lookup ("table" : Str) = some (.ref ad) ∧ H ad = some (.dK (tabK t))
theorem WatchAt.same {C : Addr} {H H' : Hp} {a : Addr} {t : Tab} (s : Same H H') (h : WatchAt C H a t) : WatchAt C H' a t := let ⟨dx, fs, ad, h1, h2, h3⟩ := h; ⟨dx, fs, ad, s _ _ h1, h2, s _ _ h3⟩
/-- a row of watches -/
def WsAt (C : Addr) (H : Hp) (l : Addr) (ws : List Tab) : Prop := ∃ as : List Addr, H l = some (.lst (as.map V.ref)) ∧ Paired (WatchAt C H) as ws
theorem WsAt.same {C : Addr} {H H' : Hp} {l : Addr} {ws : List Tab} (s : Same H H') (h : WsAt C H l ws) : WsAt C H' l ws := let ⟨as, h1, h2⟩ := h; ⟨as, s _ _ h1, Paired.mapP h2 fun _ _ z => z.same s⟩
/-- the classes of the text -/
structure TxM (K : PySem.W.Frag) (mg : Str → Option Value) (C : Addr) : Prop where
  x : ClsX K C
  g : mg "Machine" = some (.ref C)
  n1 : NoAttr K C "first_state"
  n2 : NoAttr K C "step_rows"
  n3 : NoAttr K C "word_list"
  n4 : NoAttr K C "fault_table"
  n5 : NoAttr K C "leaving"
  n6 : NoAttr K C "met_states"
structure TxW (K : PySem.W.Frag) (mg : Str → Option Value) (C : Addr) : Prop where
  x : ClsX K C
  g : mg "Watch" = some (.ref C)
  n1 : NoAttr K C "table"

section
variable {P : Program} {w : World} {K : PySem.W.Frag} {mg : Str → Option Value} {base : Heap} {C : Addr}
theorem sc_StepsFrom : FnScope ["machine", "state"] ["machine", "state"] (defScope sStepsFrom) := ⟨rfl, rfl, rfl, by decide +kernel, rfl, by decide +kernel, by decide +kernel⟩
theorem sc_IsFaultStep : FnScope ["machine", "number", "fault"] ["machine", "number", "fault"] (defScope sIsFaultStep) := ⟨rfl, rfl, rfl, by decide +kernel, rfl, by decide +kernel, by decide +kernel⟩
theorem sc_SightOf : FnScope ["watch", "word"] ["watch", "word"] (defScope sSightOf) := ⟨rfl, rfl, rfl, by decide +kernel, rfl, by decide +kernel, by decide +kernel⟩
def spStepsFrom (C : Addr) : Sp := fun vs H Q _ => ∃ m M wl s, vs = [.ref m, .int s] ∧ MachAt C H m M wl ∧ ∀ H' p, Same H H' → H p = none → H' p = some (.lst ((nums M.rows s).map natV)) → Q (.ref p) H'
theorem ok_StepsFrom {f : Addr} {fd : FuncData} (F : FnP K "steps_from" "steps_from" sStepsFrom [] f fd) (T : Tx K mg) (TM : TxM K mg C) : FnOk P w K mg base CX0 1 f fd ["machine", "state"] (spStepsFrom C) := by
  refine mk_fn F sc_StepsFrom (fun vs H Q E h => ?_) (fun cdv A outer s H vs Q E hr h => ?_)
  · obtain ⟨m, M, wl, s, rfl, _⟩ := h
    rfl
  · obtain ⟨m, M, wl, s, rfl, ⟨d, D⟩, q⟩ := h
    have hu := hu_of hr
    refine ⟨_, pss_one (ps_ret (pe_callTy call_list_of (by rfl) T.list (by decide +kernel) (pa_cons (pe_dget2 hu (pe_fld (pv 0) rfl) (pv 1) (pe_lst pa_nil) ⟨rfl, rfl, rfl, rfl⟩) pa_nil))), ?_⟩
    refine ⟨_, rfl, m, C, d.dx, d.fs, _, rfl, D.ob, TM.x.cl, TM.n5, D.f5, d.al, rfl, .inl ⟨_, .inl D.lv⟩, _, rfl, Nat.zero_le _, fun p np => ?_⟩
    have s1 : Same H (upd H p (.lst [])) := same_new np
    refine ⟨_, DGet.k (k := Sum.inl s) (s1 _ _ D.lv), ?_⟩
    rcases D.lvs s with ⟨e, e0⟩ | ⟨l, e, hl⟩
    · rw [e]
      refine ⟨p, [], rfl, .inl (SqL.of upd_same), fun z nz => ?_⟩
      exact q _ _ (same_add s1 nz) (s1.free nz) (by rw [e0]; exact upd_same)
    · rw [e]
      refine ⟨l, _, rfl, .inl (SqL.of (s1 _ _ hl)), fun z nz => ?_⟩
      exact q _ _ (same_add s1 nz) (s1.free nz) upd_same
def spSightOf (C : Addr) : Sp := fun vs H Q _ => ∃ a t x, vs = [.ref a, .str x] ∧ WatchAt C H a t ∧ Q (((look t x).map V.str).getD .non) H
theorem ok_SightOf {f : Addr} {fd : FuncData} (F : FnP K "sight_of" "sight_of" sSightOf [] f fd) (TW : TxW K mg C) : FnOk P w K mg base CX0 1 f fd ["watch", "word"] (spSightOf C) := by
  refine mk_fn F sc_SightOf (fun vs H Q E h => ?_) (fun cdv A outer s H vs Q E hr h => ?_)
  · obtain ⟨a, t, x, rfl, _⟩ := h
    rfl
  · obtain ⟨a, t, x, rfl, ⟨dx, fs, ad, h1, h2, h3⟩, q⟩ := h
    have hu := hu_of hr
    refine ⟨_, pss_one (ps_ret (pe_dget1 hu (pe_fld (pv 0) rfl) (pv 1) ⟨rfl, rfl, rfl, rfl⟩)), ?_⟩
    refine ⟨_, rfl, a, C, dx, fs, _, rfl, h1, TW.x.cl, TW.n1, h2, ad, rfl, .inl ⟨_, .inl h3⟩, _, rfl, _, DGet.k (k := Sum.inr x) h3, ?_⟩
    rw [valV_tab]
    exact q
def spIsFaultStep (C : Addr) : Sp := fun vs H Q _ => ∃ m M wl n f r, vs = [.ref m, natV n, .str f] ∧ MachAt C H m M wl ∧ M.rows[n]? = some r ∧ Q (.bl (decide (M.fault r.2.1 = some f))) H
theorem ok_IsFaultStep {f : Addr} {fd : FuncData} (F : FnP K "is_fault_step" "is_fault_step" sIsFaultStep [] f fd) (TM : TxM K mg C) : FnOk P w K mg base CX0 1 f fd ["machine", "number", "fault"] (spIsFaultStep C) := by
  refine mk_fn F sc_IsFaultStep (fun vs H Q E h => ?_) (fun cdv A outer s H vs Q E hr h => ?_)
  · obtain ⟨m, M, wl, n, f, r, rfl, _⟩ := h
    rfl
  · obtain ⟨m, M, wl, n, f, r, rfl, ⟨d, D⟩, hr0, q⟩ := h
    have hu := hu_of hr
    obtain ⟨t, ht, hR⟩ := D.at hr0
    refine ⟨_, pss_one (ps_ret (pe_cmpR op_eq (pe_dget1 hu (pe_fld (pv 0) rfl) (pe_ix ix_tup (pe_ix ix_list (pe_fld (pv 0) rfl) (pv 1) (fun _ _ => rfl)) pe_int (fun _ _ => rfl)) ⟨rfl, rfl, rfl, rfl⟩) (pv 2) (nomark _))), ?_⟩
    refine ⟨_, rfl, m, C, d.dx, d.fs, _, rfl, D.ob, TM.x.cl, TM.n4, D.f4, d.af, rfl, .inl ⟨_, .inl D.ft⟩, ?_⟩
    refine ⟨_, rfl, m, C, d.dx, d.fs, _, rfl, D.ob, TM.x.cl, TM.n2, D.f2, _, rfl, d.ar, _, _, .ref t, rfl, rfl, SqL.of D.rows, atI_nat (by rw [List.getElem?_map, ht]; rfl), ?_⟩
    refine ⟨t, _, _, _, rfl, rfl, SqT.of hR, atI_nat (j := 1) rfl, _, DGet.k (k := Sum.inr r.2.1) D.ft, _, rfl, ?_⟩
    rw [valV_tab]
    have e : look M.ft r.2.1 = M.fault r.2.1 := rfl
    rw [e]
    cases h : M.fault r.2.1 with
    | none =>
      rw [h] at q
      exact ⟨rfl, q⟩
    | some z =>
      rw [h] at q
      refine ⟨rfl, ?_⟩
      have e2 : decide (V.str z = V.str f) = decide (some z = some f) := decide_eq_decide.mpr ⟨fun q => by cases q; rfl, fun q => by cases q; rfl⟩
      show Q (.bl (decide (V.str z = V.str f))) H
      rw [e2]
      exact q
end
end Kn

end
section
set_option maxHeartbeats 2000000
/-! Dicts whose keys are tuples, nested ones too, with the very addresses of their keys. -/
namespace Kn
open PySem PySem.Spec PyProof.Rows L2
mutual
inductive NK (H : Hp) : NestedKey → V → Prop
  | num (i : Int) : NK H (.num i) (.int i)
  | tup {a : Addr} {vs : List V} {ks : List NestedKey} : H a = some (.tup vs) → NKs H ks vs → NK H (.tup ks) (.ref a)
inductive NKs (H : Hp) : List NestedKey → List V → Prop
  | nil : NKs H [] []
  | cons {k : NestedKey} {v : V} {ks : List NestedKey} {vs : List V} : NK H k v → NKs H ks vs → NKs H (k :: ks) (v :: vs)
end
mutual
theorem NK.tups {H H' : Hp} (s : Tups H H') : ∀ {k : NestedKey} {v : V}, NK H k v → NK H' k v
  | _, _, .num i => .num i
  | _, _, .tup h r => .tup (s _ _ h) (NKs.tups s r)
theorem NKs.tups {H H' : Hp} (s : Tups H H') : ∀ {ks : List NestedKey} {vs : List V}, NKs H ks vs → NKs H' ks vs
  | _, _, .nil => .nil
  | _, _, .cons h r => .cons (NK.tups s h) (NKs.tups s r)
end
mutual
theorem NK.is {P : Program} {w : World} {H : Hp} {h : Heap} (ok : HOk P w H h) : ∀ {k : NestedKey} {v : V} {u : Value}, NK H k v → RelV v u → NestedIs h k u
  | _, _, u, .num i, r => by
    obtain ⟨t, rfl⟩ := (show ∃ t, u = Value.int i t from r)
    exact .int i t
  | _, _, u, @NK.tup _ a vs ks e q, r => by
    obtain rfl : u = Value.ref a := r
    obtain ⟨_, its, rv, o, h1, h2, n, h3⟩ := (show ObjOk P w H h a (.tup vs) from ok a _ e)
    exact .tup h1 h2 h3 (by simpa using NKs.is ok q rv)
theorem NKs.is {P : Program} {w : World} {H : Hp} {h : Heap} (ok : HOk P w H h) : ∀ {ks : List NestedKey} {vs : List V} {us : List Value}, NKs H ks vs → Vals vs us → NestedAll h ks us
  | _, _, _, .nil, .nil => .nil
  | _, _, _, .cons h1 h2, .cons r1 r2 => .cons (NK.is ok h1 r1) (NKs.is ok h2 r2)
end
/-- the tuple at a is the key k -/
def KeyA (H : Hp) (k : NestedKey) (a : Addr) : Prop := NK H k (.ref a) ∧ k.depth ≤ 8
theorem KeyA.tups {H H' : Hp} (s : Tups H H') {k : NestedKey} {a : Addr} (h : KeyA H k a) : KeyA H' k a := ⟨h.1.tups s, h.2⟩
def spk (sp : List Int) : NestedKey := .tup (sp.map .num)
def sdk (b : Int) (sp : List Int) : NestedKey := .tup [.num b, spk sp]
theorem nks_nums {H : Hp} : ∀ sp : List Int, NKs H (sp.map .num) (sp.map V.int)
  | [] => .nil
  | i :: sp => .cons (.num i) (nks_nums sp)
theorem depth_nums : ∀ sp : List Int, NestedKey.depthAll (sp.map .num) = 0
  | [] => rfl
  | i :: sp => by
    show max 0 (NestedKey.depthAll (sp.map .num)) = 0
    rw [depth_nums sp]
    rfl
theorem depth_spk (sp : List Int) : (spk sp).depth = 1 := by
  show NestedKey.depthAll (sp.map .num) + 1 = 1
  rw [depth_nums]
theorem keyA_spot {H : Hp} {a : Addr} {sp : List Int} (h : SpotAt H a sp) : KeyA H (spk sp) a := ⟨.tup h (nks_nums sp), by rw [depth_spk]; decide⟩
theorem keyA_side {H : Hp} {a c : Addr} {b : Int} {sp : List Int} (h : H a = some (.tup [.int b, .ref c])) (hc : SpotAt H c sp) : KeyA H (sdk b sp) a :=
  ⟨.tup h (.cons (.num b) (.cons (keyA_spot hc).1 .nil)), by show max 0 (max (spk sp).depth 0) + 1 ≤ 8; rw [depth_spk]; decide⟩
theorem num_inj : ∀ {a b : List Int}, a.map NestedKey.num = b.map NestedKey.num → a = b
  | [], [], _ => rfl
  | [], _ :: _, h => by simp at h
  | _ :: _, [], h => by simp at h
  | x :: a, y :: b, h => by
    rw [List.map_cons, List.map_cons] at h
    injection h with h1 h2
    injection h1 with h1
    rw [h1, num_inj h2]
theorem spk_inj {a b : List Int} (h : spk a = spk b) : a = b := by
  unfold spk at h
  injection h with h
  exact num_inj h
theorem sdk_inj {a b : Int} {s t : List Int} (h : sdk a s = sdk b t) : a = b ∧ s = t := by
  unfold sdk at h
  injection h with h
  injection h with h1 h2
  injection h1 with h1
  injection h2 with h2 _
  exact ⟨h1, spk_inj h2⟩
theorem spotAt_of {H : Hp} {a : Addr} {sp : List Int} (h : KeyA H (spk sp) a) : SpotAt H a sp := by
  obtain ⟨h, _⟩ := h
  have nums : ∀ {ks : List Int} {vs : List V}, NKs H (ks.map .num) vs → vs = ks.map V.int := by
    intro ks
    induction ks with
    | nil => intro vs q; cases q; rfl
    | cons i ks ih =>
      intro vs q
      cases q with
      | cons q1 q2 =>
        cases q1
        rw [ih q2]
        rfl
  cases h with
  | tup e q =>
    rw [nums q] at e
    exact e
theorem sideAt_of {H : Hp} {a : Addr} {b : Int} {sp : List Int} (h : KeyA H (sdk b sp) a) : ∃ c, H a = some (.tup [.int b, .ref c]) ∧ SpotAt H c sp := by
  obtain ⟨h, _⟩ := h
  cases h with
  | tup e q =>
    cases q with
    | cons q1 q2 =>
      cases q1
      cases q2 with
      | cons q3 q4 =>
        cases q4
        cases q3 with
        | @tup c vs ks e2 q5 => exact ⟨c, e, spotAt_of ⟨.tup e2 q5, by rw [depth_spk]; decide⟩⟩

/-! ### the dict -/
abbrev Ent := NestedKey × Addr × V
abbrev EntU := NestedKey × Addr × Value
def EntR (x : Ent) (y : EntU) : Prop := x.1 = y.1 ∧ x.2.1 = y.2.1 ∧ RelV x.2.2 y.2.2
def RawX (P : Program) (w : World) (h : Heap) (d : Addr) (ys : List EntU) (ep : Nat) : Prop :=
  ∃ o es, h.get? d = some o ∧ o.ExactDict ∧ o.data = .dict es ep ∧ es.toList = ys.map (entryOfKey (nestedKind P w)) ∧ (ys.map (·.1)).Nodup
def DXok (P : Program) (w : World) (d : Addr) (xs : List Ent) (ep : Nat) (h : Heap) : Prop := xs.length ≤ sizeLine ∧ (d == sysModules) = false ∧ ∃ ys, Paired EntR xs ys ∧ RawX P w h d ys ep
def DX (P : Program) (w : World) (d : Addr) (xs : List Ent) (ep : Nat) : HO := .ext (DXok P w d xs ep)
def KO (H : Hp) (xs : List Ent) : Prop := ∀ x ∈ xs, KeyA H x.1 x.2.1
theorem KO.nil {H : Hp} : KO H [] := fun _ h => nomatch h
theorem KO.tups {H H' : Hp} (s : Tups H H') {xs : List Ent} (h : KO H xs) : KO H' xs := fun x hx => (h x hx).tups s
theorem KO.snoc {H : Hp} {xs : List Ent} {k : NestedKey} {a : Addr} {v : V} (h : KO H xs) (ha : KeyA H k a) : KO H (xs ++ [(k, a, v)]) := fun x hx => by
  rcases List.mem_append.mp hx with q | q
  · exact h x q
  · rw [List.mem_singleton.mp q]
    exact ha
section
variable {P : Program} {w : World} {H : Hp} {h : Heap} {d : Addr} {xs : List Ent}
theorem entR_keys : ∀ {xs : List Ent} {ys : List EntU}, Paired EntR xs ys → xs.map (·.1) = ys.map (·.1)
  | _, _, .nil => rfl
  | _, _, .cons r t => by
    rw [List.map_cons, List.map_cons, r.1, entR_keys t]
theorem dx_ok {ep : Nat} {ys : List EntU} (hz : xs.length ≤ sizeLine) (hd : (d == sysModules) = false) (r : Paired EntR xs ys) (q : RawX P w h d ys ep) : ObjOk P w H h d (DX P w d xs ep) := by
  obtain ⟨o', es, ho, rest⟩ := id q
  refine ⟨⟨hz, hd, ys, r, q⟩, ⟨o', ho⟩, ?_⟩
  rintro h1 h2 ⟨a, b, zs, c, o2, es2, ho2, r2⟩ k
  exact ⟨a, b, zs, c, o2, es2, k _ ho2, r2⟩
theorem dx_get {ep : Nat} (ok : HOk P w H h) (e : H d = some (DX P w d xs ep)) : DXok P w d xs ep h := by
  obtain ⟨q, _, _⟩ := (show ObjOk P w H h d (DX P w d xs ep) from ok d _ e)
  exact q
theorem ko_all (ok : HOk P w H h) {xs : List Ent} {ys : List EntU} (hk : KO H xs) (r : Paired EntR xs ys) : ∀ y ∈ ys, (nestedKind P w).is h y.1 y.2.1 := by
  induction r with
  | nil => exact fun y hy => nomatch hy
  | @cons x y0 xs ys r t ih =>
    intro y hy
    rcases List.mem_cons.mp hy with e | hy
    · subst e
      have q := hk x List.mem_cons_self
      rw [r.1, r.2.1] at q
      exact ⟨q.1.is ok rfl, q.2⟩
    · exact ih (fun z hz => hk z (List.mem_cons_of_mem _ hz)) y hy
theorem dx_dictOf {ep : Nat} (ok : HOk P w H h) (e : H d = some (DX P w d xs ep)) (hk : KO H xs) : xs.length ≤ sizeLine ∧ (d == sysModules) = false ∧ ∃ ys, Paired EntR xs ys ∧ h.DictOfH (nestedKind P w) d ys := by
  obtain ⟨a, b, ys, r, o, es, h1, h2, h3, h4, h5⟩ := dx_get ok e
  exact ⟨a, b, ys, r, o, es, ep, h1, h2, h3, h4, ko_all ok hk r, h5⟩
theorem atKey_mem {ys : List EntU} {k : NestedKey} : (atKey ys k).isSome = decide (k ∈ ys.map (·.1)) := by
  induction ys with
  | nil => rfl
  | cons y r ih =>
    by_cases e : y.1 = k
    · have h1 : atKey (y :: r) k = some y.2 := by simp [atKey, e]
      rw [h1, List.map_cons, e]
      exact (decide_eq_true List.mem_cons_self).symm
    · have h1 : atKey (y :: r) k = atKey r k := by simp [atKey, e]
      rw [h1, ih]
      refine decide_eq_decide.mpr ?_
      rw [List.map_cons, List.mem_cons]
      exact ⟨.inr, fun q => q.resolve_left fun z => e z.symm⟩
theorem atKey_of : ∀ {ys : List EntU} {k : NestedKey} {p : Addr × Value}, (ys.map (·.1)).Nodup → (k, p) ∈ ys → atKey ys k = some p
  | y :: r, k, p, hn, hm => by
    have hn : (y.1 :: r.map (·.1)).Nodup := hn
    obtain ⟨n1, n2⟩ := List.nodup_cons.mp hn
    rcases List.mem_cons.mp hm with e | hm
    · subst e
      simp [atKey]
    · have e : ¬ y.1 = k := fun z => n1 (by rw [z]; exact List.mem_map.mpr ⟨_, hm, rfl⟩)
      have h1 : atKey (y :: r) k = atKey r k := by simp [atKey, e]
      rw [h1]
      exact atKey_of n2 hm
theorem entR_mem {xs : List Ent} {ys : List EntU} {k : NestedKey} {a : Addr} {v : V} (r : Paired EntR xs ys) (hm : (k, a, v) ∈ xs) : ∃ u, (k, a, u) ∈ ys ∧ RelV v u := by
  induction r with
  | nil => exact nomatch hm
  | @cons x y xs ys r t ih =>
    rcases List.mem_cons.mp hm with e | hm
    · subst e
      obtain ⟨r1, r2, r3⟩ := r
      obtain ⟨y1, y2, y3⟩ := y
      cases r1
      cases r2
      exact ⟨y3, List.mem_cons_self, r3⟩
    · obtain ⟨u, h1, h2⟩ := ih hm
      exact ⟨u, List.mem_cons_of_mem _ h1, h2⟩
end
theorem nested_room {P : Program} {w : World} {A : Around} {k : Nat} (hr : Room k A) : (nestedKind P w).room A.in1 := by
  have q := hr.units
  show A.units + 1 + 8 < cLine
  omega
section
variable {X : Cx} {k : Nat}
/-- {} -/
theorem pe_dx0 {pos : Pos} : PE X (.Dict [] [] pos) (fun _ H Q => ∀ p ep, H p = none → Q (.ref p) (upd H p (DX X.prog X.w p [] ep))) := by
  refine ⟨fun pins s σ H Q I h => ?_⟩
  have q := (pe_dnewT (X := X) (pos := pos)).run pins s σ H (fun v H' => ∃ p, v = .ref p ∧ H p = none ∧ H' = upd H p (.dT [])) I fun p hp => ⟨p, rfl, hp, rfl⟩
  refine thn q fun u s1 ⟨v, H1, I1, r1, p, e1, e2, e3⟩ => ?_
  subst e1 e3
  obtain ⟨z, y, xs, rel, o, es, ep, h1, h2, h3, h4, h5⟩ := (show ObjOk X.prog X.w (upd H p (.dT [])) s1.heap p (.dT []) from I1.hok p _ upd_same)
  cases rel
  have new : ObjOk X.prog X.w (upd (upd H p (.dT [])) p (DX X.prog X.w p [] ep)) s1.heap p (DX X.prog X.w p [] ep) := dx_ok (Nat.zero_le _) y .nil ⟨o, es, h1, h2, h3, h4, List.nodup_nil⟩
  have W := I1.write (x := p) (e := p) (o := DX X.prog X.w p [] ep) (h' := s1.heap) (t' := s1.toks) (by rw [upd_same]; exact True.intro) (.inl rfl) (fun b u _ e => e) ⟨o, h1⟩ new
  rw [upd_upd] at W
  exact ⟨.ref p, _, W, r1, h p ep e2⟩
def rDxIn (P : Program) (w : World) (neg : Bool) : R2 := fun x y H Q => ∃ b d k xs ep, x = .ref b ∧ y = .ref d ∧ H d = some (DX P w d xs ep) ∧ KO H xs ∧ KeyA H k b ∧ Q (.bl (cond neg (!decide (k ∈ xs.map (·.1))) (decide (k ∈ xs.map (·.1))))) H
theorem op_dxIn (hr : Room k X.A) : OpR X (compareOp .In) (rDxIn X.prog X.w false) := by
  intro pins s σ H x y v u Q I rx ry h
  obtain ⟨b, d, kk, xs, ep, rfl, rfl, hd, hk, hb, q⟩ := h
  obtain rfl : v = Value.ref b := rx
  obtain rfl : u = Value.ref d := ry
  obtain ⟨_, hs, ys, r, dd⟩ := dx_dictOf I.hok hd hk
  refine wpAny_in_heap (knd := nestedKind X.prog X.w) (k := kk) (nested_room hr) ⟨hb.1.is I.hok rfl, hb.2⟩ hs dd ?_
  refine ⟨_, H, I.tok _, ?_, q⟩
  rw [atKey_mem, entR_keys r]
  rfl
theorem op_dxNotIn (hr : Room k X.A) : OpR X (compareOp .NotIn) (rDxIn X.prog X.w true) := by
  intro pins s σ H x y v u Q I rx ry h
  obtain ⟨b, d, kk, xs, ep, rfl, rfl, hd, hk, hb, q⟩ := h
  obtain rfl : v = Value.ref b := rx
  obtain rfl : u = Value.ref d := ry
  obtain ⟨_, hs, ys, r, dd⟩ := dx_dictOf I.hok hd hk
  refine wpAny_notIn_heap (knd := nestedKind X.prog X.w) (k := kk) (nested_room hr) ⟨hb.1.is I.hok rfl, hb.2⟩ hs dd ?_
  refine ⟨_, H, I.tok _, ?_, q⟩
  rw [atKey_mem, entR_keys r]
  rfl
def rDxGet (P : Program) (w : World) : R2 := fun x y H Q => ∃ d b k xs ep a v, x = .ref d ∧ y = .ref b ∧ H d = some (DX P w d xs ep) ∧ KO H xs ∧ KeyA H k b ∧ (k, a, v) ∈ xs ∧ Q v H
theorem ix_dx (hr : Room k X.A) : IxR X (rDxGet X.prog X.w) := by
  intro value slice pins s σ H x y v u Q I rx ry h hsub
  obtain ⟨d, b, kk, xs, ep, a, z, rfl, rfl, hd, hk, hb, hm, q⟩ := h
  obtain rfl : v = Value.ref d := rx
  obtain rfl : u = Value.ref b := ry
  obtain ⟨_, hs, ys, r, dd⟩ := dx_dictOf I.hok hd hk
  obtain ⟨u, hu, ru⟩ := entR_mem r hm
  obtain ⟨_, _, _, _, _, _, _, _, hn⟩ := id dd
  refine tail_any dd.typeIs PySem.F.slot_dict_getitem.lookup (wpAny_getItem_heap (knd := nestedKind X.prog X.w) (k := kk) (nested_room hr) ⟨hb.1.is I.hok rfl, hb.2⟩ dd (atKey_of hn hu) ?_) hsub
  exact ⟨z, H, I.tok _, ru, q⟩
theorem dx_store {pins : List (Addr × Obj)} {σ : L2.St} {H : Hp} {s : Shared} {d b : Addr} {kk : NestedKey} {xs : List Ent} {ep : Nat} {v : V} {u : Value} {A : Around} {E : Value → Shared → Prop} {Q : Unit → Shared → Prop} (hr : Room k A) (I : Inv X pins σ H s)
    (hd : H d = some (DX X.prog X.w d xs ep)) (hk : KO H xs) (hb : KeyA H kk b) (hn : ¬ kk ∈ xs.map (·.1)) (hl : xs.length < sizeLine) (rv : RelV v u)
    (q : ∀ s' ep', Inv X pins σ (upd H d (DX X.prog X.w d (xs ++ [(kk, b, v)]) ep')) s' → Q () s') : wpAny (model X.prog X.w) A (setItem (.ref d) (.ref b) u) Q E s := by
  obtain ⟨hz, hs, ys, r, dd⟩ := dx_dictOf I.hok hd hk
  have ly : xs.length = ys.length := Paired.length r
  have hnone : atKey ys kk = none := by
    have q1 := atKey_mem (ys := ys) (k := kk)
    rw [← entR_keys r, decide_eq_false hn] at q1
    cases e : atKey ys kk with
    | none => rfl
    | some p => rw [e] at q1; cases q1
  refine wpAny_setItem_heap (knd := nestedKind X.prog X.w) (k := kk) (hsz := by rw [← ly]; exact hz) (nested_room hr) ⟨hb.1.is I.hok rfl, hb.2⟩ dd fun h' dd' sb => ?_
  rw [storedH_new hnone] at dd'
  obtain ⟨o', es', ep', k1, k2, k3, k4, k5, k6⟩ := dd'
  have new : ObjOk X.prog X.w (upd H d (DX X.prog X.w d (xs ++ [(kk, b, v)]) ep')) h' d (DX X.prog X.w d (xs ++ [(kk, b, v)]) ep') :=
    dx_ok (by rw [List.length_append]; exact hl) hs (Paired.snoc r ⟨rfl, rfl, rv⟩) ⟨o', es', k1, k2, k3, k4, k6⟩
  exact q _ ep' (I.write (x := d) (e := d) (t' := s.toks + (nestedKind X.prog X.w).draws kk) (by rw [hd]; exact True.intro) (.inl rfl) (fun c z hc e => (sb.2 c hc).trans e) ⟨o', k1⟩ new)
def rDxSet (P : Program) (w : World) : TSet := fun o i v H Q => ∃ d b k xs ep, o = .ref d ∧ i = .ref b ∧ H d = some (DX P w d xs ep) ∧ KO H xs ∧ KeyA H k b ∧ ¬ k ∈ xs.map (·.1) ∧ xs.length < sizeLine ∧ ∀ ep', Q (upd H d (DX P w d (xs ++ [(k, b, v)]) ep'))
theorem set_dx (hr : Room k X.A) : PSet X (rDxSet X.prog X.w) := by
  intro pins s σ H o i v ov iv u Q I ro ri rv h
  obtain ⟨d, b, kk, xs, ep, rfl, rfl, hd, hk, hb, hn, hl, q⟩ := h
  obtain rfl : ov = Value.ref d := ro
  obtain rfl : iv = Value.ref b := ri
  exact dx_store hr I hd hk hb hn hl rv fun s' ep' I' => ⟨_, I', q ep'⟩
theorem dx_raw {P : Program} {w : World} {H : Hp} {h : Heap} {d : Addr} {xs : List Ent} {ep : Nat} (ok : HOk P w H h) (e : H d = some (DX P w d xs ep)) : (d == sysModules) = false ∧ xs.length ≤ sizeLine ∧ ∃ es, h.DictRaw d es ep ∧ es.size = xs.length ∧
    ∀ (i : Nat) (x : Ent), xs[i]? = some x → ∃ (hi : i < es.size) (u : Value), es[i].key = .ref x.2.1 ∧ es[i].val = u ∧ RelV x.2.2 u := by
  obtain ⟨hz, hs, ys, r, o, es, h1, h2, h3, h4, h5⟩ := dx_get ok e
  have ly : xs.length = ys.length := Paired.length r
  refine ⟨hs, hz, es, ⟨o, h1, h2, h3⟩, (size_of_entries h4).trans ly.symm, fun i x hx => ?_⟩
  obtain ⟨y, hy, rel⟩ := L2.paired_get r hx
  have e2 := entry_at h4 i
  rw [hy] at e2
  obtain ⟨hi, e3⟩ := Array.getElem?_eq_some_iff.mp e2
  exact ⟨hi, y.2.2, by rw [e3, rel.2.1]; rfl, by rw [e3]; rfl, rel.2.2⟩
def rDxLen (P : Program) (w : World) : List V → Hp → VK → Prop := fun xs H Q => ∃ d es ep, xs = [.ref d] ∧ H d = some (DX P w d es ep) ∧ KO H es ∧ Q (.int (es.length : Nat)) H
theorem call_len_dx : CallR X (.builtin "len") (rDxLen X.prog X.w) := by
  intro pins s σ H xs us Q I r h
  obtain ⟨d, es, ep, rfl, hd, hk, q⟩ := h
  obtain ⟨u, rfl, rx⟩ := vals1 r
  obtain rfl : u = Value.ref d := rx
  obtain ⟨hz, hs, ys, rel, dd⟩ := dx_dictOf I.hok hd hk
  have ly : es.length = ys.length := Paired.length rel
  have l63 := line63
  refine call_len_dictH hs dd (by rw [← ly]; omega) ⟨.int (es.length : Nat), H, I.tok _, ⟨s.toks + 1, ?_⟩, q⟩
  rw [ly]

/-! ### walks -/
def Itx (P : Program) (w : World) (d : Addr) (xs : List Ent) (ep : Nat) : It :=
  ⟨fun i H => H d = some (DX P w d xs ep) ∧ i < xs.length, fun i H x H' => H' = H ∧ ∃ k a v, xs[i]? = some (k, a, v) ∧ x = .ref a, fun i H => H d = some (DX P w d xs ep) ∧ xs.length ≤ i⟩
def Itxi (P : Program) (w : World) (d : Addr) (xs : List Ent) (ep : Nat) : It :=
  ⟨fun i H => H d = some (DX P w d xs ep) ∧ i < xs.length, fun i H x H' => ∃ T k a v, xs[i]? = some (k, a, v) ∧ x = .ref T ∧ H T = none ∧ H' = upd H T (.tup [.ref a, v]), fun i H => H d = some (DX P w d xs ep) ∧ xs.length ≤ i⟩
theorem turn_dx {P : Program} {w : World} {K : PySem.W.Frag} {tg : Expr} {d : Addr} {xs : List Ent} {ep : Nat} (it : Addr) : Turn P w K tg (Itx P w d xs ep) [it] it (fun i h => h.IsKeyIter it d i xs.length ep) where
  mem := by simp
  obj := fun i h st b hb => by
    obtain rfl : b = it := by simpa using hb
    obtain ⟨oi, e, c, dd⟩ := st
    exact ⟨oi, e, fun v z => by rw [dd] at z; cases z⟩
  keep := fun i h h' st k => st.at fun oi e => k it (by simp) oi e
  item := by
    intro X hP hw hK hc i pins s σ H E I hf st hg
    subst hP hw hK
    obtain ⟨hd, hi⟩ := hg
    obtain ⟨f0, f1, f2, f3, f4, f5⟩ := hf it (by simp)
    obtain ⟨hs, hz, es, hraw, hsz, ent⟩ := dx_raw I.hok hd
    obtain ⟨x, hx⟩ : ∃ x, xs[i]? = some x := ⟨xs[i], List.getElem?_eq_getElem hi⟩
    obtain ⟨hi2, u, hkey, _, _⟩ := ent i x hx
    rw [← hsz] at st
    refine wpAny_pyNext_keys_item_raw st hraw hi2 fun h' st' sb => ?_
    have I1 : Inv X pins σ H { s with heap := h' } := I.turned (t' := s.toks) (fun b ob hb e => (sb.2 b hb).trans e) f0 f1 f3 f4 f5
    obtain ⟨oi, e, c, dd⟩ := id st'
    rw [hsz] at st'
    exact ⟨_, rfl, go_of (s := { s with heap := h' }) e c dd (by decide) ⟨.ref x.2.1, H, I1, hkey, ⟨rfl, x.1, x.2.1, x.2.2, hx, rfl⟩, st', fun b hb => (hf b hb).1⟩⟩
  done := by
    intro X hP hw hK hc i pins s σ H E I hf st hg
    subst hP hw hK
    obtain ⟨hd, hi⟩ := hg
    obtain ⟨f0, f1, f2, f3, f4, f5⟩ := hf it (by simp)
    obtain ⟨hs, hz, es, hraw, hsz, ent⟩ := dx_raw I.hok hd
    rw [← hsz] at st
    exact wpAny_pyNext_keys_end_raw (I.ok.hd hc) st hraw (by omega) fun h' eb => ⟨rfl, I.turned (t' := s.toks) (fun b ob hb e => eb b ob hb e) f0 f1 f3 f4 f5⟩
  self := fun A i s Q E st h => wpAny_pyIter_keyiter st h
theorem turn_dxi {P : Program} {w : World} {K : PySem.W.Frag} {elts : List Expr} {kk : Nat} {tpos : Pos} {d : Addr} {xs : List Ent} {ep : Nat} (it : Addr) : Turn P w K (.Tuple elts kk tpos) (Itxi P w d xs ep) [it] it (fun i h => ∃ ok ov, IsItemIter h it d i xs.length ep ok ov) where
  mem := by simp
  obj := fun i h st b hb => by
    obtain rfl : b = it := by simpa using hb
    obtain ⟨ok, ov, e⟩ := st
    exact ⟨_, e, fun v z => nomatch z⟩
  keep := fun i h h' st k => let ⟨ok, ov, e⟩ := st; ⟨ok, ov, k it (by simp) _ e⟩
  item := by
    intro X hP hw hK hc i pins s σ H E I hf st hg
    subst hP hw hK
    obtain ⟨hd, hi⟩ := hg
    obtain ⟨hs, hz, es, hraw, hsz, ent⟩ := dx_raw I.hok hd
    obtain ⟨x, hx⟩ : ∃ x, xs[i]? = some x := ⟨xs[i], List.getElem?_eq_getElem hi⟩
    obtain ⟨hi2, u, hkey, hval, ru⟩ := ent i x hx
    obtain ⟨ok, ov, he⟩ := st
    rw [← hsz] at he
    have hlt : it < s.heap.objs.size := Heap.lt_size he
    refine wpAny_pyNext_items_item_raw he hraw hi2 fun h' ho hT _ hk => ?_
    refine ⟨_, rfl, wpAny_letOwnedTupleGo_items (s := { s with heap := h' }) ho fun h'' he' sb => ?_⟩
    have hT2 : h''.get? s.heap.objs.size = some { cls := .type "tuple", data := .seq #[es[i].key, es[i].val] } := (sb.2 _ (Nat.ne_of_gt hlt)).trans hT
    have new : ObjOk X.prog X.w (upd H s.heap.objs.size (.tup [.ref x.2.1, x.2.2])) h'' s.heap.objs.size (.tup [.ref x.2.1, x.2.2]) :=
      ⟨by show 2 ≤ sizeLine; decide, [es[i].key, es[i].val], .cons hkey (.cons (by rw [hval]; exact ru) .nil), ⟨_, hT2, rfl, _, rfl⟩⟩
    have I1 : Inv X pins σ (upd H s.heap.objs.size (.tup [.ref x.2.1, x.2.2])) { s with heap := h'' } :=
      I.turnedNew (t' := s.toks) (ch := [it]) (fun b ob hb e => (sb.2 b (by simpa using hb)).trans (hk b ob (by simpa using hb) e)) hf (Nat.le_refl _) new
    rw [hsz] at he'
    refine ⟨.ref s.heap.objs.size, _, I1, rfl, ⟨_, x.1, x.2.1, x.2.2, hx, rfl, I.hok.fresh (Nat.le_refl _), rfl⟩, ⟨_, _, he'⟩, fun b hb => ?_⟩
    obtain rfl : b = it := by simpa using hb
    rw [upd_ne (Nat.ne_of_lt hlt)]
    exact (hf b (by simp)).1
  done := by
    intro X hP hw hK hc i pins s σ H E I hf st hg
    subst hP hw hK
    obtain ⟨hd, hi⟩ := hg
    obtain ⟨f0, f1, f2, f3, f4, f5⟩ := hf it (by simp)
    obtain ⟨hs, hz, es, hraw, hsz, ent⟩ := dx_raw I.hok hd
    obtain ⟨ok, ov, he⟩ := st
    rw [← hsz] at he
    exact wpAny_pyNext_items_end_raw (I.ok.hd hc) he hraw (by omega) fun h' eb => ⟨rfl, I.turned (t' := s.toks) (fun b ob hb e => eb b ob hb e) f0 f1 f3 f4 f5⟩
  self := fun A i s Q E st h => let ⟨_, _, e⟩ := st; PySem.W.kcp_self e h
def iDx (P : Program) (w : World) (td : TE) : TI := fun σ H R => td σ H fun x H1 => ∃ d xs ep, x = .ref d ∧ H1 d = some (DX P w d xs ep) ∧ R (Itx P w d xs ep) H1
def iDxi (P : Program) (w : World) (td : TE) : TI := fun σ H R => td σ H fun x H1 => ∃ d xs ep, x = .ref d ∧ H1 d = some (DX P w d xs ep) ∧ R (Itxi P w d xs ep) H1
theorem pi_dx {tg e : Expr} {td : TE} (he : PE X e td) : PI X tg e (iDx X.prog X.w td) := by
  refine ⟨fun pins s σ H R I h => ?_⟩
  refine thn (he.run pins s σ H _ I h) fun u s1 ⟨x, H1, I1, rx, d, xs, ep, ex, hd, q⟩ => ?_
  subst ex
  obtain rfl : u = Value.ref d := rx
  obtain ⟨hs, hz, es, hraw, hsz, ent⟩ := dx_raw I1.hok hd
  refine wpAny_pyIter_dict_raw hs hraw (pi_one (tk := s1.toks) I1 _ (turn_dx _) ⟨_, Heap.get?_push_size _ rfl, rfl, ?_⟩ q)
  rw [hsz] <;> rfl
theorem pi_dxi {e : Expr} {td : TE} {elts : List Expr} {kk : Nat} {tpos apos cpos : Pos} (he : PE X e td) (hbase : attributeBase e "items" X.env (eval e X.env) = eval e X.env := by rfl) (hline : (apos.endLine == cpos.line) = true := by rfl) :
    PI X (.Tuple elts kk tpos) (.Call (.Attribute e "items" apos) [] [] cpos) (iDxi X.prog X.w td) := by
  refine ⟨fun pins s σ H R I h => ?_⟩
  refine wpAny_Call_method (T := "dict") (id := "dict.items") hbase rfl hline F.plainAttrs_dict F.slot_dict_items F.type_dict_items (thn (he.run pins s σ H _ I h) fun u s1 ⟨x, H1, I1, rx, d, xs, ep, ex, hd, q⟩ => ?_)
  subst ex
  obtain rfl : u = Value.ref d := rx
  obtain ⟨hs, hz, es, hraw, hsz, ent⟩ := dx_raw I1.hok hd
  obtain ⟨od, hod, hxd, hdd⟩ := id hraw
  refine ⟨hraw.typeIs, (fun b e => ?_), ?_⟩
  · cases e
    exact ⟨od, hod, hxd.2.1⟩
  have I2 : Inv X pins σ H1 { s1 with heap := s1.heap.push { cls := .type "dict_items", data := .fields #[.ref d] } } := I1.kept (t' := s1.toks) fun b ob q => Heap.get?_push_of_some _ q
  have fin : wpAny (model X.prog X.w) X.A (pyIter (.ref s1.heap.objs.size)) (PIE X pins σ (.Tuple elts kk tpos) R) X.xe { s1 with heap := s1.heap.push { cls := .type "dict_items", data := .fields #[.ref d] } } := by
    refine wpAny_pyIter_items_raw (d := d) ⟨_, Heap.get?_push_size _ rfl, rfl, rfl⟩ (hraw.at fun o e => Heap.get?_push_of_some _ e) (pi_one (tk := s1.toks) I2 _ (turn_dxi _) ⟨.none, .none, ?_⟩ q)
    rw [hsz]
    exact Heap.get?_push_size _ rfl
  show wpAny _ _ (callWith cpos (.builtin "dict.items") [.ref d] [] []) _ X.xe s1
  exact method_meetsIn F.slot_dict_items F.entry_dict_items rfl (PySem.evalArgs_none ⟨rfl, hraw.typeIs, F.args_dict_items_1 _, _, meets_dict_items_raw d hs, ⟨_, _, hraw⟩, fin⟩)
theorem walk_dx {P : Program} {w : World} {d : Addr} {xs : List Ent} {ep : Nat} : Walk (Itx P w d xs ep) xs.length (fun H => H d = some (DX P w d xs ep)) (fun i H x H' => H' = H ∧ ∃ k a v, xs[i]? = some (k, a, v) ∧ x = .ref a) :=
  ⟨fun _ _ hi q => ⟨q, hi⟩, fun _ q => ⟨q, Nat.le_refl _⟩, fun _ _ _ _ _ _ y => y⟩
theorem walk_dxi {P : Program} {w : World} {d : Addr} {xs : List Ent} {ep : Nat} : Walk (Itxi P w d xs ep) xs.length (fun H => H d = some (DX P w d xs ep)) (fun i H x H' => ∃ T k a v, xs[i]? = some (k, a, v) ∧ x = .ref T ∧ H T = none ∧ H' = upd H T (.tup [.ref a, v])) :=
  ⟨fun _ _ hi q => ⟨q, hi⟩, fun _ q => ⟨q, Nat.le_refl _⟩, fun _ _ _ _ _ _ y => y⟩
end
end Kn

end
section
set_option maxHeartbeats 4000000
/-! One rule for every comprehension that fills a new object: what is laid first (ob, told by U) and what a turn does (B, read by tb) are parameters. Instances: dicts with tuple keys, dicts with int and text keys. -/
namespace Kn
open PySem PySem.Spec PyProof.Rows L2

abbrev Ctxs (X : Cx) (scope : Scope) (F : Cx → Prop) : Prop := ∀ (s : Shared) (H : Hp) (C : Addr) (cl : List (PySem.Str × Addr)) (fp : List Addr), F (X.blk s H scope (compEnvC scope cl C X.env) fp)
abbrev NB (M : Model) (A : Around) (env : Env) (R : Result → Shared → Prop) : Value → Shared → Prop := notedBy M A env fun e s' => R (.error e) s'
/-- a turn's work: environment, the object, what is wanted behind it, what of an exception -/
abbrev BodyT := Around → Env → Addr → (Shared → Prop) → (Value → Shared → Prop) → Shared → Prop
def LoopK (M : Model) (E tg : Expr) (ifs : List Expr) (B : BodyT) : Prop :=
  ∀ (A : Around) (R : Result → Shared → Prop) (it : Value) (D : Addr) (env : Env) (I : Nat → Shared → Prop) (n : Nat) (s : Shared),
    (∀ n s, I n s → wpAny M A (pyNext it) (fun r s1 => match r with
      | none => R (.ok .next) s1
      | some v => wpAny M A (letOwnedTupleGo tg it v) (fun _ s2 => wpAny M A (assign tg env v) (fun _ s3 =>
          wpAny M A (forIn ifs true fun c r => if r = true then do let ok ← isTrue c env (eval c env); pure (ForInStep.yield ok) else pure (ForInStep.yield r)) (fun ok s4 =>
            if ok = true then B A env D (fun s' => ∃ m, m < n ∧ I m s') (NB M A env R) s4 else ∃ m, m < n ∧ I m s4) (NB M A env R) s3) (NB M A env R) s2) (NB M A env R) s1) (NB M A env R) s) →
    I n s → codeAny M A (.compLoop E 0 it (.ref D) env) R s
/-- a turn's reading: the object's address, slots, heap, what is wanted of the heap -/
abbrev TB := Addr → L2.St → Hp → (Hp → Prop) → Prop
structure Kind (X : Cx) (E tg iter : Expr) (ifs : List Expr) (scope : Scope) (mk : Sem Value) (ob : Obj) (U : Addr → HO) (B : BodyT) (tb : TB) : Prop where
  cls : clausesOf E = [⟨tg, iter, ifs, 0⟩]
  new : ∀ (A : Around) (E' : Value → Shared → Prop) (s : Shared) (Q : Value → Shared → Prop), Q (.ref s.heap.objs.size) { s with heap := s.heap.push ob } → wpAny (model X.prog X.w) A mk Q E' s
  is : ∀ (H : Hp) (h : Heap), sysModules < h.objs.size → ObjOk X.prog X.w H (h.push ob) h.objs.size (U h.objs.size)
  loop : LoopK (model X.prog X.w) E tg ifs B
  start : ∀ (A : Around) (R : Result → Shared → Prop) (it : Addr) (D : Addr) (env : Env) (s : Shared), codeAny (model X.prog X.w) A (.compLoop E 0 (.ref it) (.ref D) env) R s →
    (∀ (Q : Value → Shared → Prop) (E' : Value → Shared → Prop), Q (.ref it) s → wpAny (model X.prog X.w) A (pyIter (.ref it)) Q E' s) → codeAny (model X.prog X.w) A (.compStart E 0 (.ref it) (.ref D) env) R s
  body : ∀ (s : Shared) (H : Hp) (C : Addr) (cl : List (PySem.Str × Addr)) (fp : List Addr) (D : Addr) (pins : List (Addr × Obj)) (s1 : Shared) (σ1 : L2.St) (H1 : Hp) (Nx : Hp → Prop) (Post : Shared → Prop) (E' : Value → Shared → Prop),
    Inv (X.blk s H scope (compEnvC scope cl C X.env) fp) pins σ1 H1 s1 → tb D σ1 H1 Nx → (∀ s2 H2, Inv (X.blk s H scope (compEnvC scope cl C X.env) fp) pins σ1 H2 s2 → Nx H2 → Post s2) → B X.A (compEnvC scope cl C X.env) D Post E' s1
def tCC (wi : TI) (g : TG) (tt : TT) (tb : TB) (U : Addr → HO) (vs : List Nat) : TE := fun σ H Q => wi σ H fun J H1 => ∀ D, H1 D = none → ∃ W : Nat → Nat → Hp → Prop, (∃ m, W 0 m (upd H1 D (U D))) ∧ ∀ i m H, W i m H →
  (J.stop i H ∧ Q (.ref D) H) ∨ (J.go i H ∧ ∃ Nx : Hp → Prop, (∀ H', Nx H' → ∃ m', m' < m ∧ W (i + 1) m' H') ∧ ∀ x H', J.yld i H x H' → g x (wipe σ vs) H' fun σ2 H2 => wipe σ2 vs = wipe σ vs ∧ tt σ2 H2 fun b H3 =>
    if b = true then tb D σ2 H3 Nx else Nx H3)
section
variable {X : Cx} {E tg iter : Expr} {ifs : List Expr} {scope : Scope} {mk : Sem Value} {ob : Obj} {U : Addr → HO} {B : BodyT} {tb : TB} {own : List (PySem.Str × Nat)} {wi : TI} {g : TG} {tt : TT}
theorem cc_core {pins : List (Addr × Obj)} {s : Shared} {σ : L2.St} {H : Hp} {Q : VK} {pos' : Pos} {use : Option (Value → Sem Unit)} {Qf : Value → Shared → Prop} (KK : Kind X E tg iter ifs scope mk ob U B tb)
    (hc : X.calm = true) (hN : X.N.Nodup) (I : Inv X pins σ H s) (hi : PI X tg iter wi) (ok : BlkOk X.N X.env.scope scope own) (hg : Ctxs X scope fun Y => PG Y tg g) (ht : Ctxs X scope fun Y => PTs Y ifs tt)
    (hs : ∀ x, foldedSetIterable iter X.env x = pure x) (h : tCC wi g tt tb U (own.map (·.2)) σ H Q)
    (fin : ∀ D C s' m H', Inv X pins σ H' s' → Q (.ref D) H' → s'.heap.Ns C m → FpOk X pins H' C → compPost (model X.prog X.w) X.A X.xe use Qf (.ref D) C (.ok .next) s') :
    wpAny (model X.prog X.w) X.A (comprehension E scope X.env pos' mk false (eval iter X.env) use) Qf X.xe s := by
  have caught : ∀ y ∈ scope.names, y.2 = .free → ∃ c, X.env.cells.lookup y.1 = some c := fun y hy e => (ok.free y hy e).elim (fun k => I.ok.has _ (.inl k)) fun k => I.ok.has _ (.inr k)
  refine wpAny_comprehension_free (use := use) KK.cls hs (closure_ok caught) ok.kind (fun y hy e => by rw [ok.uniq y hy, e]) (thn (hi.run pins s σ H _ I h) fun xv s1 hx => thn hx fun itv s2 h2 => ?_)
  obtain ⟨it, fp, tn, J, H2, rfl, I2, T, st2, f2, q⟩ := h2
  refine KK.new _ _ _ _ (newEnv_comp ?_)
  obtain ⟨D, hD⟩ : ∃ D, D = s2.heap.objs.size := ⟨_, rfl⟩
  obtain ⟨W, ⟨m0, w0⟩, turn⟩ := q D (I2.hok.fresh (Nat.le_of_eq hD.symm))
  rw [← hD]
  obtain ⟨s3, hs3⟩ : ∃ s3 : Shared, s3 = { s2 with heap := s2.heap.push ob } := ⟨_, rfl⟩
  have h3 : s3.heap = s2.heap.push ob := by rw [hs3]
  obtain ⟨H3, hH3⟩ : ∃ H3, H3 = upd H2 D (U D) := ⟨_, rfl⟩
  have I3 : Inv X pins σ H3 s3 := by
    rw [hs3, hH3]
    exact I2.laid (t' := s2.toks) (fun b o e => Heap.get?_push_of_some _ e) (Nat.le_of_eq hD.symm) (by rw [hD]; exact KK.is _ _ I2.big)
  have old : ∀ b ∈ fp, b < s2.heap.objs.size := fun b hb => let ⟨_, e, _⟩ := T.obj _ _ st2 b hb; Heap.lt_size e
  have f3 : ∀ b ∈ fp, FpOk X pins H3 b ∧ b < s3.heap.objs.size := fun b hb => by
    have hlt := old b hb
    refine ⟨⟨?_, (f2 b hb).2⟩, by rw [h3, Heap.size_push]; exact Nat.lt_succ_of_lt hlt⟩
    rw [hH3, upd_ne (by rw [hD]; exact Nat.ne_of_lt hlt)]
    exact (f2 b hb).1
  have I4 := block_start I3 ok hN f3
  rw [← hH3] at w0
  rw [← hs3]
  obtain ⟨cl, hcl⟩ : ∃ cl, cl = cellsFrom (s3.heap.objs.size + 1) scope.names (cloFrom X.env.cells scope.names []) := ⟨_, rfl⟩
  rw [← hcl] at I4
  have st3 : tn 0 (pushCells (s3.heap.push { cls := .type "dict", data := .dict #[] }) scope.names) := T.keep _ _ _ st2 fun b _ o e => pushCells_keeps _ _ _ _ (Heap.get?_push_of_some _ (by rw [h3]; exact Heap.get?_push_of_some _ e))
  obtain ⟨s4, hs4⟩ : ∃ s4 : Shared, s4 = { s3 with heap := pushCells (s3.heap.push { cls := .type "dict", data := .dict #[] }) scope.names } := ⟨_, rfl⟩
  rw [← hs4] at I4
  have st4 : tn 0 s4.heap := by
    rw [hs4]
    exact st3
  have pg := hg s3 H3 s3.heap.objs.size cl fp
  have pt := ht s3 H3 s3.heap.objs.size cl fp
  have pb := KK.body s3 H3 s3.heap.objs.size cl fp D
  suffices loop : codeAny (model X.prog X.w) X.A (.compLoop E 0 (.ref it) (.ref D) (compEnvC scope cl s3.heap.objs.size X.env)) (compPost (model X.prog X.w) X.A X.xe use Qf (.ref D) s3.heap.objs.size) s4 by
    have z := KK.start X.A _ it D _ s4 loop fun Q E' hq => T.self X.A 0 _ _ _ st4 hq
    rw [hs4, hcl] at z
    exact z
  have cL : (compEnvC scope cl s3.heap.objs.size X.env).locals = s3.heap.objs.size := rfl
  generalize compEnvC scope cl s3.heap.objs.size X.env = ce at I4 pg pt pb cL ⊢
  have stat : ∀ {σ' : L2.St} {H' : Hp} {s' : Shared}, Inv (X.blk s3 H3 scope ce fp) [] σ' H' s' → (∀ b ∈ fp, H' b = none) → ∀ b ∈ fp, FpOk (X.blk s3 H3 scope ce fp) [] H' b := fun {σ' H' s'} I' hn b hb =>
    ⟨hn b hb, (I'.ok.exf b hb).1, I'.ok.exfs b hb, .inl hb, fun x c e => (I'.ok.exf b hb).2 x c e, fun p hp => absurd (show p ∈ ([] : List (Addr × Obj)) ++ [] from hp) (by simp)⟩
  refine KK.loop X.A _ _ D ce (fun n s' => ∃ i H', Inv (X.blk s3 H3 scope ce fp) [] (wipe σ (own.map (·.2))) H' s' ∧ tn i s'.heap ∧ (∀ b ∈ fp, H' b = none) ∧ W i n H') m0 s4 ?_ ⟨0, H3, I4, st4, fun b hb => (f3 b hb).1.1, w0⟩
  rintro n s5 ⟨i, H5, I5, st5, n5, w5⟩
  rcases turn i n H5 w5 with ⟨stop, qq⟩ | ⟨go, Nx, hNx, step⟩
  · refine thnF (T.done (X.blk s3 H3 scope ce fp) rfl rfl rfl hc i [] s5 _ H5 (fun _ _ => False) I5 (stat I5 n5) st5 stop) fun r s6 ⟨hr, I6⟩ => ?_
    subst hr
    have I7 : Inv X pins σ H5 s6 := I3.call' (ch := fp) I6.os I6.base I6.hok I6.bare fun b hb => let z := (f3 b hb).1; ⟨z.2.2.2.1, z.2.1, z.2.2.2.2.1, z.2.2.2.2.2⟩
    have nC : H5 s3.heap.objs.size = none := by
      have z : H5 ce.locals = none := I6.free
      rw [cL] at z
      exact z
    obtain ⟨m, hn, _⟩ := I6.loc
    have hn : s6.heap.Ns ce.locals m := hn
    rw [cL] at hn
    exact fin D s3.heap.objs.size s6 m H5 I7 qq hn (I3.fpOk (Nat.le_refl _) nC)
  · refine thnF (T.item (X.blk s3 H3 scope ce fp) rfl rfl rfl hc i [] s5 _ H5 (fun _ _ => False) I5 (stat I5 n5) st5 go) fun r s6 ⟨u, hr, h6⟩ => ?_
    subst hr
    refine thnF h6 fun _ s7 ⟨x, H7, I7, r7, y7, st7, n7⟩ => ?_
    have I7' := I7.pinned (stat I7 n7) (T.obj _ _ st7)
    refine thnF (pg.run _ s7 _ H7 x u _ I7' r7 (step x H7 y7)) fun _ s8 ⟨σ8, H8, I8, hw8, q8⟩ => ?_
    refine thnF (pt.run _ s8 σ8 H8 _ I8 q8) fun b s9 ⟨H9, I9, q9⟩ => ?_
    have again : ∀ (s' : Shared) (H' : Hp), Inv (X.blk s3 H3 scope ce fp) ([] ++ pinsAt fp s7.heap) σ8 H' s' → Nx H' → ∃ m, m < n ∧ ∃ i H', Inv (X.blk s3 H3 scope ce fp) [] (wipe σ (own.map (·.2))) H' s' ∧ tn i s'.heap ∧ (∀ b ∈ fp, H' b = none) ∧ W i m H' := fun s' H' I' nx => by
      obtain ⟨m', hm, w'⟩ := hNx H' nx
      have held : ∀ b ∈ fp, ∀ o, s7.heap.get? b = some o → s'.heap.get? b = some o ∧ H' b = none := fun b hb o e =>
        let z := I'.pin (b, o) (List.mem_append_right _ (List.mem_append_right _ (mem_pinsAt hb e)))
        ⟨z.1, z.2.1⟩
      refine ⟨m', hm, i + 1, H', (I'.unpinned (pins := [])).weak (by rw [← hw8, wipe_length]) (fun j v e => ?_), T.keep _ _ _ st7 fun b hb o e => (held b hb o e).1, fun b hb => ?_, w'⟩
      · rw [← hw8] at e
        exact (wipe_some e).1
      · obtain ⟨o, e, _⟩ := T.obj _ _ st7 b hb
        exact (held b hb o e).2
    cases b with
    | false => exact again _ _ I9 q9
    | true => exact pb _ s9 σ8 H9 Nx _ _ I9 q9 again
/-- as a value -/
theorem cc_val (KK : Kind X E tg iter ifs scope mk ob U B tb) {pos' : Pos} (he : eval E X.env = comprehension E scope X.env pos' mk false (eval iter X.env)) (hc : X.calm = true) (hN : X.N.Nodup) (hi : PI X tg iter wi) (ok : BlkOk X.N X.env.scope scope own)
    (hg : Ctxs X scope fun Y => PG Y tg g) (ht : Ctxs X scope fun Y => PTs Y ifs tt) (hs : ∀ x, foldedSetIterable iter X.env x = pure x) : PE X E (tCC wi g tt tb U (own.map (·.2))) := by
  refine ⟨fun pins s σ H Q I h => ?_⟩
  rw [he]
  refine cc_core KK hc hN I hi ok hg ht hs h fun D C s' m H' I' q hn f => ⟨m, hn, fun h'' sb => ?_⟩
  obtain ⟨f0, f1, f2, f3, f4, f5⟩ := f
  exact ⟨.ref D, H', I'.turned (t' := s'.toks) (fun b o hb e => (sb.2 b hb).trans e) f0 f1 f3 f4 f5, rfl, q⟩
/-- given to a name -/
theorem cc_set (KK : Kind X E tg iter ifs scope mk ob U B tb) {pos' spos py : Pos} {i : Nat} {y : PySem.Str} (he : ∀ use, evalThenUse E X.env use = (do let _ ← comprehension E scope X.env pos' mk false (eval iter X.env) (some use))) (hc : X.calm = true) (hN : X.N.Nodup)
    (hy : X.N[i]? = some y) (hyl : X.env.scope.names.lookup y = some .local) (hsw : swapsWith E (some (.Name y py)) spos.line X.env = pure true) (hi : PI X tg iter wi) (ok : BlkOk X.N X.env.scope scope own)
    (hg : Ctxs X scope fun Y => PG Y tg g) (ht : Ctxs X scope fun Y => PTs Y ifs tt) (hs : ∀ x, foldedSetIterable iter X.env x = pure x) : PS X (.Assign [.Name y py] E spos) (tAsg (tCC wi g tt tb U (own.map (·.2))) (gName i)) := by
  refine ⟨fun pins s σ H D I h => ?_⟩
  rw [exec_Assign_Name_used _ _ _ _ hsw, he]
  have h : tCC wi g tt tb U (own.map (·.2)) σ H (fun x H1 => gName i x σ H1 D.nx) := h
  refine wpAny_bind (wpAny_standAt (wpAny_bind (wpAny_bind (thn (cc_core (Qf := fun _ s' => SP X pins D .next s') KK hc hN I hi ok hg ht hs h fun L C s' m H' I' q hn f => ?_) fun _ s' hq => wpAny_pure (wpAny_pure hq)))))
  show wpAny _ _ (assign (.Name y py) X.env (.ref L)) _ _ _
  refine wpAny_assign_Name (store_ok2 (v := V.ref L) I' hN hy (.inl hyl) rfl (fun s2 I2 ⟨a, sb, ha⟩ => ?_) (.inr hyl))
  obtain ⟨f0, f1, f2, f3, f4, f5⟩ := f
  have apart : C ≠ a := fun e => ha.elim (fun z => f1 (e.trans z)) fun z => f4 y a z e.symm
  exact ⟨m, hn.sameBut sb apart, fun h3 sb3 => ⟨_, H', I2.turned (t' := s2.toks) (fun b o hb e => (sb3.2 b hb).trans e) f0 f1 f3 f4 f5, q⟩⟩
end

/-! ### dicts -/
def BDict (M : Model) (kx vx : Expr) : BodyT := fun A env D Post E s => wpAny M A (eval kx env) (fun kv s1 => wpAny M A (eval vx env) (fun vv s2 => wpAny M A (dictSet D kv vv) (fun _ s3 => Post s3) E s2) E s1) E s
theorem loop_dict {P : Program} {w : World} {kx vx tg iter : Expr} {ifs : List Expr} {scope : Scope} {pos : Pos} : LoopK (model P w) (.DictComp kx vx [⟨tg, iter, ifs, 0⟩] scope pos) tg ifs (BDict (model P w) kx vx) :=
  fun A R it D env I n s turn h => compLoop_anyD I turn n h
section
variable {X : Cx} {kx vx tg iter : Expr} {ifs : List Expr} {scope : Scope} {pos : Pos} {tk tv : TE}
theorem start_dict {A : Around} {R : Result → Shared → Prop} {it D : Addr} {env : Env} {s : Shared} (h : codeAny (model X.prog X.w) A (.compLoop (.DictComp kx vx [⟨tg, iter, ifs, 0⟩] scope pos) 0 (.ref it) (.ref D) env) R s)
    (hi : ∀ (Q : Value → Shared → Prop) (E' : Value → Shared → Prop), Q (.ref it) s → wpAny (model X.prog X.w) A (pyIter (.ref it)) Q E' s) : codeAny (model X.prog X.w) A (.compStart (.DictComp kx vx [⟨tg, iter, ifs, 0⟩] scope pos) 0 (.ref it) (.ref D) env) R s :=
  codeAny_compStart_dict h (hi _ _ h)
/-- int and text keys -/
def tbK (tk tv : TE) : TB := fun D σ H Nx => tk σ H fun y H1 => tv σ H1 fun z H2 => ∃ kvs k, y = kV k ∧ H2 D = some (.dK kvs) ∧ kvs.length < sizeLine ∧ Nx (upd H2 D (.dK (putK kvs k z)))
theorem kind_dK (hk : Ctxs X scope fun Y => PE Y kx tk) (hv : Ctxs X scope fun Y => PE Y vx tv) :
    Kind X (.DictComp kx vx [⟨tg, iter, ifs, 0⟩] scope pos) tg iter ifs scope newDict { cls := .type "dict", data := .dict #[] } (fun _ => .dK []) (BDict (model X.prog X.w) kx vx) (tbK tk tv) where
  cls := rfl
  new := fun A E' s Q h => wpAny_newObj_type h
  is := fun H h hb => dk_empty h hb
  loop := loop_dict
  start := fun A R it D env s h hi => start_dict h hi
  body := fun s H C cl fp D pins s1 σ1 H1 Nx Post E' I h post => by
    refine thnF ((hk s H C cl fp).run pins s1 σ1 H1 _ I h) fun u s2 ⟨y, H2, I2, r2, q2⟩ => ?_
    refine thnF ((hv s H C cl fp).run pins s2 σ1 H2 _ I2 q2) fun u' s3 ⟨z, H3, I3, r3, kvs, k, ey, hD, hl, nx⟩ => ?_
    subst ey
    exact d_dictSet (X := X.blk s H scope (compEnvC scope cl C X.env) fp) I3 hD hl r2 r3 fun s4 I4 => post s4 _ I4 nx
/-- keys that are tuples, each new -/
def tbX (P : Program) (w : World) (tk tv : TE) : TB := fun D σ H Nx => tk σ H fun y H1 => tv σ H1 fun z H2 => ∃ b k xs ep, y = .ref b ∧ H2 D = some (DX P w D xs ep) ∧ KO H2 xs ∧ KeyA H2 k b ∧ ¬ k ∈ xs.map (·.1) ∧ xs.length < sizeLine ∧
  ∀ ep', Nx (upd H2 D (DX P w D (xs ++ [(k, b, z)]) ep'))
theorem dictSet_new {Y : Cx} {pins : List (Addr × Obj)} {σ : L2.St} {H : Hp} {s : Shared} {d b : Addr} {kk : NestedKey} {xs : List Ent} {ep : Nat} {v : V} {u : Value} {E : Value → Shared → Prop} {Q : Unit → Shared → Prop} {j : Nat} (hr : Room j Y.A) (I : Inv Y pins σ H s)
    (hd : H d = some (DX Y.prog Y.w d xs ep)) (hk : KO H xs) (hb : KeyA H kk b) (hn : ¬ kk ∈ xs.map (·.1)) (hl : xs.length < sizeLine) (rv : RelV v u)
    (q : ∀ s' ep', Inv Y pins σ (upd H d (DX Y.prog Y.w d (xs ++ [(kk, b, v)]) ep')) s' → Q () s') : wpAny (model Y.prog Y.w) Y.A (dictSet d (.ref b) u) Q E s := by
  obtain ⟨hz, hs, ys, r, dd⟩ := dx_dictOf I.hok hd hk
  have ly : xs.length = ys.length := Paired.length r
  have hnone : atKey ys kk = none := by
    have q1 := atKey_mem (ys := ys) (k := kk)
    rw [← entR_keys r, decide_eq_false hn] at q1
    cases e : atKey ys kk with
    | none => rfl
    | some p => rw [e] at q1; cases q1
  have room : (nestedKind Y.prog Y.w).room Y.A := by
    have z := hr.units
    show Y.A.units + 8 < cLine
    omega
  refine wpAny_dictSet_heap (knd := nestedKind Y.prog Y.w) (k := kk) (hsz := by rw [← ly]; exact hz) room ⟨hb.1.is I.hok rfl, hb.2⟩ dd fun h' dd' sb => ?_
  rw [storedH_new hnone] at dd'
  obtain ⟨o', es', ep', k1, k2, k3, k4, k5, k6⟩ := dd'
  have new : ObjOk Y.prog Y.w (upd H d (DX Y.prog Y.w d (xs ++ [(kk, b, v)]) ep')) h' d (DX Y.prog Y.w d (xs ++ [(kk, b, v)]) ep') :=
    dx_ok (by rw [List.length_append]; exact hl) hs (Paired.snoc r ⟨rfl, rfl, rv⟩) ⟨o', es', k1, k2, k3, k4, k6⟩
  exact q _ ep' (I.write (x := d) (e := d) (t' := s.toks + (nestedKind Y.prog Y.w).draws kk) (by rw [hd]; exact True.intro) (.inl rfl) (fun c z hc e => (sb.2 c hc).trans e) ⟨o', k1⟩ new)
theorem kind_dX {j : Nat} (hr : Room j X.A) (hk : Ctxs X scope fun Y => PE Y kx tk) (hv : Ctxs X scope fun Y => PE Y vx tv) :
    Kind X (.DictComp kx vx [⟨tg, iter, ifs, 0⟩] scope pos) tg iter ifs scope newDict { cls := .type "dict", data := .dict #[] } (fun D => DX X.prog X.w D [] 0) (BDict (model X.prog X.w) kx vx) (tbX X.prog X.w tk tv) where
  cls := rfl
  new := fun A E' s Q h => wpAny_newObj_type h
  is := fun H h hb => dx_ok (Nat.zero_le _) (beq_eq_false_iff_ne.mpr (Ne.symm (Nat.ne_of_lt hb))) .nil ⟨_, #[], Heap.get?_push_size _ rfl, ⟨rfl, rfl, rfl⟩, rfl, rfl, List.nodup_nil⟩
  loop := loop_dict
  start := fun A R it D env s h hi => start_dict h hi
  body := fun s H C cl fp D pins s1 σ1 H1 Nx Post E' I h post => by
    refine thnF ((hk s H C cl fp).run pins s1 σ1 H1 _ I h) fun u s2 ⟨y, H2, I2, r2, q2⟩ => ?_
    refine thnF ((hv s H C cl fp).run pins s2 σ1 H2 _ I2 q2) fun u' s3 ⟨z, H3, I3, r3, b, k, xs, ep, ey, hD, ko, ka, hn, hl, nx⟩ => ?_
    subst ey
    obtain rfl : u = Value.ref b := r2
    exact dictSet_new (Y := X.blk s H scope (compEnvC scope cl C X.env) fp) hr I3 hD ko ka hn hl r3 fun s4 ep' I4 => post s4 _ I4 (nx ep')
variable {own : List (PySem.Str × Nat)} {wi : TI} {g : TG} {tt : TT}
theorem pe_dcK (hc : X.calm = true) (hN : X.N.Nodup) (hi : PI X tg iter wi) (ok : BlkOk X.N X.env.scope scope own) (hg : Ctxs X scope fun Y => PG Y tg g) (ht : Ctxs X scope fun Y => PTs Y ifs tt) (hk : Ctxs X scope fun Y => PE Y kx tk) (hv : Ctxs X scope fun Y => PE Y vx tv)
    (hs : ∀ x, foldedSetIterable iter X.env x = pure x := by intro _; rfl) : PE X (.DictComp kx vx [⟨tg, iter, ifs, 0⟩] scope pos) (tCC wi g tt (tbK tk tv) (fun _ => .dK []) (own.map (·.2))) := cc_val (kind_dK hk hv) rfl hc hN hi ok hg ht hs
theorem pe_dcX {j : Nat} (hr : Room j X.A) (hc : X.calm = true) (hN : X.N.Nodup) (hi : PI X tg iter wi) (ok : BlkOk X.N X.env.scope scope own) (hg : Ctxs X scope fun Y => PG Y tg g) (ht : Ctxs X scope fun Y => PTs Y ifs tt) (hk : Ctxs X scope fun Y => PE Y kx tk) (hv : Ctxs X scope fun Y => PE Y vx tv)
    (hs : ∀ x, foldedSetIterable iter X.env x = pure x := by intro _; rfl) : PE X (.DictComp kx vx [⟨tg, iter, ifs, 0⟩] scope pos) (tCC wi g tt (tbX X.prog X.w tk tv) (fun D => DX X.prog X.w D [] 0) (own.map (·.2))) := cc_val (kind_dX hr hk hv) rfl hc hN hi ok hg ht hs
theorem ps_dcK {i : Nat} {y : PySem.Str} {py spos : Pos} (hc : X.calm = true) (hN : X.N.Nodup) (hy : X.N[i]? = some y) (hyl : X.env.scope.names.lookup y = some .local) (hsw : swapsWith (.DictComp kx vx [⟨tg, iter, ifs, 0⟩] scope pos) (some (.Name y py)) spos.line X.env = pure true)
    (hi : PI X tg iter wi) (ok : BlkOk X.N X.env.scope scope own) (hg : Ctxs X scope fun Y => PG Y tg g) (ht : Ctxs X scope fun Y => PTs Y ifs tt) (hk : Ctxs X scope fun Y => PE Y kx tk) (hv : Ctxs X scope fun Y => PE Y vx tv)
    (hs : ∀ x, foldedSetIterable iter X.env x = pure x := by intro _; rfl) : PS X (.Assign [.Name y py] (.DictComp kx vx [⟨tg, iter, ifs, 0⟩] scope pos) spos) (tAsg (tCC wi g tt (tbK tk tv) (fun _ => .dK []) (own.map (·.2))) (gName i)) := cc_set (kind_dK hk hv) (fun _ => rfl) hc hN hy hyl hsw hi ok hg ht hs
theorem ps_dcX {j : Nat} (hr : Room j X.A) {i : Nat} {y : PySem.Str} {py spos : Pos} (hc : X.calm = true) (hN : X.N.Nodup) (hy : X.N[i]? = some y) (hyl : X.env.scope.names.lookup y = some .local) (hsw : swapsWith (.DictComp kx vx [⟨tg, iter, ifs, 0⟩] scope pos) (some (.Name y py)) spos.line X.env = pure true)
    (hi : PI X tg iter wi) (ok : BlkOk X.N X.env.scope scope own) (hg : Ctxs X scope fun Y => PG Y tg g) (ht : Ctxs X scope fun Y => PTs Y ifs tt) (hk : Ctxs X scope fun Y => PE Y kx tk) (hv : Ctxs X scope fun Y => PE Y vx tv)
    (hs : ∀ x, foldedSetIterable iter X.env x = pure x := by intro _; rfl) : PS X (.Assign [.Name y py] (.DictComp kx vx [⟨tg, iter, ifs, 0⟩] scope pos) spos) (tAsg (tCC wi g tt (tbX X.prog X.w tk tv) (fun D => DX X.prog X.w D [] 0) (own.map (·.2))) (gName i)) := cc_set (kind_dX hr hk hv) (fun _ => rfl) hc hN hy hyl hsw hi ok hg ht hs
theorem swd_true {gs : List Comprehension} {py : Pos} {y : PySem.Str} {l : Nat} {env : Env} (hk : env.scope.kind = .function) (hy : env.scope.names.lookup y = some .local) (hl : (py.line == pos.line) = true)
    (ha : (scope.names.any fun (n, k) => n == y && (k == .local || k == .cell)) = false) : swapsWith (.DictComp kx vx gs scope pos) (some (.Name y py)) l env = pure true := by
  have ky : env.kindOf y = some .local := hy
  have hb : env.blockKind = .function := by unfold Env.blockKind; rw [hk]; rfl
  unfold swapsWith
  simp only [hb, ky, ha, Expr.pos, hl]
  rfl
end
end Kn

end
section
set_option maxHeartbeats 4000000
/-! Sets of texts: filled by a comprehension, sorted; len(set(a list of texts)). -/
namespace Kn
open PySem PySem.Spec PyProof.Rows L2
/-- y put behind l unless it is there -/
def ins (l : List Str) (y : Str) : List Str := if y ∈ l then l else l ++ [y]
theorem mem_ins {l : List Str} {y z : Str} : z ∈ ins l y ↔ z ∈ l ∨ z = y := by
  unfold ins
  split
  · next h => exact ⟨.inl, fun q => q.elim id fun e => e ▸ h⟩
  · rw [List.mem_append, List.mem_singleton]
theorem ins_nodup {l : List Str} {y : Str} (h : l.Nodup) : (ins l y).Nodup := by
  unfold ins
  split
  · exact h
  · next e => exact List.nodup_append.mpr ⟨h, by simp, fun a ha b hb q => e (by rw [List.mem_singleton] at hb; rw [← hb, ← q]; exact ha)⟩
def insAll (l : List Str) (xs : List Str) : List Str := xs.foldl ins l
theorem mem_insAll : ∀ {xs l : List Str} {z : Str}, z ∈ insAll l xs ↔ z ∈ l ∨ z ∈ xs
  | [], l, z => ⟨.inl, fun h => h.elim id fun q => nomatch q⟩
  | x :: xs, l, z => by
    show z ∈ insAll (ins l x) xs ↔ _
    rw [mem_insAll, mem_ins, List.mem_cons, or_assoc]
theorem insAll_nodup : ∀ {xs l : List Str}, l.Nodup → (insAll l xs).Nodup
  | [], _, h => h
  | x :: xs, _, h => insAll_nodup (xs := xs) (ins_nodup h)
theorem insAll_snoc {xs l : List Str} {y : Str} : insAll l (xs ++ [y]) = ins (insAll l xs) y := by
  unfold insAll
  rw [List.foldl_append]
  rfl
theorem len_sub {α : Type} [BEq α] [LawfulBEq α] : ∀ {a b : List α}, a.Nodup → (∀ z ∈ a, z ∈ b) → a.length ≤ b.length
  | [], _, _, _ => Nat.zero_le _
  | x :: a, b, h, s => by
    obtain ⟨h1, h2⟩ := List.nodup_cons.mp h
    have hx := s x List.mem_cons_self
    have q := len_sub (a := a) (b := b.erase x) h2 fun z hz => (List.mem_erase_of_ne (a := z) (b := x) fun e => h1 (by rw [← e]; exact hz)).mpr (s z (List.mem_cons_of_mem _ hz))
    rw [List.length_erase_of_mem hx] at q
    have := List.length_pos_of_mem hx
    rw [List.length_cons]
    omega

def txtOf (v : Value) : Str := match v with | .str z _ => z | _ => Str.empty
def EntS (w : World) (e : Int × Value) : Prop := ∃ z tk, e.2 = Value.str z tk ∧ e.1 = hashStr w z
/-- the set at a has the members l -/
def SetS (w : World) (h : Heap) (a : Addr) (l : List Str) : Prop :=
  ∃ o es ep t, h.get? a = some o ∧ o.ExactSet ∧ o.data = .set es ep t ∧ (∀ e ∈ es.toList, EntS w e) ∧ (es.toList.map fun e => txtOf e.2).Perm l ∧ l.Nodup ∧ es.size < scanBound ∧ t.fits es.size = true ∧ Ris t.place.toList ∧ (w.params.followText "set-order" = true ∨ t.led = true)
section
variable {P : Program} {w : World} {h h' : Heap} {a : Addr} {l : List Str}
theorem SetS.at (R : SetS w h a l) (k : ∀ o, h.get? a = some o → h'.get? a = some o) : SetS w h' a l := by
  obtain ⟨o, es, ep, t, ho, r⟩ := R
  exact ⟨o, es, ep, t, k o ho, r⟩
theorem entS_elems {es : List (Int × Value)} (g : ∀ e ∈ es, EntS w e) : ElemsOf (PySem.strKind P w) es := fun e he => by
  obtain ⟨k, tk, h1, h2⟩ := g e he
  exact ⟨⟨k, by rw [h1]; exact strKind_is P w k tk, h2⟩, by rw [h1] <;> rfl⟩
theorem entS_is {e : Int × Value} (g : EntS w e) (k : Str) : (PySem.strKind P w).is k e.2 = true ↔ txtOf e.2 = k := by
  obtain ⟨z, tk, h1, _⟩ := g
  rw [h1]
  constructor
  · intro q
    obtain ⟨t, e2⟩ := Value.isStrOf_shape (show Value.isStrOf k (.str z tk) = true from q)
    injection e2
  · intro q
    rw [← show z = k from q]
    exact strKind_is P w z tk
theorem entS_mem {es : List (Int × Value)} (g : ∀ e ∈ es, EntS w e) (k : Str) : k ∈ (es.map fun e => txtOf e.2) ↔ ∃ e ∈ es, (PySem.strKind P w).is k e.2 = true := by
  rw [List.mem_map]
  exact ⟨fun ⟨e, he, q⟩ => ⟨e, he, (entS_is (g e he) k).2 q⟩, fun ⟨e, he, q⟩ => ⟨e, he, (entS_is (g e he) k).1 q⟩⟩
theorem SetS.setOf (R : SetS w h a l) : h.SetOf (PySem.strKind P w) a (fun k => decide (k ∈ l)) l.length := by
  obtain ⟨o, es, ep, t, ho, hx, hd, g, pm, nd, hb, hf, _⟩ := R
  refine ⟨o, es, ep, t, ho, hx, hd, entS_elems g, fun k => ?_, hb, hf, ?_⟩
  · rw [decide_eq_true_eq, ← pm.mem_iff]
    exact entS_mem g k
  · rw [← pm.length_eq, List.length_map, Array.length_toList]
end
section
variable {P : Program} {w : World} {A : Around} {E : Value → Shared → Prop} {s : Shared} {a : Addr} {l : List Str}
theorem setS_tail {g : Bool → Sem Unit} (hg : ∀ (b : Bool) (s₁ : Shared) (Q' : Unit → Shared → Prop), Q' () s₁ → wpAny (model P w) A (g b) Q' E s₁)
    {o : Obj} {es : Array (Int × Value)} {ep : Nat} {t : SetTable} (ho : s.heap.get? a = some o) (hex : o.ExactSet) (hd : o.data = .set es ep t)
    {es1 : Array (Int × Value)} {t2 : SetTable} (g1 : ∀ e ∈ es1.toList, EntS w e) (pm1 : (es1.toList.map fun e => txtOf e.2).Perm l) (nd1 : l.Nodup)
    (hb1 : es1.size < scanBound) (hf2 : t2.fits es1.size = true) (hr : Ris t2.place.toList) (hl : w.params.followText "set-order" = true ∨ t2.led = true) {wasDummy : Bool} {R : Option Bool → Shared → Prop}
    (hR : ∀ h', Heap.SameBut a s.heap h' → SetS w h' a l → R (some true) { s with heap := h' }) :
    wpAny (model P w) A (do
        storeSet a es1 t2
        if (!wasDummy && t2.tooFull) = true then do
            g (relayAll t2 es1 (SetTable.grown es1.size)).2.2
            storeSet a (relayAll t2 es1 (SetTable.grown es1.size)).1 (relayAll t2 es1 (SetTable.grown es1.size)).2.1
            pure (some true)
          else pure (some true)) R E s := by
  refine wpAny_bind (wpAny_storeSet_of ho hd ?_ (fits_of_scanBound hb1))
  have at1 := PpSet.storeB_at (es' := es1) (t' := t2) ho hd
  have sb1 := Heap.SameBut.update s.heap a (Obj.putSet es1 t2)
  split
  · have pm := relayAll_perm t2 es1 (SetTable.grown es1.size)
    have f3 := relayAll_fits t2 es1 (SetTable.grown es1.size)
    have r3 := relayAll_ris t2 es1 (SetTable.grown es1.size)
    have l3 := relayAll_led t2 es1 (SetTable.grown es1.size)
    generalize relayAll t2 es1 (SetTable.grown es1.size) = Z at pm f3 r3 l3 ⊢
    obtain ⟨es2, t3, gave⟩ := Z
    dsimp only at pm f3 r3 l3 ⊢
    have sz : es2.size = es1.size := by rw [← Array.length_toList, pm.length_eq, Array.length_toList]
    refine wpAny_bind (hg _ _ _ ?_)
    refine wpAny_bind (wpAny_storeSet_of at1 rfl ?_ (fits_of_scanBound (by rw [sz]; exact hb1)))
    have at2 := PpSet.storeB_at (es' := es2) (t' := t3) at1 rfl
    refine wpAny_pure (hR _ (sb1.trans (Heap.SameBut.update _ a _)) ?_)
    exact ⟨_, es2, _, t3, at2, hex, rfl, fun e he => g1 e (pm.mem_iff.mp he), (pm.map _).trans pm1, nd1, by rw [sz]; exact hb1, f3, r3, hl.imp id fun z => by rw [l3]; exact z⟩
  · exact wpAny_pure (hR _ sb1 ⟨_, es1, _, t2, at1, hex, rfl, g1, pm1, nd1, hb1, hf2, hr, hl⟩)
theorem setS_hashed {k : Str} {tk : Tok} {Q : Bool → Shared → Prop} (R : SetS w s.heap a l) (room : l.length + 1 < scanBound)
    (hQ : ∀ b h', Heap.SameBut a s.heap h' → SetS w h' a (ins l k) → Q b { s with heap := h' }) :
    wpAny (model P w) A (setAddHashed a (.str k tk) ((PySem.strKind P w).hash k)) Q E s := by
  obtain ⟨o, es, ep, t, ho, hex, hd, g, pm, nd, hb, hf, hr, hl⟩ := R
  have hkey : (PySem.strKind P w).is k (.str k tk) = true := strKind_is P w k tk
  have hsc : (Value.str k tk).scannable = true := rfl
  have hel : ElemsOf (PySem.strKind P w) es.toList := entS_elems g
  unfold setAddHashed setAddHashedIn
  refine wpAny_holding (wpAny_bind (wpAny_setState_of ho hd hf ?_))
  dsimp only
  rw [byScan_of hsc hb hel]
  simp only [↓reduceIte]
  unfold setAddByScan
  refine wpAny_bind ?_
  refine wpAny_bind (wpAny_rule ?_)
  refine wpAny_bind (wpAny_setScan_of hkey ho hd hf hel ?_)
  cases hfi : List.findIdx? (fun e => (PySem.strKind P w).is k e.2) es.toList with
  | some j =>
    dsimp only
    obtain ⟨hj, pj, _⟩ := List.findIdx?_eq_some_iff_getElem.mp hfi
    have hk : k ∈ l := pm.mem_iff.mp ((entS_mem (P := P) g k).2 ⟨es.toList[j], List.getElem_mem hj, pj⟩)
    refine wpAny_pure (wpAny_pure ?_)
    exact hQ _ s.heap (Heap.SameBut.refl a s.heap) ⟨o, es, ep, t, ho, hex, hd, g, by unfold ins; rw [if_pos hk]; exact pm, ins_nodup nd, hb, hf, hr, hl⟩
  | none =>
    dsimp only
    have hk : k ∉ l := fun z => by
      obtain ⟨e, he, q⟩ := (entS_mem (P := P) g k).1 (pm.mem_iff.mpr z)
      have c := List.findIdx?_eq_none_iff.mp hfi e he
      rw [q] at c
      cases c
    have ie : ins l k = l ++ [k] := by unfold ins; rw [if_neg hk]
    have hgw : ∀ (b : Bool) {s₁ : Shared} {Q' : Unit → Shared → Prop}, Q' () s₁ → wpAny (model P w) A (match b with | true => rule "set.scan.the-table-gave-way" | false => pure ()) Q' E s₁ :=
      fun b s₁ Q' q => by cases b <;> first | exact wpAny_pure q | exact wpAny_rule q
    have pn := layNew_perm t es ((PySem.strKind P w).hash k) (.str k tk)
    have hf1 := layNew_fits t es ((PySem.strKind P w).hash k) (.str k tk)
    have hr1 := layNew_ris t es ((PySem.strKind P w).hash k) (.str k tk) hr
    have hl1 := layNew_led t es ((PySem.strKind P w).hash k) (.str k tk)
    generalize layNew t es ((PySem.strKind P w).hash k) (.str k tk) = Z at pn hf1 hr1 hl1 ⊢
    obtain ⟨es1, t1, wasDummy, gave⟩ := Z
    dsimp only at pn hf1 hr1 hl1 ⊢
    rw [Array.toList_push] at pn
    have g1 : ∀ e ∈ es1.toList, EntS w e := fun e he => by
      rcases List.mem_append.mp (pn.mem_iff.mp he) with z | z
      · exact g e z
      · rw [List.mem_singleton.mp z]
        exact ⟨k, tk, rfl, rfl⟩
    have pk : (es1.toList.map fun e => txtOf e.2).Perm (ins l k) := by
      have z := pn.map fun e : Int × Value => txtOf e.2
      rw [List.map_append] at z
      rw [ie]
      exact z.trans (pm.append (List.Perm.refl _))
    have sz : es1.size = l.length + 1 := by
      have z := pk.length_eq
      rw [List.length_map, Array.length_toList, ie, List.length_append] at z
      exact z
    have hb1 : es1.size < scanBound := by rw [sz]; exact room
    have hled : w.params.followText "set-order" = true ∨ t1.led = true := hl.imp id fun z => by rw [hl1]; exact z
    refine wpAny_bind (hgw _ ?_)
    split
    · refine wpAny_bind ?_
      rw [hashByValue_scannable 8 hsc]
      refine wpAny_pure ?_
      refine setS_tail (l := ins l k) ?_ ho hex hd g1 pk (ins_nodup nd) hb1 ?_ ?_ ?_ ?_
      · intro b s₁ Q' q; cases b <;> first | exact wpAny_pure q | exact wpAny_rule q
      · first | (split <;> first | exact hf1 | exact SetTable.fits_plain_off hf1) | exact hf1
      · first | (split <;> exact hr1) | exact hr1
      · first | (split <;> exact hled) | exact hled
      · intro h' sb r; dsimp only; exact wpAny_pure (hQ _ h' sb r)
    · refine wpAny_bind (wpAny_pure ?_)
      simp only [↓reduceIte]
      refine setS_tail (l := ins l k) ?_ ho hex hd g1 pk (ins_nodup nd) hb1 hf1 hr1 hled ?_
      · intro b s₁ Q' q; cases b <;> first | exact wpAny_pure q | exact wpAny_rule q
      · intro h' sb r; dsimp only; exact wpAny_pure (hQ _ h' sb r)
theorem setS_add {k : Str} {tk : Tok} {Q : Value → Shared → Prop} (R : SetS w s.heap a l) (room : l.length + 1 < scanBound)
    (hQ : ∀ h', Heap.SameBut a s.heap h' → SetS w h' a (ins l k) → Q .none { s with heap := h', toks := s.toks + 1 }) :
    wpAny (model P w) A (call (.builtin "set.add") [.ref a, .str k tk]) Q E s := by
  have hS : s.heap.SetOf (PySem.strKind P w) a _ _ := R.setOf
  refine wpAny_call_entry F.slot_set_add hS.typeIs F.entry_set_add ?_ (F.args_set_add_2 _ _)
  unfold Builtin.«set.add» Builtin.Frozenset.oneOther
  simp only [List.isEmpty_nil, bind_assoc]
  unfold Builtin.Frozenset.addrOf setAdd
  refine wpAny_bind (wpAny_pure ?_)
  try dsimp only
  refine wpAny_bind (wpAny_pure ?_)
  try dsimp only
  refine wpAny_bind ?_
  refine wpAny_holding ?_
  refine wpAny_bind ((PySem.strKind P w).pyHash (strKind_is P w k tk) ?_)
  refine setS_hashed (s := { s with toks := s.toks + 1 }) R room fun b h' sb r => ?_
  show wpAny _ _ (ret Value.none) _ _ _
  exact wpAny_pure ⟨_, rfl, hQ h' sb r⟩
end
/-- the set of texts at a -/
def SetSO (w : World) (a : Addr) (l : List Str) : HO := .ext fun h => SetS w h a l
theorem setSO_new {w : World} {P : Program} {H : Hp} {h : Heap} {a : Addr} {l : List Str} (R : SetS w h a l) : ObjOk P w H h a (SetSO w a l) := by
  have ⟨o, _, _, _, ho, _⟩ := R
  exact ⟨R, ⟨o, ho⟩, fun h1 h2 p k => SetS.at p k⟩
section
variable {X : Cx}
theorem setSO_get {pins : List (Addr × Obj)} {σ : L2.St} {H : Hp} {s : Shared} {a : Addr} {l : List Str} (I : Inv X pins σ H s) (ha : H a = some (SetSO X.w a l)) : SetS X.w s.heap a l := (I.hok a _ ha).1
theorem addS_ok {pins : List (Addr × Obj)} {σ : L2.St} {H : Hp} {s : Shared} {E : Value → Shared → Prop} {D : Addr} {l : List Str} {y : Str} {tk : Tok} {Q : Value → Shared → Prop} (I : Inv X pins σ H s) (hD : H D = some (SetSO X.w D l)) (room : l.length + 1 < scanBound)
    (h : ∀ s', Inv X pins σ (upd H D (SetSO X.w D (ins l y))) s' → Q .none s') : wpAny (model X.prog X.w) X.A (call (.builtin "set.add") [.ref D, .str y tk]) Q E s := by
  have R := setSO_get I hD
  refine setS_add R room fun h' sb new => ?_
  have he : ∃ u, h'.get? D = some u := by
    have ⟨o, _, _, _, ho, _⟩ := new
    exact ⟨o, ho⟩
  exact h _ (I.write (e := D) (t' := s.toks + 1) (by rw [hD]; trivial) (.inl rfl) (fun b u hb hu => (sb.2 b hb).trans hu) he (setSO_new new))
end
/-! ### the comprehension -/
def BSet (M : Model) (elt : Expr) : BodyT := fun A env D Post E s => wpAny M A (eval elt env) (fun x s1 => wpAny M A (call (.builtin "set.add") [.ref D, x]) (fun _ s2 => Post s2) E s1) E s
def tbS (w : World) (te : TE) : TB := fun D σ H Nx => te σ H fun y H1 => ∃ z l, y = .str z ∧ H1 D = some (SetSO w D l) ∧ l.length + 1 < scanBound ∧ Nx (upd H1 D (SetSO w D (ins l z)))
def ledW (w : World) : Bool := !w.params.followText "set-order"
section
variable {X : Cx} {elt tg iter : Expr} {ifs : List Expr} {scope : Scope} {pos : Pos} {te : TE}
theorem kind_S (he : Ctxs X scope fun Y => PE Y elt te) :
    Kind X (.SetComp elt [⟨tg, iter, ifs, 0⟩] scope pos) tg iter ifs scope (newSet (.type "set")) { cls := .type "set", dict := none, data := .set #[] 0 (.fresh 0 0 (!X.w.params.followText "set-order")) } (fun D => SetSO X.w D []) (BSet (model X.prog X.w) elt) (tbS X.w te) where
  cls := rfl
  new := fun A E' s Q h => PpSet.newSet_ok h
  is := fun H h hb => setSO_new ⟨_, #[], 0, _, Heap.get?_push_size _ rfl, ⟨rfl, rfl, rfl⟩, rfl, (fun e he => by simp at he), List.Perm.refl _, List.nodup_nil, (by decide), (by rfl), List.Pairwise.nil, by
    show _ ∨ (!X.w.params.followText "set-order") = true
    cases X.w.params.followText "set-order"
    · exact .inr rfl
    · exact .inl rfl⟩
  loop := fun A R it D env I n s turn h => PpSet.compLoopS_any I turn n h
  start := fun A R it D env s h hi => PpSet.codeAny_compStart_set h (hi _ _ h)
  body := fun s H C cl fp D pins s1 σ1 H1 Nx Post E' I h post => by
    refine thnF ((he s H C cl fp).run pins s1 σ1 H1 _ I h) fun u s2 ⟨y, H2, I2, r2, z, l, ey, hD, room, nx⟩ => ?_
    subst ey
    obtain ⟨tk, rfl⟩ := (show ∃ t, u = Value.str z t from r2)
    exact addS_ok (X := X.blk s H scope (compEnvC scope cl C X.env) fp) I2 hD room fun s3 I3 => post s3 _ I3 nx
variable {own : List (PySem.Str × Nat)} {wi : TI} {g : TG} {tt : TT}
theorem pe_scS (hc : X.calm = true) (hN : X.N.Nodup) (hi : PI X tg iter wi) (ok : BlkOk X.N X.env.scope scope own) (hg : Ctxs X scope fun Y => PG Y tg g) (ht : Ctxs X scope fun Y => PTs Y ifs tt) (he : Ctxs X scope fun Y => PE Y elt te)
    (hs : ∀ x, foldedSetIterable iter X.env x = pure x := by intro _; rfl) : PE X (.SetComp elt [⟨tg, iter, ifs, 0⟩] scope pos) (tCC wi g tt (tbS X.w te) (fun D => SetSO X.w D []) (own.map (·.2))) := cc_val (kind_S he) (PpSet.eval_SetComp _ _ _ _) hc hN hi ok hg ht hs
end
/-! ### sorted(a set of texts) -/
theorem strs_of_txt : ∀ (l : List Value), (∀ v ∈ l, ∃ k tk, v = Value.str k tk) → StrsAre l (l.map txtOf)
  | [], _ => .nil
  | v :: l, h => by
    obtain ⟨k, tk, rfl⟩ := h v List.mem_cons_self
    exact .cons k tk (strs_of_txt l fun u hu => h u (List.mem_cons_of_mem _ hu))
theorem sorted_setS {P : Program} {w : World} {A : Around} {E : Value → Shared → Prop} {s : Shared} {a : Addr} {l : List Str} {Q : Value → Shared → Prop} (R : SetS w s.heap a l) (hh : A.handled = none) (h64 : l.length < 64)
    (hQ : ∀ s' p (out : Array Value) (c : Nat) (ns : List Str), (∀ b o, s.heap.get? b = some o → s'.heap.get? b = some o) → s'.gens = s.gens → s'.os = s.os → s.heap.objs.size ≤ p →
      s'.heap.get? p = some (seqObj "list" out c) → StrsAre out.toList ns → ns.Perm l → Q (.ref p) s') :
    wpAny (model P w) A (call (.builtin "sorted") [.ref a]) Q E s := by
  obtain ⟨o, es, ep, t, ho, hex, hd, g, pe, nd, hb, hf, hr, hl⟩ := R
  refine Calls.call_function_entry kind_sorted plain_sorted entry_sorted (args_sorted1 _) ?_
  unfold Builtin.«sorted»
  refine wpAny_bind (m := checkCount "sorted" 1 1 _) (wpAny_pure ?_)
  refine wpAny_bind (collect_set (A := A.in1) hh ⟨o, ho, hex.1, hd⟩ hf hb hr hl fun s1 vs k1 hz g1 o1 pm => ?_)
  have hI : StrsAre vs (vs.map txtOf) := strs_of_txt vs fun v hv => by
    obtain ⟨e, he, q⟩ := List.mem_map.mp (pm.mem_iff.mp hv)
    obtain ⟨k, tk, h1, _⟩ := g e he
    exact ⟨k, tk, by rw [← q]; exact h1⟩
  have pk : (vs.map txtOf).Perm l := by
    have q := pm.map txtOf
    rw [List.map_map] at q
    exact q.trans pe
  have hvl : vs.length = l.length := by
    have z := pk.length_eq
    rw [List.length_map] at z
    exact z
  refine wpAny_bind (wpAny_newList ?_ (by rw [hvl, sizeLine_eq]; omega))
  have hoL : (s1.heap.push (seqObj "list" vs.toArray 0)).get? s1.heap.objs.size = some (seqObj "list" vs.toArray 0) := Heap.get?_push_size _ rfl
  refine wpAny_bind (wpAny_holding (wpAny_call_entry slot_list_sort ⟨_, hoL, rfl⟩ entry_list_sort
    (list_sort_treeKAny strKind_oneLt hoL hI.keysOf (fun v₁ v₂ rest e => keyKind_strs (by rw [← e]; exact hI)) (by rw [hvl, sizeLine_eq]; omega) fun st' hp hs => ⟨_, rfl, ?_⟩) (args_list_sort _)))
  obtain ⟨ss', h1, h2, h3⟩ := sorted_out_str hI hp hs
  obtain ⟨c, hc⟩ := sortedHeap_at (vs := vs) (out := (arrOf st').map (·.2)) hoL
  refine wpAny_pure ⟨_, rfl, hQ _ s1.heap.objs.size _ c ss' (fun b u e => ?_) g1 o1 hz hc h1 (h2.trans pk)⟩
  have q := k1 b u e
  have hlt := Heap.lt_size q
  show (sortedHeap (s1.heap.push (seqObj "list" vs.toArray 0)) s1.heap.objs.size vs _).get? b = some u
  rw [sortedHeap_old (Nat.ne_of_lt hlt) (by rw [size_push']; exact Nat.lt_succ_of_lt hlt)]
  exact Heap.get?_push_of_some _ q
theorem vals_of_strs : ∀ {us : List Value} {ns : List Str}, StrsAre us ns → Vals (ns.map V.str) us
  | _, _, .nil => .nil
  | _, _, .cons n t hr => .cons ⟨t, rfl⟩ (vals_of_strs hr)
def rSortedS (w : World) : List V → Hp → VK → Prop := fun vs H Q => ∃ (a : Addr) (l : List Str), vs = [V.ref a] ∧ H a = some (SetSO w a l) ∧ l.length < 64 ∧
  ∀ (ns : List Str) (p : Addr), ns.Perm l → l.Nodup → H p = none → Q (.ref p) (upd H p (.lst (ns.map V.str)))
theorem cr_sortedS {X : Cx} (hc : X.calm = true) : CallR X (.builtin "sorted") (rSortedS X.w) := by
  intro pins s σ H vs us Q I r h
  obtain ⟨a, l, rfl, ha, h64, q⟩ := h
  have R := setSO_get I ha
  have nd : l.Nodup := by
    obtain ⟨_, _, _, _, _, _, _, _, _, nd, _⟩ := id R
    exact nd
  rw [Vals.ref1 r]
  refine sorted_setS R (I.ok.hd hc) h64 fun s' p out c ns k g o hp hg hi pm => ?_
  have hlen : (ns.map V.str).length ≤ sizeLine := by rw [List.length_map, pm.length_eq, sizeLine_eq]; omega
  have hn : H p = none := I.hok.fresh hp
  have J : Inv X pins σ (upd H p (.lst (ns.map V.str))) { s with heap := s'.heap, gens := s'.gens, drawn := s'.drawn, toks := s'.toks } :=
    I.call (ch := []) (Un.laid k hp hn) (I.hok.laid k hp ⟨hlen, out.toList, c, vals_of_strs hi, hg⟩) (by rw [g]; exact I.bare) (fun _ z => nomatch z)
  have e : s' = { s with heap := s'.heap, gens := s'.gens, drawn := s'.drawn, toks := s'.toks } := by
    cases s'
    cases s
    cases o
    rfl
  rw [e]
  exact ⟨.ref p, _, J, rfl, q ns p pm nd hn⟩
/-! ### len(set(a list of texts)) -/
section
variable {prog : Program} {w : World} {A : Around} {R : Result → Shared → Prop} {I : Addr} {fp wr : List Addr} {G : Array GenState → Array GenState → Prop} {n : Nat} {P : Nat → Value → Prop} {St : Nat → Shared → Prop}
theorem loopS (W : WalksS prog w A.in1 I fp wr G n P St) (S : Addr) (hSf : S ∉ fp) (xs : List Str) (hsz : xs.length = n) (hb : n + 1 < scanBound) (hval : ∀ i v, P i v → ∃ t, v = .str (xs.getD i Str.empty) t) :
    ∀ (k i : Nat) (s : Shared) (l : List Str), n - i = k → i ≤ n → St i s → l.length ≤ i → l = insAll [] (xs.take i) →
      s.heap.SetOf (PySem.strKind prog w) S (fun k' => decide (k' ∈ l)) l.length →
      (∀ s', Moved (S :: wr) G s s' → s'.heap.SetOf (PySem.strKind prog w) S (fun k' => decide (k' ∈ insAll [] xs)) (insAll [] xs).length → R (.ok (.ret .none)) s') →
      codeAny (model prog w) A (.builtin "set.update.loop" ⟨[.ref S, .ref I], []⟩) R s := by
  have hSw : S ∉ wr := fun h => hSf (W.sub _ h)
  have hsub : ∀ b ∈ wr, b ∈ S :: wr := fun b hb => List.mem_cons_of_mem _ hb
  intro k
  induction k with
  | zero =>
    intro i s l hk hi hst hl el hS hR
    have hin : i = n := by omega
    subst hin
    rw [← hsz, List.take_length] at el
    subst el
    refine codeAny_builtin PyProof.Rows.F.entry_set_update_loop ?_
    rw [Around.under_plainId PyProof.Rows.F.plain_set_update_loop _]
    show wpAny _ A.in1 (pyNext (.ref I) >>= _) _ _ s
    refine wpAny_bind (W.done s _ _ hst fun s' hm => ?_)
    show wpAny _ A.in1 (ret Value.none) _ _ s'
    exact wpAny_pure (hR s' (hm.mono hsub) (by
      obtain ⟨o, es, ep, t, ho, rest⟩ := hS
      exact ⟨o, es, ep, t, hm.heap S _ hSw ho, rest⟩))
  | succ k ih =>
    intro i s l hk hi hst hl el hS hR
    have hlt : i < n := by omega
    refine codeAny_builtin PyProof.Rows.F.entry_set_update_loop ?_
    rw [Around.under_plainId PyProof.Rows.F.plain_set_update_loop _]
    show wpAny _ A.in1 (pyNext (.ref I) >>= _) _ _ s
    refine wpAny_bind (W.item i s _ _ hlt hst fun v s' hP hst' hm => ?_)
    obtain ⟨t, rfl⟩ := hval i v hP
    have hS' : s'.heap.SetOf (PySem.strKind prog w) S (fun k' => decide (k' ∈ l)) l.length := by
      obtain ⟨o, es, ep, tb, ho, rest⟩ := hS
      exact ⟨o, es, ep, tb, hm.heap S _ hSw ho, rest⟩
    show wpAny _ A.in1 (holding [Value.str (xs.getD i Str.empty) t] (setAdd S (.str (xs.getD i Str.empty) t)) >>= _) _ _ s'
    refine wpAny_bind (wpAny_holding ?_)
    unfold setAdd
    refine wpAny_holding ?_
    refine wpAny_bind ((PySem.strKind prog w).pyHash (k := xs.getD i Str.empty) (strKind_is _ _ _ _) ?_)
    refine wpAny_setAddHashed_of (knd := PySem.strKind prog w) (s := { s' with toks := s'.toks + 1 }) (strKind_is _ _ _ _) rfl hS' (by omega) fun h' hsb hS2 => ?_
    have hx : xs.take (i + 1) = xs.take i ++ [xs.getD i Str.empty] := by
      have hi2 : i < xs.length := by rw [hsz]; exact hlt
      rw [List.take_succ, List.getElem?_eq_getElem hi2, List.getD_eq_getElem?_getD, List.getElem?_eq_getElem hi2]
      rfl
    have hl2 : ins l (xs.getD i Str.empty) = insAll [] (xs.take (i + 1)) := by rw [hx, insAll_snoc, ← el]
    have hSi : h'.SetOf (PySem.strKind prog w) S (fun k' => decide (k' ∈ ins l (xs.getD i Str.empty))) (ins l (xs.getD i Str.empty)).length := by
      refine SetOf_congr hS2 (fun k' => ?_) ?_
      · rw [← Bool.decide_or]
        exact decide_eq_decide.mpr mem_ins.symm
      · unfold ins
        by_cases e : xs.getD i Str.empty ∈ l
        · rw [if_pos (decide_eq_true e), if_pos e]
        · rw [if_neg (by rw [decide_eq_false e]; exact Bool.false_ne_true), if_neg e, List.length_append]
          rfl
    have hlen : (ins l (xs.getD i Str.empty)).length ≤ i + 1 := by
      unfold ins
      split
      · omega
      · rw [List.length_append]
        exact Nat.add_le_add hl (Nat.le_refl 1)
    refine wpAny_pure ⟨plainId_quiet PyProof.Rows.F.plain_set_update_loop _, ih (i + 1) _ _ (by omega) hlt (W.frame _ s' _ _ hst' (Nat.le_succ _) fun b hb o e => ?_) hlen hl2 hSi fun s'' hm'' hS'' => ?_⟩
    · rw [hsb.2 b (fun h : b = S => hSf (by rw [← h]; exact hb))]; exact e
    · refine hR s'' (Moved.trans W.gtrans ((hm.mono hsub).then_heap (Nat.le_succ _) fun b o hb e => ?_) hm'') hS''
      rw [hsb.2 b (fun h : b = S => hb (by rw [h]; exact List.mem_cons_self))]; exact e
end
section
variable {prog : Program} {w : World} {A : Around} {E : Value → Shared → Prop} {s : Shared}
theorem call_set_listM {l : Addr} {items : Array Value} {xs : List Str} {Q : Value → Shared → Prop}
    (hh : A.handled = none) (hl : s.heap.IsList l items) (hi : PyProof.Rows.StrsAre items.toList xs) (hb : xs.length + 1 < scanBound)
    (h : ∀ (h' : Heap) (tk : Nat), h'.SetOf (PySem.strKind prog w) s.heap.objs.size (fun k' => decide (k' ∈ insAll [] xs)) (insAll [] xs).length →
      (∀ b o, b < s.heap.objs.size → s.heap.get? b = some o → h'.get? b = some o) → Q (.ref s.heap.objs.size) { s with heap := h', toks := tk }) :
    wpAny (model prog w) A (call (.type "set") [.ref l]) Q E s := by
  obtain ⟨c, tl, hmro⟩ := PySem.F.called_set.mro
  have hmade := PySem.F.called_set.made
  have hsub := PySem.F.called_set.sub
  refine wpAny_call (codeAny_of_tree ?_)
  show wpAny _ _ (callAny (.type "set") _) _ _ _
  refine wpAny_pure ⟨Code.quiet_builtin _ (by decide +kernel), codeAny_builtin PySem.F.entry_type_call ?_⟩
  rw [Around.under_plain (weight_type_call_type "set" [.ref l] []) rfl]
  have h1 := PySem.F.called_set.notType
  have h2 := PySem.F.called_set.canCreate
  have hct := PySem.F.typeCall_set_1 (.ref l)
  repeat (any_goals (first | assumption | wp_step))
  refine codeAny_mono (code_set_new_1 (.ref l) (E := E) (Q₁ := fun obj s₁ => ∃ led : Bool, obj = .ref s.heap.objs.size ∧ s₁ = { s with heap := s.heap.push { cls := .type "set", dict := none, data := .set #[] 0 (.fresh 0 0 led) } }) fun led => ⟨led, rfl, rfl⟩) fun r s₁ hr => ?_
  cases r with
  | error e => exact hr
  | ok fl =>
    cases fl with
    | ret obj =>
      obtain ⟨led, rfl, rfl⟩ := hr
      have hS : (s.heap.push { cls := .type "set", dict := none, data := .set #[] 0 (.fresh 0 0 led) }).get? s.heap.objs.size = some { cls := .type "set", dict := none, data := .set #[] 0 (.fresh 0 0 led) } := Heap.get?_push_size _ rfl
      have hT : Shared.TypeIs { s with heap := s.heap.push { cls := .type "set", dict := none, data := .set #[] 0 (.fresh 0 0 led) } } (.ref s.heap.objs.size) "set" := ⟨_, hS, rfl⟩
      have hli := PySem.F.called_set.init.lookup
      have hbi := PySem.F.called_set.init.bind (.ref s.heap.objs.size)
      repeat (any_goals (first | assumption | wp_step))
      refine codeAny_mono (codeAny_call_builtin (R := wants (fun r s₂ => r = .none ∧ ∃ h' tk, s₂ = { s with heap := h', toks := tk } ∧
          h'.SetOf (PySem.strKind prog w) s.heap.objs.size (fun k' => decide (k' ∈ insAll [] xs)) (insAll [] xs).length ∧
          (∀ b o, b < s.heap.objs.size → s.heap.get? b = some o → h'.get? b = some o)) E) PySem.F.called_set.init.plain PySem.F.entry_set_init (check_set_init_1 hT ?_)) fun r₂ s₂ hr₂ => ?_
      · obtain ⟨ol, hol, hcl, nl, hdl⟩ := hl
        obtain ⟨ocls, odict, odata, oslots⟩ := ol
        simp only at hcl hdl
        subst hcl; subst hdl
        have hol' : (s.heap.push { cls := .type "set", dict := none, data := .set #[] 0 (.fresh 0 0 led) }).get? l = some { cls := .type "list", dict := odict, data := .seq items nl, slots := oslots } := Heap.get?_push_of_some _ hol
        have hsls := PySem.F.sub_list_set
        have hslf := PySem.F.sub_list_frozenset
        have hne : (Value.type "list" == Value.type "dict") = false := by decide
        have hl1 : (s.heap.push { cls := .type "set", dict := none, data := .set #[] 0 (.fresh 0 0 led) }).IsList l items := ⟨_, hol', rfl, nl, rfl⟩
        unfold Builtin.«set.__init__» noKeywords Builtin.Frozenset.updateFrom
        generalize hPI : pyIter = PI
        wp_walk
        subst hPI
        refine wpAny_pyIter_list hl1 ?_
        refine wpAny_bind (wpAny_runValue ?_)
        have hlS : l < s.heap.objs.size := Heap.lt_size hol
        have hh3 : A.in1.in1.in1.handled = none := by simp [hh]
        have hneI : l ≠ (s.heap.push { cls := .type "set", dict := none, data := .set #[] 0 (.fresh 0 0 led) }).objs.size := by
          rw [Heap.size_push]; exact Nat.ne_of_lt (Nat.lt_succ_of_lt hlS)
        have hSf : s.heap.objs.size ∉ [(s.heap.push { cls := .type "set", dict := none, data := .set #[] 0 (.fresh 0 0 led) }).objs.size, l] := by
          rw [Heap.size_push]; simp only [List.mem_cons, List.mem_singleton, List.not_mem_nil, or_false, not_or]
          exact ⟨Nat.ne_of_lt (Nat.lt_succ_self _), Nat.ne_of_gt hlS⟩
        have hsz : xs.length = items.size := by rw [← StrsAre.len_eq hi, Array.length_toList]
        have hval : ∀ (i : Nat) (v : Value), items[i]? = some v → ∃ t, v = .str (xs.getD i Str.empty) t := fun i v hv => SS.strs_at hi i v (by rw [Array.getElem?_toList]; exact hv)
        refine loopS ((Walks.list hh3 _ l hneI items).toS) s.heap.objs.size
          hSf xs hsz (by rw [← hsz]; exact hb) hval (items.size - 0) 0 _ [] (by omega) (Nat.zero_le _)
          ⟨⟨_, Heap.get?_push_size _ rfl, rfl, rfl⟩, (hl1.push _)⟩ (Nat.zero_le _) rfl ?hS0 ?hR
        case hS0 =>
          have hget : ((s.heap.push { cls := .type "set", dict := none, data := .set #[] 0 (.fresh 0 0 led) }).push { cls := .type "list_iterator", data := .fields #[.ref l, .int 0 0] }).get? s.heap.objs.size
              = some { cls := .type "set", dict := none, data := .set #[] 0 (.fresh 0 0 led) } := Heap.get?_push_of_some _ hS
          exact PyProof.Rows.SetOf_congr ((PyProof.Rows.setObjOf_fresh (knd := PySem.strKind prog w) led).setOf hget (by unfold scanBound; omega)) (fun _ => rfl) rfl
        case hR =>
          intro s' hm hS'
          obtain ⟨h', g', d', tk', os'⟩ := s'
          have eg : g' = s.gens := hm.gens
          have ed : d' = s.drawn := hm.drawn
          have eo : os' = s.os := hm.os
          subst eg; subst ed; subst eo
          show wpAny _ _ _ _ _ _
          refine wpAny_pure ?_
          show wpAny _ _ (ret Value.none) _ _ _
          refine wpAny_pure ⟨rfl, h', tk', rfl, hS', fun b o hb e => ?_⟩
          have hb1 : b ≠ s.heap.objs.size := Nat.ne_of_lt hb
          have hb2 : b ≠ (s.heap.push { cls := .type "set", dict := none, data := .set #[] 0 (.fresh 0 0 led) }).objs.size := by
            rw [Heap.size_push]; exact Nat.ne_of_lt (Nat.lt_succ_of_lt hb)
          exact hm.heap b o (by simp only [List.mem_cons, List.mem_singleton, List.not_mem_nil, or_false, not_or]; exact ⟨hb1, hb2⟩) (Heap.get?_push_of_some _ (Heap.get?_push_of_some _ e))
      · cases r₂ with
        | error e => exact hr₂
        | ok fl₂ =>
          cases fl₂ with
          | ret r =>
            obtain ⟨rfl, h', tk, rfl, hS', hk'⟩ := hr₂
            repeat (any_goals (first | assumption | wp_step))
            exact h _ _ hS' hk'
          | _ => exact hr₂.elim
    | _ => exact hr.elim
end
section
variable {X : Cx}
/-- how many different texts -/
def tLenS (K : PySem.W.Frag) (ta : TE) : TE := fun σ H Q => ta σ H fun x H1 => ∃ l, ∃ xs : List Str, x = .ref l ∧ SqL K H1 l (xs.map V.str) ∧ xs.length + 1 < scanBound ∧ ∀ n : Nat, n = (insAll [] xs).length → Q (.int n) H1
theorem pe_lenS {a : Expr} {ta : TE} {p p2 q pos : Pos} (hc : X.calm = true) (hm : X.mg "len" = none) (hm2 : X.mg "set" = none) (ha : PE X a ta) (hg : Gl X "len" := by rfl) (hg2 : Gl X "set" := by rfl)
    (na : starEach [a] X.env = (false, eval a X.env) :: starEach [] X.env := by rfl) : PE X (.Call (.Name "len" p) [.Call (.Name "set" p2) [a] [] q] [] pos) (tLenS X.K ta) := by
  refine ⟨fun pins s σ H Q I h => ?_⟩
  refine Call_ (ld_blt I hg hm boot_len ?_)
  refine PyProof.Rows.callWith_builtin1 (PyProof.Rows.args_cons ?_ rfl) rfl rfl
  refine Call_ (ld_blt I hg2 hm2 boot_set ?_)
  refine PyProof.Rows.callWith_type1 (PyProof.Rows.args_cons (thn (ha.run pins s σ H _ I h) fun v s1 ⟨x, H1, I1, r1, q1⟩ => PyProof.Rows.args_nil ?_) na) na rfl
  obtain ⟨l, xs, rfl, hq, h1, q1⟩ := q1
  cases r1
  obtain ⟨its, r, pl, hz⟩ := I1.list hq
  refine call_set_listM (I1.ok.hd hc) pl.isList (by simpa using strsAre_of r) h1 fun h' tk hS hk => ?_
  refine PyProof.Rows.args_nil ?_
  obtain ⟨o, es, ep, t, ho, hex, hd, _, _, _, hf, hn⟩ := hS
  have I2 : Inv X pins σ H1 { s1 with heap := h', toks := tk } := I1.kept fun b o e => hk b o (Heap.lt_size e) e
  have hle : (insAll [] xs).length ≤ xs.length := len_sub (insAll_nodup List.nodup_nil) fun z hz => (mem_insAll.mp hz).elim (fun q => nomatch q) id
  have sb : scanBound = scanBound := rfl
  refine call_len_set ho hex hd hf (by rw [hn]; unfold scanBound at h1; omega) ⟨.int (insAll [] xs).length, H1, I2.tok _, ⟨_, by rw [hn]⟩, q1 _ rfl⟩
end
end Kn

end
section
set_option maxHeartbeats 4000000
/-! More steps: lists of dicts, displays of dicts, update, sorted tuples, max with a default. -/
namespace Kn
open PySem PySem.Spec PyProof.Rows L2
section
variable {X : Cx} {k : Nat}
theorem call_list_dx (hc : X.calm = true) : CallR X (.type "list") (fun xs H Q => ∃ d es ep, xs = [V.ref d] ∧ H d = some (DX X.prog X.w d es ep) ∧ ∀ p, H p = none → Q (.ref p) (upd H p (.lst (es.map fun x => V.ref x.2.1)))) := by
  intro pins s σ H xs us Q I r h
  obtain ⟨d, es, ep, rfl, hd, q⟩ := h
  obtain ⟨u, rfl, rx⟩ := vals1 r
  obtain rfl : u = Value.ref d := rx
  obtain ⟨hs, hz, des, hraw, hsz, ent⟩ := dx_raw I.hok hd
  refine PySem.W.kdl_call (KdlSrc.rawDict (es := des) (ep := ep) hs) (I.ok.hd hc) hraw (by omega) fun h' tk acc' c' kp e it => ?_
  refine ⟨.ref s.heap.objs.size, upd H s.heap.objs.size (.lst (es.map fun x => V.ref x.2.1)), I.laid kp (Nat.le_refl _) (show ObjOk X.prog X.w _ _ _ (.lst (es.map fun x => V.ref x.2.1)) from ⟨by rw [List.length_map]; exact hz, acc'.toList, c', ?_, by rw [Array.toArray_toList]; exact e⟩), rfl, q _ (I.hok.fresh (Nat.le_refl _))⟩
  have el : acc'.toList.length = acc'.size := by simp
  refine vals_of_at (by rw [List.length_map, el, it.1, hsz]) fun j x w h1 h2 => ?_
  obtain ⟨hi, e2⟩ := it.2 j w (by rw [← Array.getElem?_toList]; exact h2)
  rw [List.getElem?_map] at h1
  cases hy : es[j]? with
  | none =>
    rw [hy] at h1
    exact nomatch (show (none : Option V) = some x from h1)
  | some y =>
    rw [hy] at h1
    obtain rfl : V.ref y.2.1 = x := Option.some.inj h1
    obtain ⟨hi2, u, e3, _, _⟩ := ent j y hy
    rw [e2, e3]
    exact rfl
/-! ### list(d.values()) -/
def VwO (v d : Addr) : HO := .ext fun h => h.IsValuesView v d
theorem vwO_new {P : Program} {w : World} {H : Hp} {h : Heap} {v d : Addr} (R : h.IsValuesView v d) : ObjOk P w H h v (VwO v d) := by
  obtain ⟨o, ho, r⟩ := id R
  exact ⟨R, ⟨o, ho⟩, fun h1 h2 p k => by obtain ⟨o2, ho2, r2⟩ := p; exact ⟨o2, k _ ho2, r2⟩⟩
/-- what is a dict with the values zs -/
def ValsD (P : Program) (w : World) (H : Hp) (d : Addr) (zs : List V) : Prop := (∃ kvs, H d = some (.dK kvs) ∧ zs = kvs.map (·.2)) ∨ ∃ es ep, H d = some (DX P w d es ep) ∧ zs = es.map (·.2.2)
theorem valsD_raw {P : Program} {w : World} {H : Hp} {h : Heap} {d : Addr} {zs : List V} (ok : HOk P w H h) (e : ValsD P w H d zs) : (d == sysModules) = false ∧ zs.length ≤ sizeLine ∧ ∃ es ep, h.DictRaw d es ep ∧ es.size = zs.length ∧
    ∀ (i : Nat) (x : V), zs[i]? = some x → ∃ (hi : i < es.size), RelV x es[i].val := by
  rcases e with ⟨kvs, e, rfl⟩ | ⟨xs, ep, e, rfl⟩
  · obtain ⟨z, lo, vs, rk, hd⟩ := (show ObjOk P w H h d (.dK kvs) from ok d _ e)
    obtain ⟨o, es, ep, ho, hc, hdt, hk, hp, hn⟩ := id hd
    have hl : kvs.length = vs.length := Paired.length rk
    have l2 : vs.length = es.size := by rw [← hp.length]; simp
    refine ⟨lo, by rw [List.length_map]; exact z, es, ep, ⟨o, ho, hc, hdt⟩, by rw [List.length_map]; omega, fun i x hx => ?_⟩
    rw [List.getElem?_map] at hx
    cases hy : kvs[i]? with
    | none =>
      rw [hy] at hx
      exact nomatch (show (none : Option V) = some x from hx)
    | some y =>
      rw [hy] at hx
      obtain rfl : y.2 = x := Option.some.inj hx
      obtain ⟨y2, hy2, hr⟩ := L2.paired_get rk hy
      have hi : i < es.size := by
        rw [← l2]
        exact (List.getElem?_eq_some_iff.mp hy2).1
      obtain ⟨k2, v2⟩ := y2
      obtain ⟨hkey, hval⟩ := hp.get? (e := es[i]) (by simp [hi]) hy2
      exact ⟨hi, by rw [hval]; exact hr.2⟩
  · obtain ⟨hs, hz, des, hraw, hsz, ent⟩ := dx_raw ok e
    refine ⟨hs, by rw [List.length_map]; exact hz, des, ep, hraw, by rw [List.length_map]; exact hsz, fun i x hx => ?_⟩
    rw [List.getElem?_map] at hx
    cases hy : xs[i]? with
    | none =>
      rw [hy] at hx
      exact nomatch (show (none : Option V) = some x from hx)
    | some y =>
      rw [hy] at hx
      obtain rfl : y.2.2 = x := Option.some.inj hx
      obtain ⟨hi, u, _, e2, r⟩ := ent i y hy
      exact ⟨hi, by rw [e2]; exact r⟩
def tVals (P : Program) (w : World) (td : TE) : TE := fun σ H Q => td σ H fun x H1 => ∃ d, x = .ref d ∧ (∃ zs, ValsD P w H1 d zs) ∧ ∀ v, H1 v = none → Q (.ref v) (upd H1 v (VwO v d))
theorem pe_vals {e : Expr} {td : TE} {apos cpos : Pos} (he : PE X e td) (hbase : attributeBase e "values" X.env (eval e X.env) = eval e X.env := by rfl) (hline : (apos.endLine == cpos.line) = true := by rfl) :
    PE X (.Call (.Attribute e "values" apos) [] [] cpos) (tVals X.prog X.w td) := by
  refine ⟨fun pins s σ H Q I h => ?_⟩
  refine wpAny_Call_method (T := "dict") (id := "dict.values") hbase rfl hline F.plainAttrs_dict F.slot_dict_values F.type_dict_values (thn (he.run pins s σ H _ I h) fun u s1 ⟨x, H1, I1, rx, d, ex, ⟨zs, hv⟩, q⟩ => ?_)
  subst ex
  obtain rfl : u = Value.ref d := rx
  obtain ⟨hs, hz, es, ep, hraw, hsz, ent⟩ := valsD_raw I1.hok hv
  obtain ⟨od, hod, hxd, hdd⟩ := id hraw
  refine ⟨hraw.typeIs, (fun b e => ?_), ?_⟩
  · cases e
    exact ⟨od, hod, hxd.2.1⟩
  have fin : EP X pins σ Q (.ref s1.heap.objs.size) { s1 with heap := s1.heap.push { cls := .type "dict_values", data := .fields #[.ref d] } } :=
    ⟨.ref s1.heap.objs.size, _, I1.laid (t' := s1.toks) (o := VwO s1.heap.objs.size d) (fun b o e => Heap.get?_push_of_some _ e) (Nat.le_refl _) (vwO_new ⟨_, Heap.get?_push_size _ rfl, rfl, rfl⟩), rfl, q _ (I1.hok.fresh (Nat.le_refl _))⟩
  show wpAny _ _ (callWith cpos (.builtin "dict.values") [.ref d] [] []) _ X.xe s1
  exact method_meetsIn F.slot_dict_values F.entry_dict_values rfl (PySem.evalArgs_none ⟨rfl, hraw.typeIs, F.args_dict_values_1 _, _, meets_dict_values_raw d hs, ⟨_, _, hraw⟩, fin⟩)
theorem call_list_vals (hc : X.calm = true) : CallR X (.type "list") (fun xs H Q => ∃ v d zs, xs = [V.ref v] ∧ H v = some (VwO v d) ∧ ValsD X.prog X.w H d zs ∧ ∀ p, H p = none → Q (.ref p) (upd H p (.lst zs))) := by
  intro pins s σ H xs us Q I r h
  obtain ⟨v, d, zs, rfl, hv, hd, q⟩ := h
  obtain ⟨u, rfl, rx⟩ := vals1 r
  obtain rfl : u = Value.ref v := rx
  obtain ⟨hs, hz, des, ep, hraw, hsz, ent⟩ := valsD_raw I.hok hd
  have view : s.heap.IsValuesView v d := (show ObjOk X.prog X.w H s.heap v (VwO v d) from I.hok v _ hv).1
  refine PySem.W.kdl_call (KdlSrc.rawValues (es := des) (ep := ep)) (I.ok.hd hc) ⟨view, hraw⟩ (by omega) fun h' tk acc' c' kp e it => ?_
  refine ⟨.ref s.heap.objs.size, upd H s.heap.objs.size (.lst zs), I.laid kp (Nat.le_refl _) (show ObjOk X.prog X.w _ _ _ (.lst zs) from ⟨hz, acc'.toList, c', ?_, by rw [Array.toArray_toList]; exact e⟩), rfl, q _ (I.hok.fresh (Nat.le_refl _))⟩
  have el : acc'.toList.length = acc'.size := by simp
  refine vals_of_at (by rw [el, it.1, hsz]) fun j x w h1 h2 => ?_
  obtain ⟨hi, e2⟩ := it.2 j w (by rw [← Array.getElem?_toList]; exact h2)
  obtain ⟨hi2, r2⟩ := ent j x h1
  rw [e2]
  exact r2
/-! ### {k: v}, k a tuple -/
def tDx1 (P : Program) (w : World) (tk tv : TE) : TE := fun σ H Q => ∀ p, H p = none → tk σ (upd H p (DX P w p [] 0)) fun y H1 => tv σ H1 fun z H2 => H2 p = some (DX P w p [] 0) ∧ ∃ b kk, y = .ref b ∧ KeyA H2 kk b ∧ ∀ ep, Q (.ref p) (upd H2 p (DX P w p [(kk, b, z)] ep))
theorem pe_dx1 {kx vx : Expr} {tk tv : TE} {pos : Pos} (hr : Room k X.A) (hk : PE X kx tk) (hv : PE X vx tv) : PE X (.Dict [some kx] [vx] pos) (tDx1 X.prog X.w tk tv) := by
  refine ⟨fun pins s σ H Q I h => ?_⟩
  have hn := I.hok.fresh (Nat.le_refl s.heap.objs.size)
  have new : ObjOk X.prog X.w H (s.heap.push { cls := .type "dict", data := .dict #[] }) s.heap.objs.size (DX X.prog X.w s.heap.objs.size [] 0) :=
    dx_ok (Nat.zero_le _) (beq_eq_false_iff_ne.mpr (Ne.symm (Nat.ne_of_lt I.big))) .nil ⟨_, #[], Heap.get?_push_size _ rfl, ⟨rfl, rfl, rfl⟩, rfl, rfl, List.nodup_nil⟩
  have I1 := I.laid (a := s.heap.objs.size) (o := DX X.prog X.w s.heap.objs.size [] 0) (h' := s.heap.push { cls := .type "dict", data := .dict #[] }) (t' := s.toks) (fun _ _ q => Heap.get?_push_of_some _ q) (Nat.le_refl _) new
  have room : (nestedKind X.prog X.w).room X.A := by
    have z := hr.units
    show X.A.units + 8 < cLine
    omega
  rw [arm_eval_Dict]
  have hshape : (evalEachOpt [some kx] X.env).zip ((evalEach [vx] X.env).map fun v => do let x ← v; standAt pos; pure x) = ([(eval kx X.env, (do let x ← eval vx X.env; standAt pos; pure x))] : List (Sem Value × Sem Value)).map fun p => (some p.1, p.2) := rfl
  rw [hshape, dictDisplay_pairs _ (by simp) (by show 1 < 17; decide)]
  refine wpAny_bind (wpAny_standAt (wpAny_bind (wpAny_subDictH (knd := nestedKind X.prog X.w) (Q := fun d s' => wpAny (model X.prog X.w) X.A (pure (Value.ref d)) (EP X pins σ Q) X.xe s') room (by show 1 ≤ 15; decide) (evalPairs_cons ?_))))
  refine thn (hk.run pins _ σ _ _ I1 (h _ hn)) fun u s2 ⟨y, H2, I2, r2, q2⟩ => ?_
  refine wpAny_bind (thn (hv.run pins s2 σ H2 _ I2 q2) fun u3 s3 ⟨z, H3, I3, r3, hD, b, kk, ey, hb, q3⟩ => ?_)
  subst ey
  obtain rfl : u = Value.ref b := r2
  refine wpAny_bind (wpAny_standAt (wpAny_pure (evalPairs_nil ?_)))
  obtain ⟨_, hs, ys, r, dd⟩ := dx_dictOf I3.hok hD KO.nil
  cases r
  refine ⟨[(kk, b, u3)], ⟨rfl, rfl, ⟨hb.1.is I3.hok rfl, hb.2⟩, trivial⟩, dd, fun h' tk dd' sb => wpAny_pure ?_⟩
  obtain ⟨o', es', ep', k1, k2, k3, k4, k5, k6⟩ := dd'
  have new2 : ObjOk X.prog X.w (upd H3 s.heap.objs.size (DX X.prog X.w s.heap.objs.size [(kk, b, z)] ep')) h' s.heap.objs.size (DX X.prog X.w s.heap.objs.size [(kk, b, z)] ep') :=
    dx_ok (by show 1 ≤ sizeLine; decide) hs (.cons ⟨rfl, rfl, r3⟩ .nil) ⟨o', es', k1, k2, k3, k4, k6⟩
  exact ⟨.ref s.heap.objs.size, _, I3.write (x := s.heap.objs.size) (e := s.heap.objs.size) (t' := tk) (by rw [hD]; exact True.intro) (.inl rfl) (fun c z hc e => (sb.2 c hc).trans e) ⟨o', k1⟩ new2, rfl, q3 ep'⟩
/-! ### d.update(e) -/
def rDUpd : V → List V → Hp → VK → Prop := fun x xs H Q => ∃ a e kvs more, x = V.ref a ∧ xs = [V.ref e] ∧ a ≠ e ∧ H a = some (.dK kvs) ∧ H e = some (.dK more) ∧ kvs.length + more.length ≤ sizeLine ∧ Q .non (upd H a (.dK (mergeK kvs more)))
theorem mt_dupd : MtR X "dict.update" rDUpd := by
  intro pins s σ H x xs v us Q I rx rxs h
  obtain ⟨a, e, kvs, more, rfl, rfl, ne, ha, he, hz, q⟩ := h
  obtain rfl : v = Value.ref a := rx
  obtain ⟨u, rfl, ru⟩ := vals1 rxs
  obtain rfl : u = Value.ref e := ru
  obtain ⟨z1, l1, vs1, r1, d1⟩ := dk_of I.hok ha
  obtain ⟨z2, l2, vs2, r2, d2⟩ := dk_of I.hok he
  have e1 : kvs.length = vs1.length := Paired.length r1
  have e2 : more.length = vs2.length := Paired.length r2
  refine call_meetsIn F.slot_dict_update d1.typeIs F.entry_dict_update (F.args_dict_update_2 _ _) (meets_dict_update (mixKind X.prog X.w) a e ne l2) ⟨vs1, vs2, d1, d2, by omega, fun h' hd' _ sb => ?_⟩
  have hm := length_mergeK more kvs
  refine ⟨.non, _, d_write (t' := s.toks) I (by rw [ha]; exact True.intro) sb (let ⟨q, _, _, hq, _⟩ := hd'; ⟨q, hq⟩) (dk_new (by omega) l1 (r2.merge r1) hd'), rfl, q⟩
end
/-! ### {**a, **b} -/
section
variable {prog : Program} {w : World} {A : Around} {E : Value → Shared → Prop} {s : Shared}
theorem put_pairs {d : Addr} {kvs : List (Key × Value)} {k : Key} {key v : Value} {Q : Unit → Shared → Prop} (hkey : (mixKind prog w).is k key = true) (hm : s.heap.DictOf (mixKind prog w) d kvs)
    (hQ : ∀ h', h'.DictOf (mixKind prog w) d (stored kvs k v) → Heap.SameBut d s.heap h' → Q () { s with heap := h' }) (hsz : kvs.length ≤ sizeLine) :
    wpAny (model prog w) A (dictPut d ((mixKind prog w).hash k) key v) Q E s := by
  obtain ⟨o, es, ep, ho, hc, hd, hk, hp, hn⟩ := hm
  have hes : es.size ≤ sizeLine := by
    have e1 := hp.length
    have e2 : es.toList.length = es.size := by simp
    omega
  unfold dictPut
  refine wpAny_bind (wpAny_dictFind_of hkey ho hd hk ?_)
  have hidx : (es.findIdx? fun e => (mixKind prog w).is k e.key) = kvs.findIdx? fun kv => decide (kv.1 = k) := by
    rw [← hp.findIdx k]; obtain ⟨l⟩ := es; simp
  cases hi : es.findIdx? fun e => (mixKind prog w).is k e.key with
  | some i =>
    refine wpAny_updateDict ho hd (hQ _ ⟨_, _, ep, Heap.get?_update_self _ ho (Obj.isFreed_of_dict (Obj.data_mapDict hd _)), hc.mapDict _, Obj.data_mapDict hd _, hk.modify _ _, ?_, ?_⟩ (Heap.SameBut.update ..))
    · rw [stored, if_pos (any_of_findIdx_some (hidx ▸ hi))]
      have hl : (es.toList.findIdx? fun e => (mixKind prog w).is k e.key) = some i := by rw [← hi]; obtain ⟨l⟩ := es; simp
      have := hp.modify hn hl v
      obtain ⟨l⟩ := es
      simpa using this
    · rw [stored, if_pos (any_of_findIdx_some (hidx ▸ hi)), keys_map_store]; exact hn
  | none =>
    have hnot : k ∉ kvs.map (·.1) := not_mem_of_findIdx_none (hidx ▸ hi)
    have hany : ¬ (kvs.any fun kv => decide (kv.1 = k)) = true := by
      rw [List.any_eq_true]; rintro ⟨kv, hkv, he⟩
      exact hnot (List.mem_map.mpr ⟨kv, hkv, of_decide_eq_true he⟩)
    refine wpAny_updateDictKeys (hz := hes) ho hd (hQ _ ⟨_, _, ep + 1, Heap.get?_update_self _ ho (Obj.isFreed_of_dict (Obj.data_mapDictKeys hd _)),
      hc.mapDictKeys _, Obj.data_mapDictKeys hd _, hk.push hkey _, ?_, ?_⟩ (Heap.SameBut.update ..))
    · rw [stored, if_neg hany]
      have := hp.append hkey ((mixKind prog w).hash k) v
      obtain ⟨l⟩ := es
      simpa using this
    · rw [stored, if_neg hany, List.map_append, List.nodup_append]
      refine ⟨hn, by simp, ?_⟩
      intro a ha b hb
      simp only [List.map_cons, List.map_nil, List.mem_singleton] at hb
      subst hb
      exact fun e => hnot (e ▸ ha)
theorem mix_noref {k : Key} {v : Value} (h : (mixKind prog w).is k v = true) : ∀ a, v ≠ .ref a := fun a e => by
  subst e
  have := (mixKind prog w).byValue k _ h
  exact nomatch (show false = true from this)
theorem merge_map {d m : Addr} {kvs more : List (Key × Value)} {Q : Unit → Shared → Prop} (hdm : d ≠ m) (hmS : (m == sysModules) = false) (hd : s.heap.DictOf (mixKind prog w) d kvs) (ho : s.heap.DictOf (mixKind prog w) m more)
    (hQ : ∀ h', h'.DictOf (mixKind prog w) d (merged kvs more) → Heap.SameBut d s.heap h' → Q () { s with heap := h' }) (hsz : kvs.length + more.length ≤ sizeLine) :
    wpAny (model prog w) A (mergeMapping d (.ref m) false) Q E s := by
  obtain ⟨od, esd, epd, hod, hcd, hdd, hkd, hpd, hnd⟩ := id hd
  obtain ⟨oo, eso, epo, hoo, hco, hdo', hko, hpo, hno⟩ := id ho
  have hlen : more.length = eso.size := by rw [← hpo.length]; simp
  unfold mergeMapping
  refine wpAny_bind (wpAny_isInstance ho.typeIs isSubtype_dict_dict ?_)
  rw [if_pos rfl]
  refine wpAny_bind (wpAny_specialOf ho.typeIs F.slot_dict_iter.lookup ?_)
  simp only [beq_self_eq_true]
  refine wpAny_bind (wpAny_pure ?_)
  dsimp only
  rw [if_neg (by rw [hmS]; exact Bool.false_ne_true)]
  have loop : wpAny (model prog w) A (do
      let l ← dictEntries m
      let epoch ← dictEpoch m
      forIn (List.range l.size) PUnit.unit fun i (_ : PUnit) => (do
          let l' ← dictEntries m
          match l'[i]? with
            | some e => do
              holding [e.key, e.val] (do dictPut d e.hash e.key e.val)
              let ep' ← dictEpoch m
              if (ep' != epoch) = true then do
                  (unsupported "dict.changed-during-merge" : Sem PUnit)
                  pure (ForInStep.yield PUnit.unit)
                else pure (ForInStep.yield PUnit.unit)
            | _ => do
              (unsupported "dict.changed-during-merge" : Sem PUnit)
              pure (ForInStep.yield PUnit.unit) : Sem (ForInStep PUnit))
      pure ()) Q E s := by
    refine wpAny_bind (wpAny_dictEntries hoo hdo' ?_)
    refine wpAny_bind (wpAny_dictEpoch hoo hdo' ?_)
    refine wpAny_bind ?_
    rw [List.range_eq_range']
    refine wpAny_forIn_list _
      (fun rest _ s' => ∃ h' i, s' = { s with heap := h' } ∧ rest = List.range' i (eso.size - i) ∧ i ≤ eso.size ∧ h'.DictOf (mixKind prog w) d (merged kvs (more.take i)) ∧ h'.get? m = some oo ∧ Heap.SameBut d s.heap h')
      _ ?_ ?_ _ _ ⟨s.heap, 0, rfl, by simp, Nat.zero_le _, by simpa [merged] using hd, hoo, Heap.SameBut.refl _ _⟩
    · rintro x rest b s' ⟨h', i, rfl, hr, hi, hd', hoo', hs'⟩
      have hlt : i < eso.size := by
        rcases Nat.lt_or_ge i eso.size with h | h
        · exact h
        · rw [Nat.sub_eq_zero_of_le h] at hr; simp at hr
      obtain ⟨rfl, hrest⟩ : x = i ∧ rest = List.range' (i + 1) (eso.size - (i + 1)) := by
        have e : eso.size - i = (eso.size - (i + 1)) + 1 := by omega
        rw [e, List.range'_succ] at hr
        injection hr with h1 h2
        exact ⟨h1, h2⟩
      refine wpAny_bind (wpAny_dictEntries hoo' hdo' ?_)
      rw [Array.getElem?_eq_getElem hlt]
      obtain ⟨kv, hkv⟩ : ∃ kv, more[x]? = some kv := ⟨more[x]'(by rw [hlen]; exact hlt), List.getElem?_eq_getElem _⟩
      obtain ⟨k, v⟩ := kv
      obtain ⟨hkey, hval⟩ := hpo.get? (e := eso[x]) (by simp [hlt]) hkv
      obtain ⟨k', hkey', hhash⟩ := hko eso[x] (Array.getElem_mem hlt)
      obtain rfl : k' = k := (mixKind prog w).inj _ _ _ hkey' hkey
      show wpAny _ _ (holding [eso[x].key, eso[x].val] (do dictPut d eso[x].hash eso[x].key eso[x].val) >>= _) _ _ _
      rw [hhash, hval]
      have hmx : (merged kvs (more.take x)).length ≤ sizeLine := by
        have e1 := merged_length_le kvs (more.take x)
        have e2 : (more.take x).length ≤ more.length := by rw [List.length_take]; omega
        omega
      refine wpAny_bind (wpAny_holding (put_pairs (hsz := hmx) hkey hd' fun h'' hd'' hs'' => ?_))
      have hoo'' : h''.get? m = some oo := (hs''.2 m (Ne.symm hdm)).trans hoo'
      refine wpAny_bind (wpAny_dictEpoch hoo'' hdo' ?_)
      rw [if_neg (by simp)]
      exact wpAny_pure ⟨h'', x + 1, rfl, hrest, hlt, by rw [merged_take_succ kvs more x (k', v) hkv]; exact hd'', hoo'', hs'.trans hs''⟩
    · rintro b s' ⟨h', i, rfl, hr, hi, hd', hoo', hs'⟩
      have hin : i = eso.size := by
        rcases Nat.lt_or_ge i eso.size with h | h
        · have e : eso.size - i = (eso.size - (i + 1)) + 1 := by omega
          rw [e, List.range'_succ] at hr; exact nomatch hr
        · exact Nat.le_antisymm hi h
      refine wpAny_pure (hQ h' ?_ hs')
      rw [hin, ← hlen, List.take_length] at hd'; exact hd'
  refine wpAny_bind (wpAny_dictEntries hod hdd ?_)
  split
  · refine wpAny_bind (wpAny_dictEntries hoo hdo' ?_)
    refine wpAny_bind ?_
    rw [← Array.forIn_toList]
    refine wpAny_forIn_list _ (fun rest _ s' => s' = s ∧ ∀ e ∈ rest, e ∈ eso.toList) _ ?_ ?_ _ _ ⟨rfl, fun e he => he⟩
    · rintro e rest b s' ⟨rfl, hm⟩
      have he := hm e List.mem_cons_self
      obtain ⟨k', hkey', _⟩ := hko e (Array.mem_toList_iff.mp he)
      have nr := mix_noref hkey'
      split
      · next a q => exact absurd q (nr a)
      · exact wpAny_pure ⟨rfl, fun e2 h2 => hm e2 (List.mem_cons_of_mem _ h2)⟩
    · rintro b s' ⟨rfl, _⟩
      exact loop
  · exact loop
end
section
variable {X : Cx} {k : Nat}
/-- {**a, **b} of dicts with keys ints and texts -/
def tSpread (ta tb : TE) : TE := fun σ H Q => ∀ p, H p = none → ta σ (upd H p (.dK [])) fun x H1 => ∃ a kvs, x = V.ref a ∧ a ≠ p ∧ H1 a = some (.dK kvs) ∧ H1 p = some (.dK []) ∧ kvs.length ≤ sizeLine ∧
  tb σ (upd H1 p (.dK (mergeK [] kvs))) fun y H2 => ∃ b more, y = V.ref b ∧ b ≠ p ∧ H2 b = some (.dK more) ∧ H2 p = some (.dK (mergeK [] kvs)) ∧ (mergeK [] kvs).length + more.length ≤ sizeLine ∧ Q (.ref p) (upd H2 p (.dK (mergeK (mergeK [] kvs) more)))
theorem merge_step {pins : List (Addr × Obj)} {σ : L2.St} {H : Hp} {s : Shared} {E : Value → Shared → Prop} {p a : Addr} {kvs more : List (Key × V)} {Q : Unit → Shared → Prop} (I : Inv X pins σ H s) (hp : H p = some (.dK kvs)) (ha : H a = some (.dK more)) (ne : a ≠ p) (hz : kvs.length + more.length ≤ sizeLine)
    (q : ∀ s', Inv X pins σ (upd H p (.dK (mergeK kvs more))) s' → Q () s') : wpAny (model X.prog X.w) X.A (mergeMapping p (.ref a) false) Q E s := by
  obtain ⟨z1, l1, vs1, r1, d1⟩ := dk_of I.hok hp
  obtain ⟨z2, l2, vs2, r2, d2⟩ := dk_of I.hok ha
  have e1 : kvs.length = vs1.length := Paired.length r1
  have e2 : more.length = vs2.length := Paired.length r2
  refine merge_map (prog := X.prog) (w := X.w) (Ne.symm ne) l2 d1 d2 (fun h' hd' sb => q _ ?_) (by omega)
  have hm := length_mergeK more kvs
  exact d_write (t' := s.toks) I (by rw [hp]; exact True.intro) sb (let ⟨q, _, _, hq, _⟩ := hd'; ⟨q, hq⟩) (dk_new (by omega) l1 (r2.merge r1) hd')
theorem pe_spread {a b : Expr} {ta tb : TE} {pos : Pos} (ha : PE X a ta) (hb : PE X b tb) : PE X (.Dict [none, none] [a, b] pos) (tSpread ta tb) := by
  refine ⟨fun pins s σ H Q I h => ?_⟩
  have hn := I.hok.fresh (Nat.le_refl s.heap.objs.size)
  have I1 := I.laid (a := s.heap.objs.size) (o := .dK []) (h' := s.heap.push { cls := .type "dict", data := .dict #[] }) (t' := s.toks) (fun _ _ q => Heap.get?_push_of_some _ q) (Nat.le_refl _) (dk_empty s.heap I.big)
  rw [arm_eval_Dict]
  have hshape : (evalEachOpt [none, none] X.env).zip ((evalEach [a, b] X.env).map fun v => do let x ← v; standAt pos; pure x) = ([(none, (do let x ← eval a X.env; standAt pos; pure x)), (none, (do let x ← eval b X.env; standAt pos; pure x))] : List (Option (Sem Value) × Sem Value)) := rfl
  rw [hshape]
  refine wpAny_bind (wpAny_standAt ?_)
  unfold dictDisplay
  simp only [List.forIn_cons, List.forIn_nil, List.isEmpty_nil, if_true, bind_assoc, pure_bind]
  refine wpAny_bind (wpAny_alloc ?_)
  refine wpAny_bind (wpAny_holding ?_)
  refine wpAny_bind (thn (ha.run pins _ σ _ _ I1 (h _ hn)) fun u s2 ⟨x, H2, I2, r2, a1, kvs, ex, ne, hA, hP, hz, q2⟩ => ?_)
  subst ex
  obtain rfl : u = Value.ref a1 := r2
  refine wpAny_bind (wpAny_standAt (wpAny_pure ?_))
  refine wpAny_bind (wpAny_onRaise (wpAny_tryCatch (wpAny_onRaise (wpAny_holding (merge_step I2 hP hA ne (by rw [List.length_nil]; omega) fun s3 I3 => ?_)))))
  refine wpAny_bind (wpAny_holding (wpAny_bind (thn (hb.run pins s3 σ _ _ I3 q2) fun u4 s4 ⟨y, H4, I4, r4, b1, more, ey, ne4, hB, hP4, hz4, q4⟩ => ?_)))
  subst ey
  obtain rfl : u4 = Value.ref b1 := r4
  refine wpAny_bind (wpAny_standAt (wpAny_pure ?_))
  refine wpAny_bind (wpAny_onRaise (wpAny_tryCatch (wpAny_onRaise (wpAny_holding (merge_step I4 hP4 hB ne4 hz4 fun s5 I5 => ?_)))))
  exact wpAny_pure ⟨.ref s.heap.objs.size, _, I5, rfl, q4⟩
/-! ### sorted(a list of tuples of ints) -/
theorem readsAll_ints {h : Heap} : ∀ {sp : List Int} {us : List Value}, Vals (sp.map V.int) us → ∃ as, ReadsAll h us (sp.map .int) as
  | [], _, .nil => ⟨_, .nil⟩
  | i :: sp, _, .cons r rs => by
    obtain ⟨t, rfl⟩ := r
    obtain ⟨as, q⟩ := readsAll_ints (h := h) rs
    exact ⟨_, .cons (.int _ _) q⟩
theorem reads_spot {P : Program} {w : World} {H : Hp} {h : Heap} (ok : HOk P w H h) {a : Addr} {sp : List Int} (e : SpotAt H a sp) : ∃ as, Reads h (.ref a) (.tuple (sp.map .int)) as := by
  obtain ⟨_, its, rv, o, h1, h2, n, h3⟩ := (show ObjOk P w H h a (.tup (sp.map V.int)) from ok a _ e)
  obtain ⟨as, q⟩ := readsAll_ints (h := h) rv
  exact ⟨as, .tuple h1 h2 h3 (by simpa using q)⟩
theorem alike_ints : ∀ a b : List Int, PySem.W.alikeAll (a.map PyData.int) (b.map PyData.int) = true
  | [], _ => by simp [PySem.W.alikeAll]
  | _ :: _, [] => by simp [PySem.W.alikeAll]
  | x :: a, y :: b => by
    rw [List.map_cons, List.map_cons, PySem.W.alikeAll]
    rw [alike_ints a b]
    rfl
theorem depth_ints : ∀ sp : List Int, PyData.depthAll (sp.map .int) ≤ 1
  | [] => by simp [PyData.depthAll]
  | i :: sp => by
    have q := depth_ints sp
    simp only [List.map_cons, PyData.depthAll, PyData.depth]
    omega
theorem each_refs {α : Type} : ∀ bs : List (Addr × α), PySem.W.EachIs (fun v (b : Addr × α) => v = Value.ref b.1) (bs.map fun b => Value.ref b.1) bs
  | [] => .nil
  | b :: bs => .cons rfl (each_refs bs)
theorem each_eq {α : Type} : ∀ {out : List Value} {bs : List (Addr × α)}, PySem.W.EachIs (fun v (b : Addr × α) => v = Value.ref b.1) out bs → out = bs.map fun b => Value.ref b.1
  | _, _, .nil => rfl
  | _, _, .cons h t => by rw [h, each_eq t]; rfl
theorem vals_addrs : ∀ {as : List Addr} {us : List Value}, Vals (as.map V.ref) us → us = as.map Value.ref
  | [], _, .nil => rfl
  | a :: as, _, .cons r rs => by
    rw [show _ = Value.ref a from r, vals_addrs rs]
    rfl
/-- sorted(a list of tuples): the same tuples -/
def rSortedX (K : PySem.W.Frag) : List V → Hp → VK → Prop := fun xs H Q => ∃ (l : Addr) (bs : List (Addr × List Int)), xs = [V.ref l] ∧ SqL K H l (bs.map fun b => V.ref b.1) ∧ (∀ b ∈ bs, SpotAt H b.1 b.2 ∧ b.2 ≠ []) ∧
  ∀ p (cs : List (Addr × List Int)), cs.Perm bs → H p = none → Q (.ref p) (upd H p (.lst (cs.map fun b => V.ref b.1)))
theorem cr_sortedX (hr : Room k X.A) : CallR X (.builtin "sorted") (rSortedX X.K) := by
  intro pins s σ H xs us Q I r h
  obtain ⟨l, bs, rfl, hl, hb, q⟩ := h
  rw [Vals.ref1 r]
  obtain ⟨its, rv, pl, hz⟩ := I.list hl
  have ei : its = bs.map fun b => Value.ref b.1 := by
    have e0 : (bs.map fun b => V.ref b.1) = (bs.map (·.1)).map V.ref := by rw [List.map_map]; rfl
    rw [e0] at rv
    rw [vals_addrs rv, List.map_map]
    rfl
  subst ei
  have hz' : bs.length ≤ sizeLine := by
    have z := hz
    simp only [List.length_map] at z
    exact z
  have er : ∀ {cs : List (Addr × List Int)}, (∀ b ∈ cs, b ∈ bs) → PySem.W.EachIs (fun v (b : Addr × List Int) => ∃ as, Reads s.heap v (.tuple (b.2.map .int)) as) (cs.map fun b => Value.ref b.1) cs := by
    intro cs
    induction cs with
    | nil => exact fun _ => .nil
    | cons c cs ih => exact fun hc => .cons (reads_spot I.hok (hb c (hc c List.mem_cons_self)).1) (ih fun b h => hc b (List.mem_cons_of_mem _ h))
  refine PySem.W.sorted_data (bs := bs) (enc := fun b : Addr × List Int => PyData.tuple (b.2.map .int)) pl.isList (each_refs bs) (er fun b h => h)
    (PySem.W.AllAlike.of fun b b' => by show PySem.W.alike (.tuple _) (.tuple _) = true; unfold PySem.W.alike; exact alike_ints _ _) (.inl fun d hd => ?_) hz' (fun b _ => ?_) fun out lo eo => ?_
  · obtain ⟨b, hbm, rfl⟩ := List.mem_map.mp hd
    have ne := (hb b hbm).2
    cases e : b.2 with
    | nil => exact absurd e ne
    | cons x xs => exact ⟨_, _, rfl⟩
  · have d := depth_ints b.2
    have u := hr.units
    show X.A.units + 2 + (PyData.depthAll (b.2.map .int) + 1) < cLine
    omega
  · have eo2 := each_eq eo
    have pm : (bs.mergeSort (PySem.W.dataLe false fun b : Addr × List Int => PyData.tuple (b.2.map .int))).Perm bs := List.mergeSort_perm _ _
    generalize bs.mergeSort (PySem.W.dataLe false fun b : Addr × List Int => PyData.tuple (b.2.map .int)) = cs at eo2 pm
    subst eo2
    obtain ⟨c, hc⟩ := sortedAll_at s.heap (bs.map fun b => Value.ref b.1) (cs.map fun b => Value.ref b.1).toArray
    have hn := I.hok.fresh (Nat.le_succ s.heap.objs.size)
    refine ⟨.ref (s.heap.objs.size + 1), upd H (s.heap.objs.size + 1) (.lst (cs.map fun b => V.ref b.1)), I.laid (t' := s.toks) (fun _ _ => sortedAll_old) (Nat.le_succ _) (show ObjOk X.prog X.w _ _ _ (.lst (cs.map fun b => V.ref b.1)) from ⟨?_, _, c, ?_, hc⟩), rfl, q _ cs pm hn⟩
    · rw [List.length_map, pm.length_eq]
      exact hz'
    · have e0 : (cs.map fun b => V.ref b.1) = (cs.map (·.1)).map V.ref := by rw [List.map_map]; rfl
      have e1 : (cs.map fun b => Value.ref b.1) = (cs.map (·.1)).map Value.ref := by rw [List.map_map]; rfl
      rw [e0, e1]
      exact vals_refs _
/-! ### max(ints, default=d) -/
def rMaxD (K : PySem.W.Frag) : List V → List V → Hp → VK → Prop := fun vs zs H Q => ∃ (a : Addr) (ns : List Int) (d : Int), vs = [V.ref a] ∧ zs = [V.int d] ∧ SqL K H a (ns.map V.int) ∧
  (ns = [] → Q (.int d) H) ∧ ∀ m, m ∈ ns → Q (.int m) H
theorem cr_maxD (hc : X.calm = true) (hr : Room k X.A) : CallRK X (.builtin "max") [Str.ofString "default"] (rMaxD X.K) := by
  intro pins s σ H xs zs us ws Q I r rz h
  obtain ⟨a, ns, d, rfl, rfl, hs, q0, q1⟩ := h
  rw [Vals.ref1 r]
  obtain ⟨u, rfl, ru⟩ := vals1 rz
  obtain ⟨its, rv, pl, hz⟩ := I.list hs
  obtain ⟨as, rd⟩ := readsAll_ints (h := s.heap) rv
  have u1 := hr.units
  have dp := depth_ints ns
  refine PySem.W.max_list_default (d := u) (I.ok.hd hc) pl.isList (by simpa using rd) ⟨fun x hx y hy => ?_, fun x hx e => ?_⟩ (by omega) (fun e h' tk kp => ⟨.int d, H, I.kept kp, ru, q0 (by simpa using e)⟩) fun y ys i v h' tk bs e hv hrd kp => ?_
  · obtain ⟨i, _, rfl⟩ := List.mem_map.mp hx
    obtain ⟨j, _, rfl⟩ := List.mem_map.mp hy
    rfl
  · obtain ⟨i, _, rfl⟩ := List.mem_map.mp hx
    exact nomatch e
  · have hv' : its[i]? = some v := by simpa using hv
    have hlt : i < ns.length := by
      have l := rv.length
      rw [List.length_map] at l
      have := (List.getElem?_eq_some_iff.mp hv').1
      omega
    obtain ⟨u2, hu2, r2⟩ := L2.paired_get rv (show (ns.map V.int)[i]? = some (V.int ns[i]) by rw [List.getElem?_map, List.getElem?_eq_getElem hlt]; rfl)
    rw [hv'] at hu2
    obtain rfl := Option.some.inj hu2
    exact ⟨.int ns[i], H, I.kept kp, r2, q1 _ (List.getElem_mem hlt)⟩
end
end Kn

end
section
set_option maxHeartbeats 4000000
/-! is_step, checked_steps, checked_faults, leaving_table, reached_states. -/
namespace Kn
open PySem PySem.Spec PyProof.Rows L2
theorem hu65 {A : Around} {k : Nat} (hr : Room k A) : A.units + 65 < cLine := by
  have := hr.un
  omega
def rowD (r : Row) : PyData := .tuple [.int r.1, .str r.2.1, .int r.2.2]
theorem dp_row {K : PySem.W.Frag} {H : Hp} {a : Addr} {r : Row} (h : RowAt H a r) : Dp K H (.ref a) (rowD r) := .tup (SqT.of h) (.cons (.int _) (.cons (.str _) (.cons (.int _) .nil)))
theorem dp_rows {K : PySem.W.Frag} {H : Hp} : ∀ {ts : List Addr} {rows : List Row}, Paired (RowAt H) ts rows → DpAll K H (ts.map V.ref) (rows.map rowD)
  | _, _, .nil => .nil
  | _, _, .cons h t => .cons (dp_row h) (dp_rows t)
theorem strOk_name {z : Str} (h : NameOk z) : PyData.strOk z = true := by
  have q : ∀ c ∈ ("abcdefghijklmnopqrstuvwxyz" : Str).cps.toList, c < 0x110000 := by decide +kernel
  unfold PyData.strOk
  rw [Array.all_eq_true]
  intro i hi
  exact decide_eq_true (q _ (h.2.2 _ (by rw [Array.mem_toList_iff]; exact Array.getElem_mem hi)))
theorem canLay_row {r : Row} (h : NameOk r.2.1) : (rowD r).canLay0 = true := by
  show (true && (PyData.strOk r.2.1 && (true && true))) = true
  rw [strOk_name h]
  rfl
theorem canLay_rows : ∀ rows : List Row, (∀ r ∈ rows, NameOk r.2.1) → PyData.canLayAll0 (rows.map rowD) = true
  | [], _ => rfl
  | r :: rows, h => by
    rw [List.map_cons, PyData.canLayAll0, canLay_rows rows fun r2 h2 => h r2 (List.mem_cons_of_mem _ h2), canLay_row (h r List.mem_cons_self)]
    rfl
theorem depth_rows : ∀ rows : List Row, PyData.depthAll (rows.map rowD) ≤ 3
  | [] => by simp [PyData.depthAll]
  | r :: rows => by
    have q := depth_rows rows
    simp only [List.map_cons, PyData.depthAll, rowD, PyData.depth] at q ⊢
    omega
theorem shaped_rows {rows : List Row} (h : ∀ r ∈ rows, NameOk r.2.1) : SeqAt.shaped (.list (rows.map rowD)) = true := by
  have d := depth_rows rows
  unfold SeqAt.shaped
  rw [Bool.and_eq_true]
  refine ⟨?_, decide_eq_true ?_⟩
  · show PyData.canLayAll0 _ = true
    exact canLay_rows rows h
  · show PyData.depthAll _ + 1 ≤ 64
    omega
theorem shaped_row {r : Row} (h : NameOk r.2.1) : SeqAt.shaped (rowD r) = true := by
  unfold SeqAt.shaped
  rw [canLay_row h]
  exact decide_eq_true (show PyData.depthAll [.int r.1, .str r.2.1, .int r.2.2] + 1 ≤ 64 by simp [PyData.depthAll, PyData.depth])
theorem Paired_take {α β : Type} {F : α → β → Prop} : ∀ {a : List α} {b : List β} (i : Nat), Paired F a b → Paired F (a.take i) (b.take i)
  | _, _, 0, _ => by rw [List.take_zero, List.take_zero]; exact .nil
  | _, _, i + 1, .nil => by rw [List.take_nil, List.take_nil]; exact .nil
  | _, _, i + 1, .cons h t => by rw [List.take_succ_cons, List.take_succ_cons]; exact .cons h (Paired_take i t)
theorem dget_k {H : Hp} {a : Addr} {kvs : List (Key × V)} {k : Key} {v : V} (e : H a = some (.dK kvs)) (h : valV kvs k = some v) : DGet H a (kV k) (some v) := h ▸ DGet.k e
theorem valV_put_same {kvs : List (Key × V)} {k : Key} {v : V} : valV (putK kvs k v) k = some v := by rw [valV_put, if_pos rfl]
theorem eqv_row (a b : Row) : PyData.eqv (rowD a) (rowD b) = decide (a = b) := by
  obtain ⟨a1, a2, a3⟩ := a
  obtain ⟨b1, b2, b3⟩ := b
  show (a1 == b1 && (a2 == b2 && (a3 == b3 && true))) = _
  rw [Bool.eq_iff_iff]
  simp
theorem any_row {rows : List Row} {r : Row} : ((rows.map rowD).any fun z => PyData.eqv z (rowD r)) = decide (r ∈ rows) := by
  rw [Bool.eq_iff_iff, List.any_eq_true, decide_eq_true_eq]
  constructor
  · rintro ⟨d, hd, e⟩
    obtain ⟨r2, h2, rfl⟩ := List.mem_map.mp hd
    rw [eqv_row, decide_eq_true_eq] at e
    exact e ▸ h2
  · intro h
    exact ⟨rowD r, List.mem_map.mpr ⟨r, h, rfl⟩, by rw [eqv_row]; exact decide_eq_true rfl⟩
/-- how many rows leave s -/
def cnt (rows : List Row) (s : Int) : Nat := (rows.filter fun r => decide (r.1 = s)).length
def CntD (kvs : List (Key × V)) (rows : List Row) : Prop := ∀ s : Int, (valV kvs (.inl s)).getD (.int 0) = natV (cnt rows s)
theorem cntD_nil : CntD [] [] := fun _ => rfl
theorem cnt_snoc {rows : List Row} {r : Row} {s : Int} : cnt (rows ++ [r]) s = if r.1 = s then cnt rows s + 1 else cnt rows s := by
  unfold cnt
  rw [List.filter_append, List.length_append]
  by_cases e : r.1 = s
  · rw [if_pos e, List.filter_cons, decide_eq_true e]
    rfl
  · rw [if_neg e, List.filter_cons, decide_eq_false e]
    rfl
theorem CntD.snoc {kvs : List (Key × V)} {rows : List Row} {r : Row} (h : CntD kvs rows) : CntD (putK kvs (.inl r.1) (.int ((cnt rows r.1 : Nat) + 1))) (rows ++ [r]) := fun s => by
  rw [valV_put, cnt_snoc]
  by_cases e : s = r.1
  · rw [if_pos (congrArg Sum.inl e), if_pos e.symm, e]
    rfl
  · rw [if_neg (fun z => e (Sum.inl.inj z)), if_neg (Ne.symm e)]
    exact h s
theorem cnt_take {rows : List Row} {i : Nat} {s : Int} : cnt (rows.take i) s ≤ cnt rows s := by
  unfold cnt
  exact ((List.take_sublist i rows).filter _).length_le
theorem take_snoc {α : Type} {l : List α} {i : Nat} {x : α} (h : l[i]? = some x) : l.take (i + 1) = l.take i ++ [x] := by
  rw [List.take_succ, h]
  rfl
theorem map_ref {ts : List Addr} {i : Nat} {x : V} (h : (ts.map V.ref)[i]? = some x) : ∃ t, ts[i]? = some t ∧ x = .ref t := by
  rw [List.getElem?_map] at h
  cases e : ts[i]? with
  | none => rw [e] at h; exact nomatch (show (none : Option V) = some x from h)
  | some t =>
    rw [e] at h
    exact ⟨t, rfl, (Option.some.inj (show some (V.ref t) = some x from h)).symm⟩
structure RowsOk (rows : List Row) : Prop where
  ne : rows ≠ []
  le : rows.length ≤ 80
  st : ∀ r ∈ rows, 0 ≤ r.1 ∧ r.1 ≤ 99 ∧ 0 ≤ r.2.2 ∧ r.2.2 ≤ 99 ∧ NameOk r.2.1
  nd : rows.Nodup
  few : ∀ s, cnt rows s ≤ 8
/-- a list of rows -/
def RowsAt (H : Hp) (l : Addr) (rows : List Row) : Prop := ∃ ts : List Addr, H l = some (.lst (ts.map V.ref)) ∧ Paired (RowAt H) ts rows
theorem RowsAt.same {H H' : Hp} {l : Addr} {rows : List Row} (s : Same H H') (h : RowsAt H l rows) : RowsAt H' l rows := let ⟨ts, a, b⟩ := h; ⟨ts, s _ _ a, rows_tups (.of s) b⟩
theorem RowsAt.at {H : Hp} {l : Addr} {rows : List Row} {ts : List Addr} (b : Paired (RowAt H) ts rows) {i : Nat} {t : Addr} (e : ts[i]? = some t) : ∃ r, rows[i]? = some r ∧ RowAt H t r := L2.paired_get b e
theorem RowsAt.at' {H : Hp} {l : Addr} {rows : List Row} {ts : List Addr} (b : Paired (RowAt H) ts rows) {i : Nat} {r : Row} (e : rows[i]? = some r) : ∃ t, ts[i]? = some t ∧ RowAt H t r := by
  have hl : ts.length = rows.length := Paired.length b
  have hi : i < ts.length := by
    rw [hl]
    exact (List.getElem?_eq_some_iff.mp e).1
  obtain ⟨r2, h2, hr⟩ := L2.paired_get b (List.getElem?_eq_getElem hi)
  rw [e] at h2
  cases h2
  exact ⟨_, List.getElem?_eq_getElem hi, hr⟩

/-- all but d stays -/
def SameX (d : Addr) (H H' : Hp) : Prop := ∀ b x, H b = some x → b ≠ d → H' b = some x
theorem SameX.mut {d : Addr} {H H' : Hp} {p : Addr} {o : HO} (s : SameX d H H') (h : H p = none) : SameX d H (upd H' p o) := fun b x e n => by
  rw [upd_ne (ne_of_none e h)]
  exact s b x e n
theorem SameX.add {d : Addr} {H H' : Hp} {p : Addr} {o : HO} (s : SameX d H H') (h : H' p = none) : SameX d H (upd H' p o) := fun b x e n => by
  have q := s b x e n
  rw [upd_ne (ne_of_none q h)]
  exact q
theorem SameX.back {d : Addr} {H H' : Hp} {u : HO} (s : SameX d H H') (h : H d = some u) : Same H (upd H' d u) := fun b x e => by
  by_cases n : b = d
  · subst n
    rw [upd_same, ← e, h]
  · rw [upd_ne n]
    exact s b x e n
theorem SameX.lock {d : Addr} {H H' : Hp} {u : HO} (s : Same H H') : SameX d H (upd H' d u) := fun b x e n => by
  rw [upd_ne n]
  exact s b x e
theorem cc_it {J : It} {n : Nat} {G : Hp → Prop} {Y : Nat → Hp → V → Hp → Prop} (w : Walk J n G Y) {g : TG} {tt : TT} {tb : TB} {U : Addr → HO} {vs : List Nat} {σ : L2.St} {H1 : Hp} {D : Addr} {Qd : Hp → Prop} (Pv : Nat → Hp → Prop) (h0 : Pv 0 (upd H1 D (U D))) (hG : ∀ i H, i ≤ n → Pv i H → G H)
    (hs : ∀ i x H H', i < n → Pv i H → Y i H x H' → g x (wipe σ vs) H' fun σ2 H2 => wipe σ2 vs = wipe σ vs ∧ tt σ2 H2 fun b H3 => if b = true then tb D σ2 H3 (Pv (i + 1)) else Pv (i + 1) H3) (hd : ∀ H, Pv n H → Qd H) :
    ∃ W : Nat → Nat → Hp → Prop, (∃ m, W 0 m (upd H1 D (U D))) ∧ ∀ i m H, W i m H →
      (J.stop i H ∧ Qd H) ∨ (J.go i H ∧ ∃ Nx : Hp → Prop, (∀ H', Nx H' → ∃ m', m' < m ∧ W (i + 1) m' H') ∧ ∀ x H', J.yld i H x H' → g x (wipe σ vs) H' fun σ2 H2 => wipe σ2 vs = wipe σ vs ∧ tt σ2 H2 fun b H3 => if b = true then tb D σ2 H3 Nx else Nx H3) := by
  refine ⟨fun i m H => m = n - i ∧ i ≤ n ∧ Pv i H, ⟨n, by simp, Nat.zero_le _, h0⟩, ?_⟩
  rintro i m H ⟨rfl, hi, p⟩
  have q := hG i H hi p
  by_cases hlt : i < n
  · exact .inr ⟨w.goes i H hlt q, Pv (i + 1), fun H' p' => ⟨n - (i + 1), by omega, rfl, hlt, p'⟩, fun x H' y => hs i x H H' hlt p (w.yields i H x H' hlt q y)⟩
  · have e : i = n := by omega
    subst e
    exact .inl ⟨w.stops H q, hd H p⟩

theorem sc_IsStep : FnScope ["step"] ["step"] (defScope sIsStep) := ⟨rfl, rfl, rfl, by decide +kernel, rfl, by decide +kernel, by decide +kernel⟩
theorem sc_CheckedSteps : FnScope ["steps", "rows", "counts", "at", "step"] ["steps"] (defScope sCheckedSteps) := ⟨rfl, rfl, rfl, by decide +kernel, rfl, by decide +kernel, by decide +kernel⟩
theorem sc_CheckedFaults : FnScope ["faults", "words", "names", "word", "name"] ["faults", "words"] (defScope sCheckedFaults) := ⟨rfl, rfl, rfl, by decide +kernel, rfl, by decide +kernel, by decide +kernel⟩
theorem sc_LeavingTable : FnScope ["rows", "table", "number", "row", "known"] ["rows"] (defScope sLeavingTable) := ⟨rfl, rfl, rfl, by decide +kernel, rfl, by decide +kernel, by decide +kernel⟩
theorem sc_ReachedStates : FnScope ["start", "rows", "leaving", "met", "waiting", "state", "number", "target"] ["start", "rows", "leaving"] (defScope sReachedStates) := ⟨rfl, rfl, rfl, by decide +kernel, rfl, by decide +kernel, by decide +kernel⟩
section
variable {P : Program} {w : World} {K : PySem.W.Frag} {mg : Str → Option Value} {base : Heap}
def spIsStep : Sp := fun vs H Q _ => ∃ a r, vs = [.ref a] ∧ RowAt H a r ∧ 0 ≤ r.1 ∧ r.1 ≤ 99 ∧ 0 ≤ r.2.2 ∧ r.2.2 ≤ 99 ∧ NameOk r.2.1 ∧ Q (.bl true) H
theorem ok_IsStep {f : Addr} {fd : FuncData} (F : FnP K "is_step" "is_step" sIsStep [] f fd) (T : Tx K mg) (C_is_state : Cal P w K mg base 3 "is_state" ["value"] spIsState) (C_is_name : Cal P w K mg base 3 "is_name" ["value"] spIsName) : FnOk P w K mg base CX0 4 f fd ["step"] spIsStep := by
  refine mk_fn F sc_IsStep (fun vs H Q E h => ?_) (fun cdv A outer s H vs Q E hr h => ?_)
  · obtain ⟨a, r, rfl, _⟩ := h
    rfl
  · obtain ⟨a, r, rfl, hR, h0, h1, h2, h3, h4, q⟩ := h
    refine ⟨_, (pss_cons (ps_if (PW.pt (pw_or (pt_not (pt_val (pe_callB call_isi (by rfl) T.isinstance (by decide +kernel) (pa_cons (pv 0) (pa_cons (pty "tuple" T.tuple) pa_nil))))) (pw_or1 (pt_cmpR op_ne (pe_callB call_len_seq (by rfl) T.len PySem.boot_len (pa_cons (pv 0) pa_nil)) pe_int (nomark _))))) (pss_one (ps_ret pe_bl)) pss_nil)
        (pss_one (ps_ret (pe_and (pc C_is_state hr (pa_cons (pe_ix ix_tup (pv 0) pe_int (fun _ _ => rfl)) pa_nil)) (pe_and (pc C_is_name hr (pa_cons (pe_ix ix_tup (pv 0) pe_int (fun _ _ => rfl)) pa_nil)) (pe_one (pc C_is_state hr (pa_cons (pe_ix ix_tup (pv 0) pe_int (fun _ _ => rfl)) pa_nil)))))))), ?_⟩
    refine ⟨_, rfl, _, _, _, _, true, rfl, .ty _, .base (.tup hR), kit_ty (by decide +kernel), true, rfl, iteF ?_⟩
    refine ⟨_, rfl, a, _, rfl, .inr (SqT.of hR), rfl, _, rfl, ?_⟩
    refine iteF ?_
    refine ⟨_, rfl, a, _, _, _, rfl, rfl, SqT.of hR, atI_nat (j := 0) rfl, r.1, rfl, h0, h1, true, rfl, iteT ?_⟩
    refine ⟨_, rfl, a, _, _, _, rfl, rfl, SqT.of hR, atI_nat (j := 1) rfl, r.2.1, rfl, h4, true, rfl, iteT ?_⟩
    exact ⟨_, rfl, a, _, _, _, rfl, rfl, SqT.of hR, atI_nat (j := 2) rfl, r.2.2, rfl, h2, h3, q⟩
def spCheckedSteps : Sp := fun vs H Q _ => ∃ a rows ts, vs = [.ref a] ∧ H a = some (.lst (ts.map V.ref)) ∧ Paired (RowAt H) ts rows ∧ RowsOk rows ∧ ∀ H' p, Same H H' → H p = none → H' p = some (.lst (ts.map V.ref)) → Q (.ref p) H'
theorem ok_CheckedSteps {f : Addr} {fd : FuncData} (F : FnP K "checked_steps" "checked_steps" sCheckedSteps [] f fd) (T : Tx K mg) (C_is_row : Cal P w K mg base 4 "is_row" ["value"] (spIsRow K)) (C_is_step : Cal P w K mg base 4 "is_step" ["step"] spIsStep) :
    FnOk P w K mg base CX0 5 f fd ["steps"] spCheckedSteps := by
  refine mk_fn F sc_CheckedSteps (fun vs H Q E h => ?_) (fun cdv A outer s H vs Q E hr h => ?_)
  · obtain ⟨a, rows, ts, rfl, _⟩ := h
    rfl
  · obtain ⟨a, rows, ts, rfl, ha, hR, OK, q⟩ := h
    have hu := hu_of hr
    have hl : ts.length = rows.length := Paired.length hR
    have sl : (80 : Nat) < sizeLine := by decide
    refine ⟨_, (pss_cons (ps_if (PW.pt (pw_or (pt_not (pt_val (pc C_is_row hr (pa_cons (pv 0) pa_nil)))) (pw_or1 (pt_not (pt_chain op_le op_le pe_int (pe_callB call_len_seq (by rfl) T.len PySem.boot_len (pa_cons (pv 0) pa_nil)) (pgi T.MOST_STEPS)))))) pss_never pss_nil)
        (pss_cons (ps_set (i := 1) sc_CheckedSteps.nd rfl (Or.inl rfl) (pe_lst pa_nil))
        (pss_cons (ps_set (i := 2) sc_CheckedSteps.nd rfl (Or.inl rfl) pe_dnewK)
        (pss_cons (ps_for PassesOwn.never rfl (pi_enum rfl T.enumerate (pa_cons (pv 0) pa_nil)) (pg_tup (n := 2) rfl (pgs_cons (pg_name (i := 3) sc_CheckedSteps.nd rfl (Or.inl rfl)) (pgs_cons (pg_name (i := 4) sc_CheckedSteps.nd rfl (Or.inl rfl)) pgs_nil)))
        (pss_cons (ps_if (PW.pt (pw_or (pt_not (pt_val (pc C_is_step hr (pa_cons (pv 4) pa_nil)))) (pw_or1 (pt_cmpR (op_inD (hu65 hr)) (pv 4) (pv 1) rfl)))) pss_never pss_nil)
        (pss_cons (ps_dput hu (pv 2) (pe_ix ix_tup (pv 4) pe_int (fun _ _ => rfl)) (pe_op op_add (pe_dget2 hu (pv 2) (pe_ix ix_tup (pv 4) pe_int (fun _ _ => rfl)) pe_int ⟨rfl, rfl, rfl, rfl⟩) pe_int) rfl)
        (pss_cons (ps_if (pt_cmpR op_gt (pe_dget hu (pv 2) (pe_ix ix_tup (pv 4) pe_int (fun _ _ => rfl)) (fun _ _ => rfl)) (pgi T.MOST_FROM) (nomark _)) pss_never pss_nil)
        (pss_one (ps_expr (pe_bm PySem.F.plainAttrs_list PySem.F.slot_list_append PySem.F.type_list_append mt_append (pv 1) (pa_cons (pv 4) pa_nil))))))))
        (pss_one (ps_ret (pv 1))))))), ?_⟩
    refine ⟨_, rfl, a, _, rfl, ha, fun H1 s1 => ⟨true, rfl, iteF ?_⟩⟩
    have p1 : 1 ≤ rows.length := by
      have := List.length_pos_iff.mpr OK.ne
      omega
    have ll : (ts.map V.ref).length = rows.length := by rw [List.length_map, hl]
    refine ⟨_, rfl, a, _, rfl, .inl (SqL.of (s1 _ _ ha)), _, _, rfl, rfl, _, rfl, ?_⟩
    rw [if_pos (decide_eq_true (show (1 : Int) ≤ ((ts.map V.ref).length : Int) by rw [ll]; omega))]
    refine ⟨_, _, rfl, rfl, _, rfl, ?_⟩
    have e : decide (((ts.map V.ref).length : Int) ≤ 80) = true := decide_eq_true (by have := OK.le; rw [ll]; omega)
    rw [e]
    refine iteF ?_
    refine ⟨Nat.zero_le _, fun R nR => ?_⟩
    intro Cn nC
    have nRC : R ≠ Cn := fun z => by rw [z, upd_same] at nC; cases nC
    have nR0 : H R = none := s1.free nR
    have nC1 : H1 Cn = none := (same_new nR).free nC
    have nC0 : H Cn = none := s1.free nC1
    refine ⟨_, rfl, a, ts.map V.ref, rfl, SqL.of (same_mut (same_mut (Same.refl _) nR) nC1 _ _ (s1 _ _ ha)), ?_⟩
    refine for_it walk_enum (fun i σ H' => Same H H' ∧ H' R = some (.lst ((ts.take i).map V.ref)) ∧ (∃ kvs, H' Cn = some (.dK kvs) ∧ kvs.length ≤ i ∧ CntD kvs (rows.take i)) ∧ ∃ x y, σ = [some (.ref a), some (.ref R), some (.ref Cn), x, y])
      ⟨same_mut (same_mut s1 nR0) nC0, by rw [upd_ne nRC]; exact upd_same, ⟨[], upd_same, Nat.le_refl _, cntD_nil⟩, _, _, rfl⟩ (fun i σ H' _ ⟨s, _⟩ => SqL.of (s _ _ ha)) ?_ ?_
    · rintro i v σ H1 H2 hi ⟨sH, hRl, ⟨kvs, hC, hk, cn⟩, x, y, rfl⟩ ⟨Tp, u1, u2, rfl, nT, rfl, h1, h2⟩
      obtain ⟨t, ht, rfl⟩ := map_ref h2
      cases h1
      obtain ⟨r, hr0, hRow⟩ := RowsAt.at (l := a) hR ht
      have hm : r ∈ rows := List.mem_of_getElem? hr0
      obtain ⟨b0, b1, b2, b3, b4⟩ := OK.st r hm
      have sT : Same H1 (upd H1 Tp (.tup [.int (i : Nat), .ref t])) := same_new nT
      have hRow1 : RowAt (upd H1 Tp (.tup [.int (i : Nat), .ref t])) t r := sT _ _ (sH _ _ hRow)
      refine ⟨Tp, _, rfl, SqT.of upd_same, rfl, _, _, rfl, _, _, rfl, rfl, ?_⟩
      refine ⟨_, rfl, t, r, rfl, hRow1, b0, b1, b2, b3, b4, true, rfl, iteF ?_⟩
      have hnd : ¬ r ∈ rows.take i := fun z => by
        obtain ⟨j, hj, e⟩ := List.getElem_of_mem z
        rw [List.length_take] at hj
        rw [List.getElem_take] at e
        have e2 : rows[j]? = rows[i]? := by rw [hr0, ← e, List.getElem?_eq_getElem]
        have := (List.getElem?_inj (by omega) OK.nd).mp e2
        omega
      refine ⟨_, rfl, _, rfl, rowD r, (rows.take i).map rowD, dp_row hRow1, .lst (SqL.of (sT _ _ hRl)) (dp_rows (Paired_take i (rows_tups (.of (sH.trans sT)) hR))), shaped_row b4, shaped_rows fun r2 h2 => (OK.st r2 (List.mem_of_mem_take h2)).2.2.2.2, _, rfl, ?_⟩
      rw [any_row, decide_eq_false hnd]
      refine iteF ?_
      have hC1 := sT _ _ hC
      have hil : i < rows.length := (List.getElem?_eq_some_iff.mp hr0).1
      have hi80 : i < 80 := by have := OK.le; omega
      refine ⟨_, rfl, Cn, rfl, .inl ⟨_, .inl hC1⟩, _, rfl, t, _, _, _, rfl, rfl, SqT.of hRow1, atI_nat (j := 0) rfl, _, DGet.k (k := Sum.inl r.1) hC1, ?_⟩
      rw [cn r.1]
      refine ⟨_, _, rfl, rfl, _, rfl, _, rfl, t, _, _, _, rfl, rfl, SqT.of hRow1, atI_nat (j := 0) rfl, Cn, _, rfl, DPut.k (k := Sum.inl r.1) hC1 (by omega), ?_⟩
      have hCn2 := cn.snoc (r := r)
      rw [← take_snoc hr0] at hCn2
      refine ⟨_, rfl, _, rfl, t, _, _, _, rfl, rfl, SqT.of (up_ne hRow1 (ne_of hRow1 hC1 (by intro z; cases z))), atI_nat (j := 0) rfl, Cn, _, rfl, dget_k (k := Sum.inl r.1) upd_same valV_put_same, ?_⟩
      refine ⟨_, _, rfl, rfl, _, rfl, ?_⟩
      have c8 : cnt (rows.take (i + 1)) r.1 ≤ 8 := Nat.le_trans cnt_take (OK.few _)
      have e8 : cnt (rows.take (i + 1)) r.1 = cnt (rows.take i) r.1 + 1 := by rw [take_snoc hr0, cnt_snoc, if_pos rfl]
      have e9 : decide ((8 : Int) < ((cnt (rows.take i) r.1 : Nat) : Int) + 1) = false := decide_eq_false (by omega)
      rw [e9]
      refine iteF ?_
      have hRl1 := sT _ _ hRl
      have nRC1 : R ≠ Cn := nRC
      have hRl2 : (upd (upd H1 Tp (.tup [.int (i : Nat), .ref t])) Cn (.dK (putK kvs (.inl r.1) (.int ((cnt (rows.take i) r.1 : Nat) + 1))))) R = some (.lst ((ts.take i).map V.ref)) := up_ne hRl1 nRC1
      refine ⟨_, rfl, .inl ⟨rfl, _, SqL.of hRl2⟩, _, rfl, R, _, _, rfl, rfl, hRl2, by rw [List.length_map, List.length_take]; omega, ?_⟩
      refine ⟨same_mut (same_mut (sH.trans sT) nC0) nR0, ?_, ⟨_, up_ne upd_same (Ne.symm nRC1), ?_, hCn2⟩, _, _, rfl⟩
      · rw [upd_same, take_snoc ht, List.map_append]
        rfl
      · exact Nat.le_trans (length_putK _ _ _) (by omega)
    · rintro σ H1 ⟨sH, hRl, _, x, y, rfl⟩
      refine ⟨_, rfl, q _ _ sH nR0 ?_⟩
      rw [hRl, List.length_map, List.take_length]
/-- the table of faults: its keys are words of the rows -/
structure FtOk (wl : List Str) (ft : Tab) : Prop where
  le : ft.length ≤ 3
  nm : ∀ p ∈ ft, NameOk p.1 ∧ NameOk p.2 ∧ p.1 ∈ wl
/-- the table in the words' order -/
def tabOf (wl : List Str) (ft : Tab) : Tab := wl.filterMap fun w => (look ft w).map fun z => (w, z)
theorem look_mem {t : Tab} {x z : Str} (h : look t x = some z) : (x, z) ∈ t := by
  unfold look at h
  cases e : t.find? (fun p => decide (p.1 = x)) with
  | none => rw [e] at h; exact nomatch h
  | some p =>
    rw [e] at h
    obtain rfl : p.2 = z := Option.some.inj h
    have h1 := List.mem_of_find?_eq_some e
    have h2 := List.find?_some e
    rw [← of_decide_eq_true h2]
    exact h1
theorem look_some {t : Tab} {x : Str} (h : x ∈ t.map (·.1)) : ∃ z, look t x = some z := by
  obtain ⟨p, hp, rfl⟩ := List.mem_map.mp h
  unfold look
  cases e : t.find? (fun q => decide (q.1 = p.1)) with
  | none => exact absurd (decide_eq_true (rfl : p.1 = p.1)) (List.find?_eq_none.mp e p hp)
  | some q => exact ⟨q.2, rfl⟩
theorem look_none {t : Tab} {x : Str} (h : ¬ x ∈ t.map (·.1)) : look t x = none := by
  cases e : look t x with
  | none => rfl
  | some z => exact absurd (List.mem_map.mpr ⟨_, look_mem e, rfl⟩) h
theorem look_nodup : ∀ {t : Tab} {x z : Str}, (t.map (·.1)).Nodup → (x, z) ∈ t → look t x = some z
  | p :: t, x, z, hn, h => by
    obtain ⟨h1, h2⟩ := List.nodup_cons.mp (show (p.1 :: t.map (·.1)).Nodup from hn)
    unfold look
    rw [List.find?_cons]
    rcases List.mem_cons.mp h with e | h
    · subst e
      rw [decide_eq_true rfl]
      rfl
    · have ne : ¬ p.1 = x := fun e => h1 (by rw [e]; exact List.mem_map.mpr ⟨_, h, rfl⟩)
      rw [decide_eq_false ne]
      exact look_nodup h2 h
theorem tabOf_keys {wl : List Str} {ft : Tab} : (tabOf wl ft).map (·.1) = wl.filter fun w => (look ft w).isSome := by
  unfold tabOf
  induction wl with
  | nil => rfl
  | cons x wl ih =>
    rw [List.filterMap_cons, List.filter_cons]
    cases e : look ft x with
    | none => simpa using ih
    | some z => simpa using ih
theorem look_tabOf {wl : List Str} {ft : Tab} (hn : wl.Nodup) (x : Str) : look (tabOf wl ft) x = if x ∈ wl then look ft x else none := by
  have hk := tabOf_keys (wl := wl) (ft := ft)
  by_cases h : x ∈ wl
  · rw [if_pos h]
    cases e : look ft x with
    | none =>
      refine look_none fun z => ?_
      rw [hk, List.mem_filter, e] at z
      exact nomatch z.2
    | some z =>
      refine look_nodup ?_ ?_
      · rw [hk]
        exact hn.filter _
      · exact List.mem_filterMap.mpr ⟨x, h, by rw [e]; rfl⟩
  · rw [if_neg h]
    refine look_none fun z => ?_
    rw [hk, List.mem_filter] at z
    exact h z.1
theorem inV_strs {x : Str} {l : List Str} : inV (.str x) (l.map V.str) = decide (x ∈ l) := by
  rw [Bool.eq_iff_iff, decide_eq_true_eq]
  unfold inV
  rw [List.any_eq_true]
  constructor
  · rintro ⟨v, hv, e⟩
    obtain ⟨y, hy, rfl⟩ := List.mem_map.mp hv
    have e2 : y = x := by simpa [eqV] using e
    exact e2 ▸ hy
  · intro h
    exact ⟨_, List.mem_map.mpr ⟨x, h, rfl⟩, by simp [eqV]⟩
theorem flat_map (l : List Str) : (l.map V.str).all flatV = true := by
  rw [List.all_map, List.all_eq_true]
  intro _ _
  rfl
theorem put_tab {t : Tab} {x z : Str} (h : ¬ x ∈ t.map (·.1)) : putK (tabK t) (.inr x) (.str z) = tabK (t ++ [(x, z)]) := by
  unfold putK
  rw [valV_any, valV_tab, look_none h]
  show tabK t ++ [(Sum.inr x, V.str z)] = _
  unfold tabK
  rw [List.map_append]
  rfl
theorem tabOf_take {wl : List Str} {ft : Tab} {i : Nat} {x : Str} (h : wl[i]? = some x) : tabOf (wl.take (i + 1)) ft = tabOf (wl.take i) ft ++ (match look ft x with | none => [] | some z => [(x, z)]) := by
  unfold tabOf
  rw [take_snoc h, List.filterMap_append, List.filterMap_cons]
  cases look ft x <;> rfl
theorem map_str {l : List Str} {i : Nat} {x : V} (h : (l.map V.str)[i]? = some x) : ∃ z, l[i]? = some z ∧ x = .str z := by
  rw [List.getElem?_map] at h
  cases e : l[i]? with
  | none => rw [e] at h; exact nomatch (show (none : Option V) = some x from h)
  | some t =>
    rw [e] at h
    exact ⟨t, rfl, (Option.some.inj (show some (V.str t) = some x from h)).symm⟩
def spCheckedFaults : Sp := fun vs H Q _ => ∃ d l ft wl, vs = [.ref d, .ref l] ∧ H d = some (.dK (tabK ft)) ∧ H l = some (.lst (wl.map V.str)) ∧ wl.Nodup ∧ wl.length ≤ 100 ∧ FtOk wl ft ∧ ∀ H' p, Same H H' → H p = none → H' p = some (.dK (tabK (tabOf wl ft))) → Q (.ref p) H'
theorem ok_CheckedFaults {f : Addr} {fd : FuncData} (F : FnP K "checked_faults" "checked_faults" sCheckedFaults [] f fd) (T : Tx K mg) (C_is_name : Cal P w K mg base 1 "is_name" ["value"] spIsName) : FnOk P w K mg base CX0 2 f fd ["faults", "words"] spCheckedFaults := by
  refine mk_fn F sc_CheckedFaults (fun vs H Q E h => ?_) (fun cdv A outer s H vs Q E hr h => ?_)
  · obtain ⟨d, l, ft, wl, rfl, _⟩ := h
    rfl
  · obtain ⟨d, l, ft, wl, rfl, hd, hw, nd, wz, OK, q⟩ := h
    have hu := hu_of hr
    refine ⟨_, (pss_cons (ps_if (pt_cmpR op_isN (pv 0) pe_non (nomark _)) (pss_one (ps_ret pe_dnewK)) pss_nil)
        (pss_cons (ps_if (pt_not (pt_val (pe_callB call_isi (by rfl) T.isinstance (by decide +kernel) (pa_cons (pv 0) (pa_cons (pty "dict" T.dict) pa_nil))))) pss_never pss_nil)
        (pss_cons (ps_set (i := 2) sc_CheckedFaults.nd rfl (Or.inl rfl) (pe_lst pa_nil))
        (pss_cons (ps_lock (ps_for PassesOwn.never rfl (pi_items (pv 0)) (pg_tup (n := 2) rfl (pgs_cons (pg_name (i := 3) sc_CheckedFaults.nd rfl (Or.inl rfl)) (pgs_cons (pg_name (i := 4) sc_CheckedFaults.nd rfl (Or.inl rfl)) pgs_nil)))
        (pss_cons (ps_if (PW.pt (pw_or (pt_not (pt_val (pc C_is_name hr (pa_cons (pv 3) pa_nil)))) (pw_or (pt_cmpR op_notIn_seq (pv 3) (pv 1) rfl) (pw_or1 (pt_not (pt_val (pc C_is_name hr (pa_cons (pv 4) pa_nil)))))))) pss_never pss_nil)
        (pss_cons (ps_if (pt_cmpR op_notIn_seq (pv 4) (pv 2) rfl) (pss_one (ps_expr (pe_bm PySem.F.plainAttrs_list PySem.F.slot_list_append PySem.F.type_list_append mt_append (pv 2) (pa_cons (pv 4) pa_nil)))) pss_nil)
        (pss_one (ps_if (pt_cmpR op_gt (pe_callB call_len_seq (by rfl) T.len PySem.boot_len (pa_cons (pv 2) pa_nil)) (pgi T.MOST_FAULTS) (nomark _)) pss_never pss_nil))))))
        (pss_one (ps_ret (pe_dcK rfl sc_CheckedFaults.nd (pi_list (pv 1)) (blkOk_by (own := [("word", 3)]) (N := ["faults", "words", "names", "word", "name"]) (sc := defScope sCheckedFaults) (by decide +kernel)) (fun _ _ _ _ _ => (pg_name (i := 3) sc_CheckedFaults.nd rfl (Or.inl rfl))) (fun _ _ _ _ _ => pts_one (pt_cmp (pc_din hu (pv 3) (pv 0)))) (fun _ _ _ _ _ => (pv 3)) (fun _ _ _ _ _ => (pe_dget hu (pv 0) (pv 3) (fun _ _ => rfl)))))))))), ?_⟩
    refine ⟨_, rfl, rfl, _, rfl, iteF ?_⟩
    refine ⟨_, rfl, _, _, _, _, true, rfl, .ty _, .base (.dK hd), kit_ty (by decide +kernel), true, rfl, iteF ?_⟩
    refine ⟨Nat.zero_le _, fun Ln nL => ?_⟩
    have nLd : d ≠ Ln := ne_new hd nL
    have nLl : l ≠ Ln := ne_new hw nL
    have ndl : l ≠ d := ne_of hw hd (by intro z; cases z)
    refine ⟨d, .dK (tabK ft), up_new hd nL, trivial, fun od => ?_⟩
    refine ⟨_, rfl, d, od, tabK ft, rfl, upd_same, ?_⟩
    refine for_it walk_items (fun i σ H' => SameX d H H' ∧ H' d = some (.frz od (.dK (tabK ft))) ∧ (∃ nl : List Str, H' Ln = some (.lst (nl.map V.str)) ∧ nl.length ≤ i) ∧ ∃ x y, σ = [some (.ref d), some (.ref l), some (.ref Ln), x, y])
      ⟨SameX.lock (same_new nL), upd_same, ⟨[], by rw [upd_ne (Ne.symm nLd)]; exact upd_same, Nat.le_refl _⟩, _, _, rfl⟩ (fun i σ H' _ h => h.2.1) ?_ ?_
    · rintro i v σ H1 H2 hi ⟨sH, hD, ⟨nl, hN, hz⟩, x, y, rfl⟩ ⟨Tp, u1, u2, rfl, nT, rfl, h1, h2⟩
      have hi2 : i < ft.length := by rw [tabK, List.length_map] at hi; exact hi
      have hp : ft[i]? = some ft[i] := List.getElem?_eq_getElem hi2
      have hpm : ft[i] ∈ ft := List.getElem_mem hi2
      generalize ft[i] = p at hp hpm
      have ek : (tabK ft)[i]? = some (Sum.inr p.1, V.str p.2) := by unfold tabK; rw [List.getElem?_map, hp]; rfl
      obtain ⟨o1, o2, o3⟩ := OK.nm p hpm
      obtain rfl : u1 = V.str p.1 := by
        have z := h1
        simp only [ek] at z
        exact (Option.some.inj z).symm
      obtain rfl : u2 = V.str p.2 := by
        have z := h2
        simp only [ek] at z
        exact (Option.some.inj z).symm
      have sT := same_new (o := .tup [V.str p.1, V.str p.2]) nT
      refine ⟨Tp, _, rfl, SqT.of upd_same, rfl, _, _, rfl, _, _, rfl, rfl, ?_⟩
      refine ⟨_, rfl, p.1, rfl, o1, true, rfl, iteF ?_⟩
      refine ⟨_, rfl, _, rfl, l, wl.map V.str, rfl, .inl (SqL.of (sT _ _ (sH _ _ hw ndl))), rfl, flat_map wl, _, rfl, ?_⟩
      have ei : inV (V.str p.1) (wl.map V.str) = true := by rw [inV_strs]; exact decide_eq_true o3
      rw [ei]
      refine iteF ?_
      refine ⟨_, rfl, p.2, rfl, o2, true, rfl, iteF ?_⟩
      refine ⟨_, rfl, _, rfl, Ln, nl.map V.str, rfl, .inl (SqL.of (sT _ _ hN)), rfl, flat_map nl, _, rfl, ?_⟩
      have l3 := OK.le
      refine ite2 (fun e => ?_) (fun e => ?_)
      · have hN2 := sT _ _ hN
        have sl : (3 : Nat) < sizeLine := by decide
        refine ⟨_, rfl, .inl ⟨rfl, _, SqL.of hN2⟩, _, rfl, Ln, _, _, rfl, rfl, hN2, by rw [List.length_map]; omega, ?_⟩
        refine ⟨_, rfl, Ln, _, rfl, .inl (SqL.of upd_same), _, _, rfl, rfl, _, rfl, ?_⟩
        have e3 : decide ((3 : Int) < ((nl.map V.str ++ [V.str p.2]).length : Int)) = false := decide_eq_false (by rw [List.length_append, List.length_map, List.length_singleton]; omega)
        rw [e3]
        exact iteF ⟨(sH.add nT).mut nL, by rw [upd_ne nLd]; exact up_new hD nT, ⟨nl ++ [p.2], by rw [upd_same, List.map_append]; rfl, by rw [List.length_append]; exact Nat.succ_le_succ hz⟩, _, _, rfl⟩
      · have hN2 := sT _ _ hN
        refine ⟨_, rfl, Ln, _, rfl, .inl (SqL.of hN2), _, _, rfl, rfl, _, rfl, ?_⟩
        have e3 : decide ((3 : Int) < ((nl.map V.str).length : Int)) = false := decide_eq_false (by rw [List.length_map]; omega)
        rw [e3]
        exact iteF ⟨sH.add nT, up_new hD nT, ⟨nl, hN2, Nat.le_succ_of_le hz⟩, _, _, rfl⟩
    · rintro σ H1 ⟨sH, hD, _, x, y, rfl⟩
      refine ⟨hD, ?_⟩
      have sB : Same H (upd H1 d (.dK (tabK ft))) := sH.back hd
      generalize upd H1 d (.dK (tabK ft)) = H2 at sB
      have hd2 := sB _ _ hd
      have hw2 := sB _ _ hw
      refine ⟨_, rfl, l, rfl, ⟨_, SqL.of hw2⟩, fun Dn nD => ?_⟩
      refine cc_it (U := fun _ => .dK []) walk_list (fun i H' => Same H2 H' ∧ H' Dn = some (.dK (tabK (tabOf (wl.take i) ft)))) ⟨same_new nD, upd_same⟩ (fun i H' _ h => SqL.of (h.1 _ _ hw2)) ?_ ?_
      · rintro i v H3 H4 hi ⟨s3, hDn⟩ ⟨rfl, h1⟩
        obtain ⟨z, hz, rfl⟩ := map_str h1
        refine ⟨rfl, _, rfl, _, rfl, d, _, rfl, DGet.k (k := Sum.inr z) (s3 _ _ hd2), _, rfl, ?_⟩
        rw [valV_tab]
        have et := tabOf_take (ft := ft) hz
        cases e : look ft z with
        | none =>
          rw [e] at et
          refine iteF ⟨s3, ?_⟩
          rw [hDn, et, List.append_nil]
        | some y =>
          rw [e] at et
          refine iteT ⟨_, rfl, _, rfl, _, rfl, d, _, rfl, dget_k (k := Sum.inr z) (s3 _ _ hd2) (by rw [valV_tab, e]; rfl), _, .inr z, rfl, hDn, ?_, ?_⟩
          · have h1 : (tabK (tabOf (wl.take i) ft)).length ≤ wl.length := by
              unfold tabK tabOf
              rw [List.length_map]
              refine Nat.le_trans (List.length_filterMap_le _ _) ?_
              rw [List.length_take]
              omega
            have sl : (100 : Nat) < sizeLine := by decide
            omega
          · have hnot : ¬ z ∈ (tabOf (wl.take i) ft).map (·.1) := fun q => by
              rw [tabOf_keys, List.mem_filter] at q
              obtain ⟨j, hj, ej⟩ := List.getElem_of_mem q.1
              rw [List.length_take] at hj
              rw [List.getElem_take] at ej
              have e2 : wl[j]? = wl[i]? := by rw [hz, ← ej, List.getElem?_eq_getElem]
              have := (List.getElem?_inj (by omega) nd).mp e2
              omega
            refine ⟨same_mut s3 nD, ?_⟩
            rw [upd_same, put_tab hnot, et]
      · rintro H3 ⟨s3, hDn⟩
        refine q _ _ (sB.trans s3) (sB.free nD) ?_
        rw [hDn, List.length_map, List.take_length]
theorem nums_snoc {rows : List Row} {r : Row} {s : Int} : nums (rows ++ [r]) s = nums rows s ++ (if r.1 = s then [rows.length] else []) := by
  unfold nums
  rw [List.length_append, List.length_singleton, List.range_succ, List.filter_append]
  congr 1
  · refine List.filter_congr fun j hj => ?_
    rw [List.getElem?_append_left (List.mem_range.mp hj)]
  · rw [List.filter_cons, List.getElem?_append_right (Nat.le_refl _), Nat.sub_self]
    by_cases e : r.1 = s
    · rw [if_pos e]
      simp [e]
    · rw [if_neg e]
      simp [e]
def spLeavingTable : Sp := fun vs H Q _ => ∃ a rows, vs = [.ref a] ∧ RowsAt H a rows ∧ rows.length ≤ 100 ∧ ∀ H' p lv, Same H H' → H p = none → H' p = some (.dK lv) → (∀ s, LvAt H' lv (nums rows s) s) → Q (.ref p) H'
theorem ok_LeavingTable {f : Addr} {fd : FuncData} (F : FnP K "leaving_table" "leaving_table" sLeavingTable [] f fd) (T : Tx K mg) : FnOk P w K mg base CX0 1 f fd ["rows"] spLeavingTable := by
  refine mk_fn F sc_LeavingTable (fun vs H Q E h => ?_) (fun cdv A outer s H vs Q E hr h => ?_)
  · obtain ⟨a, rows, rfl, _⟩ := h
    rfl
  · obtain ⟨a, rows, rfl, ⟨ts, ha, hR⟩, hz, q⟩ := h
    have hu := hu_of hr
    have hl : ts.length = rows.length := Paired.length hR
    have sl : (1000 : Nat) < sizeLine := by decide
    refine ⟨_, (pss_cons (ps_set (i := 1) sc_LeavingTable.nd rfl (Or.inl rfl) pe_dnewK)
        (pss_cons (ps_for PassesOwn.never rfl (pi_enum rfl T.enumerate (pa_cons (pv 0) pa_nil)) (pg_tup (n := 2) rfl (pgs_cons (pg_name (i := 2) sc_LeavingTable.nd rfl (Or.inl rfl)) (pgs_cons (pg_name (i := 3) sc_LeavingTable.nd rfl (Or.inl rfl)) pgs_nil)))
        (pss_cons (ps_set (i := 4) sc_LeavingTable.nd rfl (Or.inl rfl) (pe_dsetd (pv 1) (pe_ix ix_tup (pv 3) pe_int (fun _ _ => rfl)) (pe_lst pa_nil) ⟨rfl, rfl, rfl, rfl⟩))
        (pss_one (ps_expr (pe_bm PySem.F.plainAttrs_list PySem.F.slot_list_append PySem.F.type_list_append mt_append (pv 4) (pa_cons (pv 2) pa_nil))))))
        (pss_one (ps_ret (pv 1))))), ?_⟩
    intro Tb nT
    have naT : a ≠ Tb := ne_new ha nT
    refine ⟨_, rfl, a, ts.map V.ref, rfl, SqL.of (up_new ha nT), ?_⟩
    refine for_it walk_enum (fun i σ H' => Same H H' ∧ (∃ kvs, H' Tb = some (.dK kvs) ∧ kvs.length ≤ i ∧ (∀ s, LvAt H' kvs (nums (rows.take i) s) s) ∧ (∀ s l, valV kvs (.inl s) = some (.ref l) → H l = none ∧ l ≠ Tb) ∧ ∀ s s' l, valV kvs (.inl s) = some (.ref l) → valV kvs (.inl s') = some (.ref l) → s = s') ∧ ∃ x y z, σ = [some (.ref a), some (.ref Tb), x, y, z])
      ⟨same_new nT, ⟨[], upd_same, Nat.le_refl _, fun s => .inl ⟨rfl, rfl⟩, (fun s l z => nomatch z), (fun s s' l z => nomatch z)⟩, _, _, _, rfl⟩ (fun i σ H' _ h => SqL.of (h.1 _ _ ha)) ?_ ?_
    · rintro i v σ H1 H2 hi ⟨sH, ⟨kvs, hT, hk, lv, fr, inj⟩, x, y, z, rfl⟩ ⟨Tp, u1, u2, rfl, nTp, rfl, h1, h2⟩
      obtain ⟨t, ht, rfl⟩ := map_ref h2
      cases h1
      obtain ⟨r, hr0, hRow⟩ := RowsAt.at (l := a) hR ht
      have hil : i < rows.length := (List.getElem?_eq_some_iff.mp hr0).1
      have sT := same_new (o := .tup [.int (i : Nat), .ref t]) nTp
      have hT1 := sT _ _ hT
      have hRow1 : RowAt (upd H1 Tp (.tup [.int (i : Nat), .ref t])) t r := sT _ _ (sH _ _ hRow)
      have lv1 : ∀ s, LvAt (upd H1 Tp (.tup [.int (i : Nat), .ref t])) kvs (nums (rows.take i) s) s := fun s => (lv s).same sT
      have sH1 := sH.trans sT
      have hTp : (upd H1 Tp (.tup [.int (i : Nat), .ref t])) Tp = some (.tup [.int (i : Nat), .ref t]) := upd_same
      generalize upd H1 Tp (.tup [.int (i : Nat), .ref t]) = H3 at hT1 hRow1 lv1 sH1 hTp
      have ns : ∀ s, nums (rows.take (i + 1)) s = nums (rows.take i) s ++ (if r.1 = s then [i] else []) := fun s => by
        rw [take_snoc hr0, nums_snoc, List.length_take, Nat.min_eq_left (Nat.le_of_lt hil)]
      refine ⟨Tp, _, rfl, SqT.of hTp, rfl, _, _, rfl, _, _, rfl, rfl, ?_⟩
      refine ⟨_, rfl, Tb, rfl, .inl ⟨_, .inl hT1⟩, _, rfl, t, _, _, _, rfl, rfl, SqT.of hRow1, atI_nat (j := 0) rfl, Nat.zero_le _, fun p np => ?_⟩
      have sP := same_new (o := .lst []) np
      refine ⟨kvs, .inl r.1, sP _ _ hT1, rfl, by omega, fun v hv => ?_, fun hn => ?_⟩
      · rcases lv1 r.1 with ⟨e, _⟩ | ⟨l, e, hll⟩
        · rw [e] at hv
          cases hv
        · rw [e] at hv
          cases hv
          obtain ⟨f1, f2⟩ := fr _ _ e
          have hl1 := sP _ _ hll
          refine ⟨_, rfl, .inl ⟨rfl, _, SqL.of hl1⟩, _, rfl, l, _, _, rfl, rfl, hl1, ?_, ?_⟩
          · rw [List.length_map]
            have : (nums (rows.take i) r.1).length ≤ (rows.take i).length := by
              unfold nums
              exact Nat.le_trans (List.length_filter_le _ _) (Nat.le_of_eq List.length_range)
            rw [List.length_take] at this
            omega
          · refine ⟨same_mut (sH1.trans sP) f1, ⟨kvs, by rw [upd_ne (Ne.symm f2)]; exact sP _ _ hT1, Nat.le_succ_of_le hk, fun s => ?_, fr, inj⟩, _, _, _, rfl⟩
            rw [ns s]
            by_cases es : r.1 = s
            · subst es
              rw [if_pos rfl]
              exact .inr ⟨l, e, by rw [upd_same, List.map_append]; rfl⟩
            · rw [if_neg es, List.append_nil]
              rcases lv1 s with h | ⟨l2, e2, h2⟩
              · exact .inl h
              · exact .inr ⟨l2, e2, up_ne (sP _ _ h2) (fun z => es (inj _ _ _ e (z ▸ e2)))⟩
      · have hp : (upd (upd H3 p (.lst [])) Tb (.dK (putK kvs (.inl r.1) (.ref p)))) p = some (.lst []) := up_ne upd_same (Ne.symm (ne_new hT1 np))
        have nums0 : nums (rows.take i) r.1 = [] := by
          rcases lv1 r.1 with ⟨_, e⟩ | ⟨l, e, _⟩
          · exact e
          · rw [e] at hn
            cases hn
        have npT : p ≠ Tb := Ne.symm (ne_new hT1 np)
        refine ⟨_, rfl, .inl ⟨rfl, _, SqL.of hp⟩, _, rfl, p, _, _, rfl, rfl, hp, (by show 0 < sizeLine; decide), ?_⟩
        refine ⟨same_mut (same_mut (sH1.trans sP) nT) (sH1.free np), ⟨_, by rw [upd_ne (Ne.symm npT)]; exact upd_same, Nat.le_trans (length_putK _ _ _) (Nat.succ_le_succ hk), fun s => ?_, fun s l e => ?_, fun s s' l e e' => ?_⟩, _, _, _, rfl⟩
        · rw [ns s]
          by_cases es : r.1 = s
          · subst es
            rw [if_pos rfl, nums0]
            exact .inr ⟨p, valV_put_same, upd_same⟩
          · rw [if_neg es, List.append_nil]
            have ev : valV (putK kvs (.inl r.1) (.ref p)) (.inl s) = valV kvs (.inl s) := by rw [valV_put, if_neg (fun z => es (Sum.inl.inj z).symm)]
            rcases lv1 s with ⟨h1, h2⟩ | ⟨l2, e2, h2⟩
            · exact .inl ⟨ev.trans h1, h2⟩
            · have h3 : H3 l2 = some _ := h2
              exact .inr ⟨l2, ev.trans e2, up_ne (up_ne (sP _ _ h2) (fr _ _ e2).2) (ne_new h2 np)⟩
        · rw [valV_put] at e
          split at e
          · cases e
            exact ⟨sH1.free np, npT⟩
          · exact fr _ _ e
        · rw [valV_put] at e e'
          have old : ∀ x, valV kvs (.inl x) ≠ some (V.ref p) := fun x z => by
            rcases lv1 x with ⟨h1, _⟩ | ⟨l2, e2, h2⟩
            · rw [h1] at z
              cases z
            · rw [e2] at z
              cases z
              rw [np] at h2
              cases h2
          split at e
          · next es =>
            cases e
            split at e'
            · next es' => rw [Sum.inl.inj es, Sum.inl.inj es']
            · exact absurd e' (old _)
          · split at e'
            · cases e'
              exact absurd e (old _)
            · exact inj _ _ _ e e'
    · rintro σ H1 ⟨sH, ⟨kvs, hT, _, lv, _⟩, x, y, z, rfl⟩
      refine ⟨_, rfl, q _ _ kvs sH nT hT fun s => ?_⟩
      have e := lv s
      rw [List.length_map, hl, List.take_length] at e
      exact e
def metK (ml : List Int) : List (Key × V) := ml.map fun s => (.inl s, .bl true)
theorem valV_met : ∀ {ml : List Int} {t : Int}, valV (metK ml) (.inl t) = if t ∈ ml then some (.bl true) else none
  | [], t => rfl
  | s :: ml, t => by
    by_cases e : s = t
    · subst e
      rw [if_pos List.mem_cons_self]
      exact valV_pos (p := (Sum.inl s, V.bl true)) rfl
    · have h1 : valV (metK (s :: ml)) (.inl t) = valV (metK ml) (.inl t) := valV_neg (p := (Sum.inl s, V.bl true)) fun z => e (Sum.inl.inj z)
      rw [h1, valV_met]
      by_cases m : t ∈ ml
      · rw [if_pos m, if_pos (List.mem_cons_of_mem _ m)]
      · rw [if_neg m, if_neg (fun z => (List.mem_cons.mp z).elim (fun q => e q.symm) m)]
theorem put_met {ml : List Int} {t : Int} (h : ¬ t ∈ ml) : putK (metK ml) (.inl t) (.bl true) = metK (ml ++ [t]) := by
  unfold putK
  rw [valV_any, valV_met, if_neg h]
  show metK ml ++ [(Sum.inl t, V.bl true)] = _
  unfold metK
  rw [List.map_append]
  rfl
def RsI (H : Hp) (start : Int) (a la Mt Wt : Addr) (rows : List Row) (R : Int → Prop) (m : Nat) (σ : L2.St) (H' : Hp) : Prop := ∃ ml wt : List Int, m = 2 * (rows.length + 1 - ml.length) + wt.length ∧ Same H H' ∧ H' Mt = some (.dK (metK ml)) ∧ H' Wt = some (.lst (wt.map V.int)) ∧ wt.length ≤ ml.length ∧ ml.Nodup ∧ (∀ s ∈ ml, s ∈ start :: rows.map (·.2.2)) ∧ (∀ s ∈ ml, R s) ∧ (∀ s ∈ wt, R s) ∧ ∃ x y z, σ = [some (.int start), some (.ref a), some (.ref la), some (.ref Mt), some (.ref Wt), x, y, z]
def spReachedStates : Sp := fun vs H Q _ => ∃ start a rows la lv, vs = [.int start, .ref a, .ref la] ∧ RowsAt H a rows ∧ rows.length ≤ 100 ∧ H la = some (.dK lv) ∧ (∀ s, LvAt H lv (nums rows s) s) ∧ ∃ R : Int → Prop, R start ∧ (∀ r ∈ rows, R r.1 → R r.2.2) ∧
  ∀ (H' : Hp) (p : Addr) (L : List Int), Same H H' → H p = none → H' p = some (.lst (L.map V.int)) → (∀ s ∈ L, R s) → Q (.ref p) H'
theorem ok_ReachedStates {f : Addr} {fd : FuncData} (F : FnP K "reached_states" "reached_states" sReachedStates [] f fd) (T : Tx K mg) : FnOk P w K mg base CX0 1 f fd ["start", "rows", "leaving"] spReachedStates := by
  refine mk_fn F sc_ReachedStates (fun vs H Q E h => ?_) (fun cdv A outer s H vs Q E hr h => ?_)
  · obtain ⟨start, a, rows, la, lv, rfl, _⟩ := h
    rfl
  · obtain ⟨start, a, rows, la, lv, rfl, ⟨ts, ha, hR⟩, hz, hla, hlv, R, r0, rc, q⟩ := h
    have hu := hu_of hr
    have sl : (1000 : Nat) < sizeLine := by decide
    refine ⟨_, (pss_cons (ps_set (i := 3) sc_ReachedStates.nd rfl (Or.inl rfl) (pe_disp (pps_cons (pv 0) pe_bl pps_nil) rfl rfl (by simp) (by decide)))
        (pss_cons (ps_set (i := 4) sc_ReachedStates.nd rfl (Or.inl rfl) (pe_lst (pa_cons (pv 0) pa_nil)))
        (pss_cons (ps_while PassesOwn.never (pt_truth (pv 4) (fun _ => rfl))
        (pss_cons (ps_set (i := 5) sc_ReachedStates.nd rfl (Or.inl rfl) (pe_bm0 PySem.F.plainAttrs_list PySem.F.slot_list_pop PySem.F.type_list_pop mt_pop (pv 4)))
        (pss_one (ps_for PassesOwn.never rfl (pi_list (pe_dget2 hu (pv 2) (pv 5) (pe_lst pa_nil) ⟨rfl, rfl, rfl, rfl⟩)) (pg_name (i := 6) sc_ReachedStates.nd rfl (Or.inl rfl))
        (pss_cons (ps_set (i := 7) sc_ReachedStates.nd rfl (Or.inl rfl) (pe_ix ix_tup (pe_ix ix_list (pv 1) (pv 6) (fun _ _ => rfl)) pe_int (fun _ _ => rfl)))
        (pss_one (ps_if (pt_cmp (pc_dnotin hu (pv 7) (pv 3))) (pss_cons (ps_dput hu (pv 3) (pv 7) pe_bl rfl)
        (pss_one (ps_expr (pe_bm PySem.F.plainAttrs_list PySem.F.slot_list_append PySem.F.type_list_append mt_append (pv 4) (pa_cons (pv 7) pa_nil))))) pss_nil)))))))
        (pss_one (ps_ret (pe_callB cr_sortedI (by rfl) T.sorted (by decide +kernel) (pa_cons (pe_callTy (call_list_dK rfl) (by rfl) T.list (by decide +kernel) (pa_cons (pv 3) pa_nil)) pa_nil))))))), ?_⟩
    intro Mt nM
    refine ⟨_, rfl, upd_same, [(.inl start, .bl true)], rfl, by show 1 ≤ 15; decide, ?_⟩
    refine ⟨_, rfl, by show 1 ≤ sizeLine; decide, fun Wt nW => ?_⟩
    have e0 : upd (upd H Mt (.dK [])) Mt (.dK (mergeK [] [(.inl start, .bl true)])) = upd H Mt (.dK (metK [start])) := upd_upd
    rw [e0] at nW ⊢
    have s0 : Same H (upd H Mt (.dK (metK [start]))) := same_new nM
    have nMW : Mt ≠ Wt := ne_new upd_same nW
    have nW0 := s0.free nW
    refine ⟨RsI H start a la Mt Wt rows R,
      ⟨_, [start], [start], rfl, same_add s0 nW, up_new upd_same nW, upd_same, Nat.le_refl _, by simp, fun s h => by rw [List.mem_singleton.mp h]; exact List.mem_cons_self, fun s h => by rw [List.mem_singleton.mp h]; exact r0, fun s h => by rw [List.mem_singleton.mp h]; exact r0, _, _, _, rfl⟩, ?_⟩
    rintro m σ H1 ⟨ml, wt, rfl, sH, hM, hW, wl, nd, sub, pm, pw, x, y, z, rfl⟩
    refine ⟨_, rfl, !(wt.map V.int).isEmpty, .inl ⟨_, SqL.of hW, rfl⟩, ?_⟩
    rcases List.eq_nil_or_concat wt with rfl | ⟨w1, s1, rfl⟩
    · refine iteF ⟨_, rfl, Mt, _, rfl, hM, fun p np => ?_⟩
      have ek : ((metK ml).map fun kv => kV kv.1) = ml.map V.int := by unfold metK; rw [List.map_map]; rfl
      rw [ek]
      refine ⟨p, ml, rfl, SqL.of upd_same, fun L p2 perm _ np2 => ?_⟩
      exact q _ _ L (same_add (same_add sH np) np2) (sH.free ((same_new np).free np2)) upd_same fun s hs => pm s (perm.mem_iff.mp hs)
    · have e1 : (!((w1 ++ [s1]).map V.int).isEmpty) = true := by rw [List.map_append]; simp
      rw [List.concat_eq_append] at hW pw wl ⊢
      rw [List.length_append, List.length_singleton] at wl
      rw [e1]
      refine iteT ⟨fun σ' H' => ∃ m', m' < 2 * (rows.length + 1 - ml.length) + (w1 ++ [s1]).length ∧ RsI H start a la Mt Wt rows R m' σ' H', fun σ' H' h => h, ?_⟩
      have ew : ((w1 ++ [s1]).map V.int)[((w1 ++ [s1]).map V.int).length - 1]? = some (.int s1) := by rw [List.map_append]; simp
      refine ⟨_, rfl, .inl ⟨rfl, _, SqL.of hW⟩, Wt, _, .int s1, rfl, rfl, hW, ew, ?_⟩
      have ed : ((w1 ++ [s1]).map V.int).dropLast = w1.map V.int := by rw [List.map_append]; simp
      rw [ed]
      have hR1 : R s1 := pw s1 (by simp)
      have pw1 : ∀ s ∈ w1, R s := fun s hs => pw s (by simp [hs])
      have sH1 : Same H (upd H1 Wt (.lst (w1.map V.int))) := same_mut sH nW0
      have hM1 : (upd H1 Wt (.lst (w1.map V.int))) Mt = some (.dK (metK ml)) := by rw [upd_ne nMW]; exact hM
      have hW1 : (upd H1 Wt (.lst (w1.map V.int))) Wt = some (.lst (w1.map V.int)) := upd_same
      generalize upd H1 Wt (.lst (w1.map V.int)) = H2 at sH1 hM1 hW1
      refine ⟨_, rfl, la, rfl, .inl ⟨_, .inl (sH1 _ _ hla)⟩, _, rfl, Nat.zero_le _, fun p np => ?_⟩
      have sP := same_new (o := .lst []) np
      refine ⟨_, DGet.k (k := Sum.inl s1) (sP _ _ (sH1 _ _ hla)), ?_⟩
      have hit : ∃ l, (valV lv (.inl s1)).getD (.ref p) = V.ref l ∧ (upd H2 p (.lst [])) l = some (.lst ((nums rows s1).map natV)) ∧ l ≠ Mt ∧ l ≠ Wt := by
        rcases hlv s1 with ⟨e, e0⟩ | ⟨l, e, h⟩
        · rw [e, e0]
          exact ⟨p, rfl, upd_same, (fun z => by rw [z, hM1] at np; cases np), fun z => by rw [z, hW1] at np; cases np⟩
        · rw [e]
          exact ⟨l, rfl, sP _ _ (sH1 _ _ h), (fun z => by rw [z, nM] at h; cases h), fun z => by rw [z, nW0] at h; cases h⟩
      obtain ⟨l, e, hl, lM, lW⟩ := hit
      rw [e]
      have sH2 := sH1.trans sP
      have hM2 := sP _ _ hM1
      have hW2 := sP _ _ hW1
      generalize upd H2 p (.lst []) = H3 at hl sH2 hM2 hW2
      refine ⟨l, rfl, ⟨_, SqL.of hl⟩, ?_⟩
      refine for_it walk_list (fun j σ H' => (∃ m', m' < 2 * (rows.length + 1 - ml.length) + (w1 ++ [s1]).length ∧ RsI H start a la Mt Wt rows R m' σ H') ∧ H' l = some (.lst ((nums rows s1).map natV)))
        ⟨⟨_, by rw [List.length_append, List.length_singleton]; exact Nat.lt_succ_self _, ml, w1, rfl, sH2, hM2, hW2, by omega, nd, sub, pm, pw1, _, _, _, rfl⟩, hl⟩ (fun j σ H' _ h => SqL.of h.2) ?_ fun σ H' h => h.1
      rintro j v σ H4 H5 hj ⟨⟨m', hm, ml2, wt2, rfl, sH4, hM4, hW4, wl4, nd4, sub4, pm4, pw4, x4, y4, z4, rfl⟩, hl4⟩ ⟨rfl, h1⟩
      rw [List.getElem?_map] at h1
      obtain ⟨jn, hjn, rfl⟩ : ∃ jn, (nums rows s1)[j]? = some jn ∧ v = natV jn := by
        cases e : (nums rows s1)[j]? with
        | none => rw [e] at h1; exact nomatch (show (none : Option V) = some v from h1)
        | some t =>
          rw [e] at h1
          exact ⟨t, rfl, (Option.some.inj (show some (natV t) = some v from h1)).symm⟩
      obtain ⟨r, hr0, hs1⟩ := mem_nums.mp (List.mem_of_getElem? hjn)
      obtain ⟨t, ht, hRow⟩ := RowsAt.at' (l := a) hR hr0
      have hrm : r ∈ rows := List.mem_of_getElem? hr0
      refine ⟨_, rfl, _, rfl, a, _, _, .ref t, rfl, rfl, SqL.of (sH4 _ _ ha), atI_nat (by rw [List.getElem?_map, ht]; rfl), ?_⟩
      refine ⟨t, _, _, _, rfl, rfl, SqT.of (sH4 _ _ hRow), atI_nat (j := 2) rfl, ?_⟩
      refine ⟨_, rfl, _, rfl, Mt, _, rfl, DGet.k (k := Sum.inl r.2.2) hM4, _, rfl, ?_⟩
      rw [valV_met]
      by_cases hin : r.2.2 ∈ ml2
      · rw [if_pos hin]
        exact iteF ⟨⟨_, hm, ml2, wt2, rfl, sH4, hM4, hW4, wl4, nd4, sub4, pm4, pw4, _, _, _, rfl⟩, hl4⟩
      · rw [if_neg hin]
        have nd5 : (ml2 ++ [r.2.2]).Nodup := List.nodup_append.mpr ⟨nd4, by simp, fun a ha b hb q => hin (by rw [List.mem_singleton.mp hb] at q; rw [← q]; exact ha)⟩
        have sub5 : ∀ s ∈ ml2 ++ [r.2.2], s ∈ start :: rows.map (·.2.2) := fun s hs => by
          rcases List.mem_append.mp hs with h | h
          · exact sub4 s h
          · rw [List.mem_singleton.mp h]
            exact List.mem_cons_of_mem _ (List.mem_map.mpr ⟨r, hrm, rfl⟩)
        have len5 := len_sub nd5 sub5
        have hR5 : R r.2.2 := rc r hrm (hs1 ▸ hR1)
        rw [List.length_append, List.length_singleton, List.length_cons, List.length_map] at len5
        have hW5 : (upd H5 Mt (.dK (putK (metK ml2) (.inl r.2.2) (.bl true)))) Wt = some (.lst (wt2.map V.int)) := by rw [upd_ne (Ne.symm nMW)]; exact hW4
        refine iteT ⟨_, rfl, _, rfl, Mt, _, rfl, DPut.k (k := Sum.inl r.2.2) hM4 (by unfold metK; rw [List.length_map]; omega), ?_⟩
        have lw : (wt2.map V.int).length < sizeLine := by
          rw [List.length_map]
          omega
        refine ⟨_, rfl, .inl ⟨rfl, _, SqL.of hW5⟩, _, rfl, Wt, _, _, rfl, rfl, hW5, lw, ?_⟩
        refine ⟨⟨_, ?_, ml2 ++ [r.2.2], wt2 ++ [r.2.2], rfl, same_mut (same_mut sH4 nM) nW0, ?_, ?_, by rw [List.length_append, List.length_append]; exact Nat.succ_le_succ wl4, nd5, sub5, fun s hs => ?_, fun s hs => ?_, _, _, _, rfl⟩, ?_⟩
        · rw [List.length_append, List.length_singleton, List.length_append, List.length_singleton]
          omega
        · rw [upd_ne nMW, upd_same, put_met hin]
        · rw [upd_same, List.map_append]
          rfl
        · rcases List.mem_append.mp hs with h | h
          · exact pm4 s h
          · rw [List.mem_singleton.mp h]
            exact hR5
        · rcases List.mem_append.mp hs with h | h
          · exact pw4 s h
          · rw [List.mem_singleton.mp h]
            exact hR5
        · rw [upd_ne lW, upd_ne lM]
          exact hl4
end
end Kn

end
section
set_option maxHeartbeats 4000000
/-! Machine.__init__, start, fault_names, fit_faults, check_sizes. -/
namespace Kn
open PySem PySem.Spec PyProof.Rows L2
theorem pfldK {X : Cx} {K : PySem.W.Frag} {e : Expr} {f : Str} {ta : TE} {pos : Pos} (he : PE X e ta) (hb : attributeBase e f X.env (eval e X.env) = eval e X.env := by rfl) (hK : X.K = K := by rfl) : PE X (.Attribute e f pos) (tFld K ta f) := hK ▸ pe_fld he hb
def wordsOf (rows : List Row) : List Str := insAll [] (rows.map (·.2.1))
theorem mem_words {rows : List Row} {x : Str} : x ∈ wordsOf rows ↔ ∃ r ∈ rows, r.2.1 = x := by
  unfold wordsOf
  rw [mem_insAll, List.mem_map]
  exact ⟨fun h => h.elim (fun z => nomatch z) id, .inr⟩
theorem words_nodup {rows : List Row} : (wordsOf rows).Nodup := insAll_nodup List.nodup_nil
theorem words_le {rows : List Row} : (wordsOf rows).length ≤ rows.length := by
  have := len_sub (a := wordsOf rows) (b := rows.map (·.2.1)) words_nodup fun z hz => (mem_insAll.mp hz).elim (fun q => nomatch q) id
  rw [List.length_map] at this
  exact this
theorem words_take {rows : List Row} {i : Nat} {r : Row} (h : rows[i]? = some r) : wordsOf (rows.take (i + 1)) = ins (wordsOf (rows.take i)) r.2.1 := by
  unfold wordsOf
  rw [take_snoc h, List.map_append]
  exact insAll_snoc
theorem SameX.self {d : Addr} {H H' : Hp} {o : HO} (s : SameX d H H') : SameX d H (upd H' d o) := fun b x e n => by
  rw [upd_ne n]
  exact s b x e n
theorem SameX.same {d : Addr} {H H1 H2 : Hp} (s : SameX d H H1) (t : Same H1 H2) : SameX d H H2 := fun b x e n => t _ _ (s b x e n)
theorem SameX.refl (d : Addr) (H : Hp) : SameX d H H := fun _ _ e _ => e
theorem SameX.free {d : Addr} {H H1 : Hp} {p : Addr} (s : SameX d H H1) (h : H1 p = none) (n : p ≠ d) : H p = none := by
  cases e : H p with
  | none => rfl
  | some o => rw [s _ _ e n] at h; cases h
theorem rows_sameX {d : Addr} {H H1 : Hp} {u : HO} {ts : List Addr} {rows : List Row} (s : SameX d H H1) (hd : H d = some u) (n : ∀ xs, u ≠ .tup xs) (h : Paired (RowAt H) ts rows) : Paired (RowAt H1) ts rows := Paired.mapP h fun a r z => s _ _ z (fun e => by
  have q : H a = some (.tup _) := z
  rw [e, hd] at q
  exact n _ (Option.some.inj q))
theorem tabOf_len {wl : List Str} {ft : Tab} (hn : wl.Nodup) : (tabOf wl ft).length ≤ ft.length := by
  have h1 : ((tabOf wl ft).map (·.1)).Nodup := by
    rw [tabOf_keys]
    exact hn.filter _
  have h2 := len_sub (b := ft.map (·.1)) h1 fun z hz => by
    rw [tabOf_keys, List.mem_filter] at hz
    cases e : look ft z with
    | none => rw [e] at hz; exact nomatch hz.2
    | some y => exact List.mem_map.mpr ⟨_, look_mem e, rfl⟩
  rw [List.length_map, List.length_map] at h2
  exact h2
theorem tabOf_mem {wl : List Str} {ft : Tab} {p : Str × Str} (h : p ∈ tabOf wl ft) : p ∈ ft := by
  obtain ⟨x, hx, e⟩ := List.mem_filterMap.mp h
  cases e2 : look ft x with
  | none => rw [e2] at e; exact nomatch (show (none : Option (Str × Str)) = some p from e)
  | some y =>
    rw [e2] at e
    obtain rfl : (x, y) = p := Option.some.inj e
    exact look_mem e2
/-- few words -/
def Few14 (rows : List Row) : Prop := ∃ ws : List Str, ws.length ≤ 14 ∧ ∀ r ∈ rows, r.2.1 ∈ ws
theorem Few14.le {rows : List Row} (h : Few14 rows) : (wordsOf rows).length ≤ 14 := by
  obtain ⟨ws, h1, h2⟩ := h
  exact Nat.le_trans (len_sub words_nodup fun z hz => by obtain ⟨r, hr, rfl⟩ := mem_words.mp hz; exact h2 r hr) h1

theorem sc_MachineInit : FnScope ["self", "start", "steps", "faults", "rows", "words", "state", "row"] ["self", "start", "steps", "faults"] (defScope sMachineInit) := ⟨rfl, rfl, rfl, by decide +kernel, rfl, by decide +kernel, by decide +kernel⟩
theorem sc_MachineStart : FnScope ["self"] ["self"] (defScope sMachineStart) := ⟨rfl, rfl, rfl, by decide +kernel, rfl, by decide +kernel, by decide +kernel⟩
theorem sc_MachineFaultNames : FnScope ["self", "name"] ["self"] (defScope sMachineFaultNames) := ⟨rfl, rfl, rfl, by decide +kernel, rfl, by decide +kernel, by decide +kernel⟩
theorem sc_FitFaults : FnScope ["rows", "table", "words", "word", "row"] ["rows", "table"] (defScope sFitFaults) := ⟨rfl, rfl, rfl, by decide +kernel, rfl, by decide +kernel, by decide +kernel⟩
theorem sc_CheckSizes : FnScope ["rows", "many", "counts", "row"] ["rows", "many"] (defScope sCheckSizes) := ⟨rfl, rfl, rfl, by decide +kernel, rfl, by decide +kernel, by decide +kernel⟩
section
variable {P : Program} {w : World} {K : PySem.W.Frag} {mg : Str → Option Value} {base : Heap} {C : Addr}
def spMachineInit (C : Addr) : Sp := fun vs H Q _ => ∃ x start a d dx rows ft, vs = [.ref x, .int start, .ref a, .ref d] ∧ H x = some (.ins C dx []) ∧ 0 ≤ start ∧ start ≤ 99 ∧ RowsAt H a rows ∧ RowsOk rows ∧ Few14 rows ∧ H d = some (.dK (tabK ft)) ∧
  ft.length ≤ 3 ∧ (∀ p ∈ ft, NameOk p.1 ∧ NameOk p.2 ∧ ∃ r ∈ rows, r.2.1 = p.1) ∧ ∃ R : Int → Prop, R start ∧ (∀ r ∈ rows, R r.1 → R r.2.2) ∧ (∀ s, R s → ∃ r ∈ rows, r.1 = s) ∧
  ∀ H' wl, SameX x H H' → wl.Nodup → (∀ z, z ∈ wl ↔ ∃ r ∈ rows, r.2.1 = z) → MachAt C H' x ⟨start, rows, tabOf wl ft⟩ wl → Q .non H'
theorem ok_MachineInit {f : Addr} {fd : FuncData} (F : FunD K "__init__" "Machine.__init__" (defArgs sMachineInit) (defBody sMachineInit) (defScope sMachineInit) [.non] [] f fd) (T : Tx K mg) (TM : TxM K mg C) (C_is_state : Cal P w K mg base 5 "is_state" ["value"] spIsState) (C_checked_steps : Cal P w K mg base 5 "checked_steps" ["steps"] spCheckedSteps)
    (C_checked_faults : Cal P w K mg base 5 "checked_faults" ["faults", "words"] spCheckedFaults) (C_leaving_table : Cal P w K mg base 5 "leaving_table" ["rows"] spLeavingTable) (C_reached_states : Cal P w K mg base 5 "reached_states" ["start", "rows", "leaving"] spReachedStates) :
    FnOk P w K mg base CX0 6 f fd ["self", "start", "steps", "faults"] (spMachineInit C) := by
  refine F.ok sc_MachineInit (fun vs H Q E h => ?_) (fun cdv A outer s H vs Q E hr h => ?_)
  · obtain ⟨x, start, a, d, dx, rows, ft, rfl, _⟩ := h
    rfl
  · obtain ⟨x, start, a, d, dx, rows, ft, rfl, hx, h0, h1, ⟨ts, ha, hR⟩, OK, F14, hd, fl, fo, R, r0, rc, live, q⟩ := h
    have hu := hu_of hr
    have sl : (1000 : Nat) < sizeLine := by decide
    have nax : a ≠ x := ne_of ha hx (by intro z; cases z)
    have ndx : d ≠ x := ne_of hd hx (by intro z; cases z)
    suffices body : ∃ t, PSs (cxOf CX0 P w K mg base ["self", "start", "steps", "faults", "rows", "words", "state", "row"] "Machine.__init__" (defScope sMachineInit) f cdv A outer s H E).nox (defBody sMachineInit) t ∧ t { nx := fun _ H' => Q .non H', rt := Q } (L2.start ["self", "start", "steps", "faults", "rows", "words", "state", "row"] [.ref x, .int start, .ref a, .ref d]) H from let ⟨t, p, q⟩ := body; ⟨t, p.nox, q⟩
    refine ⟨_, (pss_cons (ps_if (pt_not (pt_val (pc C_is_state hr (pa_cons (pv 1) pa_nil)))) pss_never pss_nil)
        (pss_cons (ps_set (i := 4) sc_MachineInit.nd rfl (Or.inl rfl) (pc C_checked_steps hr (pa_cons (pv 2) pa_nil)))
        (pss_cons (ps_set (i := 5) sc_MachineInit.nd rfl (Or.inl rfl) (pe_callB (cr_sortedS rfl) (by rfl) T.sorted (by decide +kernel) (pa_cons (pe_scS rfl sc_MachineInit.nd (pi_list (pv 4)) (blkOk_by (own := [("row", 7)]) (N := ["self", "start", "steps", "faults", "rows", "words", "state", "row"]) (sc := defScope sMachineInit) (by decide +kernel)) (fun _ _ _ _ _ => (pg_name (i := 7) sc_MachineInit.nd rfl (Or.inl rfl))) (fun _ _ _ _ _ => pts_nil) (fun _ _ _ _ _ => (pe_ix (r := rIxT K) ix_tup (pv 7) pe_int (fun _ _ => rfl)))) pa_nil)))
        (pss_cons (ps_if (pt_cmpR op_gt (pe_callB call_len_seq (by rfl) T.len PySem.boot_len (pa_cons (pv 5) pa_nil)) (pgi T.MOST_WORDS) (nomark _)) pss_never pss_nil)
        (pss_cons (ps_fld (pv 0) (pv 1) rfl)
        (pss_cons (ps_fld (pv 0) (pv 4) rfl)
        (pss_cons (ps_fld (pv 0) (pv 5) rfl)
        (pss_cons (ps_fld (pv 0) (pc C_checked_faults hr (pa_cons (pv 3) (pa_cons (pv 5) pa_nil))) rfl)
        (pss_cons (ps_fld (pv 0) (pc C_leaving_table hr (pa_cons (pv 4) pa_nil)) rfl)
        (pss_cons (ps_fld (pv 0) (pc C_reached_states hr (pa_cons (pv 1) (pa_cons (pv 4) (pa_cons (pe_fld (pv 0) rfl) pa_nil)))) rfl)
        (pss_one (ps_for PassesOwn.never rfl (pi_list (pe_fld (pv 0) rfl)) (pg_name (i := 6) sc_MachineInit.nd rfl (Or.inl rfl))
        (pss_one (ps_if (pt_cmp (pc_dnotin hu (pv 6) (pe_fld (pv 0) rfl))) pss_never pss_nil)))))))))))))), ?_⟩
    refine ⟨_, rfl, start, rfl, h0, h1, true, rfl, iteF ?_⟩
    refine ⟨_, rfl, a, rows, ts, rfl, ha, hR, OK, fun H1 Rn s1 nR hRl => ?_⟩
    have hR1 := rows_tups (.of s1) hR
    refine ⟨_, rfl, Rn, rfl, ⟨_, SqL.of hRl⟩, fun Sn nS => ?_⟩
    refine cc_it (U := fun D => SetSO w D []) walk_list (fun i H' => Same H1 H' ∧ H' Sn = some (SetSO w Sn (wordsOf (rows.take i)))) ⟨same_new nS, upd_same⟩ (fun i H' _ h => SqL.of (h.1 _ _ hRl)) ?_ ?_
    · rintro i v H2 H3 hi ⟨s2, hS⟩ ⟨rfl, e1⟩
      obtain ⟨t, ht, rfl⟩ := map_ref e1
      obtain ⟨r, hr0, hRow⟩ := RowsAt.at (l := a) hR1 ht
      refine ⟨rfl, ?_⟩
      refine ⟨_, rfl, t, _, _, _, rfl, rfl, SqT.of (s2 _ _ hRow), atI_nat (j := 1) rfl, r.2.1, _, rfl, hS, ?_, ?_⟩
      · have h1 := words_le (rows := rows.take i)
        rw [List.length_take] at h1
        have h2 := OK.le
        show _ < 4096
        omega
      · exact ⟨same_mut s2 nS, by rw [upd_same, words_take hr0]; rfl⟩
    rintro H2 ⟨s2, hS⟩
    have hlt : (ts.map V.ref).length = rows.length := by rw [List.length_map]; exact Paired.length hR
    rw [hlt, List.take_length] at hS
    have w14 := F14.le
    refine ⟨Sn, _, rfl, hS, by omega, fun wl Wn pm _ nW => ?_⟩
    have nwl : wl.Nodup := pm.nodup_iff.mpr words_nodup
    have mwl : ∀ z, z ∈ wl ↔ ∃ r ∈ rows, r.2.1 = z := fun z => pm.mem_iff.trans mem_words
    have s02 : Same H H2 := s1.trans s2
    have s3 : Same H (upd H2 Wn (.lst (wl.map V.str))) := same_add s02 nW
    have hRl3 := same_new (o := .lst (wl.map V.str)) nW _ _ (s2 _ _ hRl)
    have nW0 := s02.free nW
    have hW3 : (upd H2 Wn (.lst (wl.map V.str))) Wn = some (.lst (wl.map V.str)) := upd_same
    generalize upd H2 Wn (.lst (wl.map V.str)) = H3 at s3 hRl3 hW3
    have wl14 : wl.length ≤ 14 := by rw [pm.length_eq]; exact w14
    refine ⟨_, rfl, Wn, _, rfl, .inl (SqL.of hW3), _, _, rfl, rfl, _, rfl, ?_⟩
    have e14 : decide ((14 : Int) < ((wl.map V.str).length : Int)) = false := decide_eq_false (by rw [List.length_map]; omega)
    rw [e14]
    refine iteF ?_
    have nRx : Rn ≠ x := fun z => by rw [z, hx] at nR; cases nR
    have nWx : Wn ≠ x := fun z => by rw [z, hx] at nW0; cases nW0
    refine ⟨_, rfl, _, rfl, x, C, dx, _, rfl, s3 _ _ hx, TM.x.cl, TM.n1, Nat.le_of_ble_eq_true rfl, ?_⟩
    refine ⟨_, rfl, _, rfl, x, C, dx, _, rfl, upd_same, TM.x.cl, TM.n2, Nat.le_of_ble_eq_true rfl, ?_⟩
    refine ⟨_, rfl, _, rfl, x, C, dx, _, rfl, upd_same, TM.x.cl, TM.n3, Nat.le_of_ble_eq_true rfl, ?_⟩
    rw [upd_upd, upd_upd]
    have s4 : SameX x H (upd H3 x (.ins C dx (putF "word_list" (.ref Wn) (putF "step_rows" (.ref Rn) (putF "first_state" (.int start) []))))) := SameX.lock s3
    have hx4 : (upd H3 x (.ins C dx (putF "word_list" (.ref Wn) (putF "step_rows" (.ref Rn) (putF "first_state" (.int start) []))))) x = some _ := upd_same
    have hRl4 := up_ne (o := .lst (ts.map V.ref)) (u := .ins C dx (putF "word_list" (.ref Wn) (putF "step_rows" (.ref Rn) (putF "first_state" (.int start) [])))) hRl3 nRx
    have hW4 := up_ne (u := .ins C dx (putF "word_list" (.ref Wn) (putF "step_rows" (.ref Rn) (putF "first_state" (.int start) [])))) hW3 nWx
    generalize upd H3 x (.ins C dx (putF "word_list" (.ref Wn) (putF "step_rows" (.ref Rn) (putF "first_state" (.int start) [])))) = H4 at s4 hx4 hRl4 hW4
    have hd4 := s4 _ _ hd ndx
    refine ⟨_, rfl, _, rfl, d, Wn, ft, wl, rfl, hd4, hW4, nwl, by omega, ⟨fl, fun p hp => let ⟨z1, z2, z3⟩ := fo p hp; ⟨z1, z2, (mwl _).mpr z3⟩⟩, fun H5 Fn s5 nF hF => ?_⟩
    have nFx : Fn ≠ x := fun z => by rw [z, hx4] at nF; cases nF
    refine ⟨_, rfl, x, C, dx, _, rfl, s5 _ _ hx4, TM.x.cl, TM.n4, Nat.le_of_ble_eq_true rfl, ?_⟩
    generalize hfs : putF "word_list" (V.ref Wn) (putF "step_rows" (V.ref Rn) (putF "first_state" (V.int start) [])) = fs0 at hx4 ⊢
    have s6 : SameX x H (upd H5 x (.ins C dx (putF "fault_table" (.ref Fn) fs0))) := (s4.same s5).self
    have hx6 : (upd H5 x (.ins C dx (putF "fault_table" (.ref Fn) fs0))) x = some _ := upd_same
    have hRl6 := up_ne (u := .ins C dx (putF "fault_table" (.ref Fn) fs0)) (s5 _ _ hRl4) nRx
    have hW6 := up_ne (u := .ins C dx (putF "fault_table" (.ref Fn) fs0)) (s5 _ _ hW4) nWx
    have hF6 := up_ne (u := .ins C dx (putF "fault_table" (.ref Fn) fs0)) hF nFx
    generalize upd H5 x (.ins C dx (putF "fault_table" (.ref Fn) fs0)) = H6 at s6 hx6 hRl6 hW6 hF6
    have hR6 := rows_sameX s6 hx (fun xs z => nomatch z) hR
    have le80 := OK.le
    refine ⟨_, rfl, Rn, rows, rfl, ⟨ts, hRl6, hR6⟩, by omega, fun H7 Ln lv s7 nL hL hlv => ?_⟩
    have nLx : Ln ≠ x := fun z => by rw [z, hx6] at nL; cases nL
    refine ⟨_, rfl, x, C, dx, _, rfl, s7 _ _ hx6, TM.x.cl, TM.n5, by rw [← hfs]; exact Nat.le_of_ble_eq_true rfl, ?_⟩
    have s8 : SameX x H (upd H7 x (.ins C dx (putF "leaving" (.ref Ln) (putF "fault_table" (.ref Fn) fs0)))) := (s6.same s7).self
    have hx8 : (upd H7 x (.ins C dx (putF "leaving" (.ref Ln) (putF "fault_table" (.ref Fn) fs0)))) x = some _ := upd_same
    have hRl8 := up_ne (u := .ins C dx (putF "leaving" (.ref Ln) (putF "fault_table" (.ref Fn) fs0))) (s7 _ _ hRl6) nRx
    have hW8 := up_ne (u := .ins C dx (putF "leaving" (.ref Ln) (putF "fault_table" (.ref Fn) fs0))) (s7 _ _ hW6) nWx
    have hF8 := up_ne (u := .ins C dx (putF "leaving" (.ref Ln) (putF "fault_table" (.ref Fn) fs0))) (s7 _ _ hF6) nFx
    have hL8 := up_ne (u := .ins C dx (putF "leaving" (.ref Ln) (putF "fault_table" (.ref Fn) fs0))) hL nLx
    have hlv8 : ∀ s, LvAt (upd H7 x (.ins C dx (putF "leaving" (.ref Ln) (putF "fault_table" (.ref Fn) fs0)))) lv (nums rows s) s := fun s => by
      rcases hlv s with h | ⟨l, h1, h2⟩
      · exact .inl h
      · exact .inr ⟨l, h1, up_ne h2 (fun z => by rw [z] at h2; have q := s7 _ _ hx6; rw [h2] at q; cases q)⟩
    generalize upd H7 x (.ins C dx (putF "leaving" (.ref Ln) (putF "fault_table" (.ref Fn) fs0))) = H8 at s8 hx8 hRl8 hW8 hF8 hL8 hlv8
    have hR8 := rows_sameX s8 hx (fun xs z => nomatch z) hR
    refine ⟨_, rfl, _, rfl, _, rfl, x, C, dx, _, _, rfl, hx8, TM.x.cl, TM.n5, by rw [← hfs]; rfl, start, Rn, rows, Ln, lv, rfl, ⟨ts, hRl8, hR8⟩, by omega, hL8, hlv8, R, r0, rc, fun H9 Mn L s9 nM hM hLR => ?_⟩
    have nMx : Mn ≠ x := fun z => by rw [z, hx8] at nM; cases nM
    refine ⟨_, rfl, x, C, dx, _, rfl, s9 _ _ hx8, TM.x.cl, TM.n6, by rw [← hfs]; exact Nat.le_of_ble_eq_true rfl, ?_⟩
    generalize hf3 : putF "met_states" (V.ref Mn) (putF "leaving" (V.ref Ln) (putF "fault_table" (V.ref Fn) fs0)) = fs3
    have sA : SameX x H (upd H9 x (.ins C dx fs3)) := (s8.same s9).self
    have hxA : (upd H9 x (.ins C dx fs3)) x = some _ := upd_same
    have hRlA := up_ne (u := .ins C dx fs3) (s9 _ _ hRl8) nRx
    have hWA := up_ne (u := .ins C dx fs3) (s9 _ _ hW8) nWx
    have hFA := up_ne (u := .ins C dx fs3) (s9 _ _ hF8) nFx
    have hLA := up_ne (u := .ins C dx fs3) (s9 _ _ hL8) nLx
    have hMA := up_ne (u := .ins C dx fs3) hM nMx
    have hlvA : ∀ s, LvAt (upd H9 x (.ins C dx fs3)) lv (nums rows s) s := fun s => by
      rcases hlv8 s with h | ⟨l, h1, h2⟩
      · exact .inl h
      · exact .inr ⟨l, h1, up_ne (s9 _ _ h2) (fun z => by rw [z] at h2; rw [h2] at hx8; cases hx8)⟩
    generalize upd H9 x (.ins C dx fs3) = HA at sA hxA hRlA hWA hFA hLA hMA hlvA
    have hRA := rows_sameX sA hx (fun xs z => nomatch z) hR
    subst hfs
    subst hf3
    refine ⟨_, rfl, x, C, dx, _, _, rfl, hxA, TM.x.cl, TM.n6, rfl, Mn, rfl, ⟨_, SqL.of hMA⟩, ?_⟩
    refine for_it walk_list (fun i σ H' => H' = HA ∧ ∃ y z, σ = [some (.ref x), some (.int start), some (.ref a), some (.ref d), some (.ref Rn), some (.ref Wn), y, z]) ⟨rfl, _, _, rfl⟩ (fun i σ H' _ h => by rw [h.1]; exact SqL.of hMA) ?_ ?_
    · rintro i v σ H' H'' hi ⟨rfl, y, z, rfl⟩ ⟨rfl, e1⟩
      rw [List.getElem?_map] at e1
      obtain ⟨s0, hs0, rfl⟩ : ∃ s0, L[i]? = some s0 ∧ v = .int s0 := by
        cases e : L[i]? with
        | none => rw [e] at e1; exact nomatch (show (none : Option V) = some v from e1)
        | some t => rw [e] at e1; exact ⟨t, rfl, (Option.some.inj (show some (V.int t) = some v from e1)).symm⟩
      obtain ⟨r, hr0, hs⟩ := live s0 (hLR s0 (List.mem_of_getElem? hs0))
      refine ⟨_, rfl, _, rfl, x, C, dx, _, _, rfl, hxA, TM.x.cl, TM.n5, rfl, Ln, _, rfl, DGet.k (k := Sum.inl s0) hLA, _, rfl, ?_⟩
      obtain ⟨j, hj⟩ := List.mem_iff_getElem?.mp hr0
      have mj : j ∈ nums rows s0 := mem_nums.mpr ⟨r, hj, hs⟩
      rcases hlvA s0 with ⟨_, e0⟩ | ⟨l, e2, _⟩
      · rw [e0] at mj
        cases mj
      · rw [e2]
        exact iteF ⟨rfl, _, _, rfl⟩
    · rintro σ H' ⟨rfl, y, z, rfl⟩
      exact q _ wl sA nwl mwl ⟨⟨dx, _, Rn, Wn, Fn, Ln, ts, lv⟩, ⟨hxA, rfl, rfl, hRlA, hRA, rfl, hWA, rfl, hFA, rfl, hLA, hlvA, rfl⟩⟩
def spMachineStart (C : Addr) : Sp := fun vs H Q _ => ∃ m M wl, vs = [.ref m] ∧ MachAt C H m M wl ∧ Q (.int M.start) H
theorem ok_MachineStart {f : Addr} {fd : FuncData} (F : FnP K "start" "Machine.start" sMachineStart [] f fd) (TM : TxM K mg C) : FnOk P w K mg base CX0 1 f fd ["self"] (spMachineStart C) := by
  refine mk_fn F sc_MachineStart (fun vs H Q E h => ?_) (fun cdv A outer s H vs Q E hr h => ?_)
  · obtain ⟨m, M, wl, rfl, _⟩ := h
    rfl
  · obtain ⟨m, M, wl, rfl, ⟨d, D⟩, q⟩ := h
    refine ⟨_, (pss_one (ps_ret (pe_fld (pv 0) rfl))), ?_⟩
    exact ⟨_, rfl, m, C, d.dx, d.fs, _, rfl, D.ob, TM.x.cl, TM.n1, D.f1, q⟩
def valsOf (ft : Tab) : List Str := insAll [] (ft.map (·.2))
theorem mem_vals {ft : Tab} {z : Str} : z ∈ valsOf ft ↔ ∃ p ∈ ft, p.2 = z := by
  unfold valsOf
  rw [mem_insAll, List.mem_map]
  exact ⟨fun h => h.elim (fun z => nomatch z) id, .inr⟩
theorem vals_le {ft : Tab} : (valsOf ft).length ≤ ft.length := by
  have := len_sub (a := valsOf ft) (b := ft.map (·.2)) (insAll_nodup List.nodup_nil) fun z hz => (mem_insAll.mp hz).elim (fun q => nomatch q) id
  rw [List.length_map] at this
  exact this
def spFaultNames (C : Addr) : Sp := fun vs H Q _ => ∃ m M wl, vs = [.ref m] ∧ MachAt C H m M wl ∧ M.ft.length ≤ 3 ∧ ∀ (H' : Hp) (p : Addr) (l : List Str), Same H H' → H p = none → H' p = some (.lst (l.map V.str)) → (∀ z, z ∈ l ↔ ∃ q ∈ M.ft, q.2 = z) → Q (.ref p) H'
theorem ok_MachineFaultNames {f : Addr} {fd : FuncData} (F : FnP K "fault_names" "Machine.fault_names" sMachineFaultNames [] f fd) (T : Tx K mg) (TM : TxM K mg C) : FnOk P w K mg base CX0 1 f fd ["self"] (spFaultNames C) := by
  refine mk_fn F sc_MachineFaultNames (fun vs H Q E h => ?_) (fun cdv A outer s H vs Q E hr h => ?_)
  · obtain ⟨m, M, wl, rfl, _⟩ := h
    rfl
  · obtain ⟨m, M, wl, rfl, ⟨d, D⟩, l3, q⟩ := h
    refine ⟨_, (pss_one (ps_ret (pe_lock (pe_callB (cr_sortedS rfl) (by rfl) T.sorted (by decide +kernel) (pa_cons (pe_scS rfl sc_MachineFaultNames.nd (pi_values (pe_fld (pv 0) rfl)) (blkOk_by (own := [("name", 1)]) (N := ["self", "name"]) (sc := defScope sMachineFaultNames) (by decide +kernel)) (fun _ _ _ _ _ => (pg_name (i := 1) sc_MachineFaultNames.nd rfl (Or.inl rfl))) (fun _ _ _ _ _ => pts_nil) (fun _ _ _ _ _ => (pv 1))) pa_nil))))), ?_⟩
    have nmf : m ≠ d.af := ne_of D.ob D.ft (by intro z; cases z)
    refine ⟨d.af, .dK (tabK M.ft), D.ft, trivial, fun od => ?_⟩
    refine ⟨_, rfl, m, C, d.dx, d.fs, _, rfl, by rw [upd_ne nmf]; exact D.ob, TM.x.cl, TM.n4, D.f4, d.af, od, _, rfl, upd_same, fun Sn nS => ?_⟩
    have nSf : Sn ≠ d.af := fun z => by rw [z, upd_same] at nS; cases nS
    have nS0 : H Sn = none := by rw [upd_ne nSf] at nS; exact nS
    refine cc_it (U := fun D => SetSO w D []) walk_values (fun i H' => SameX d.af H H' ∧ H' d.af = some (.frz od (.dK (tabK M.ft))) ∧ H' Sn = some (SetSO w Sn (valsOf (M.ft.take i)))) ⟨(SameX.lock (Same.refl H)).mut nS0, by rw [upd_ne (Ne.symm nSf)]; exact upd_same, upd_same⟩ (fun i H' _ h => h.2.1) ?_ ?_
    · rintro i v H2 H3 hi ⟨s2, hD, hS⟩ ⟨rfl, k, e1⟩
      have hi2 : i < M.ft.length := by rw [tabK, List.length_map] at hi; exact hi
      have hp : M.ft[i]? = some M.ft[i] := List.getElem?_eq_getElem hi2
      generalize M.ft[i] = p at hp
      have ek : (tabK M.ft)[i]? = some (Sum.inr p.1, V.str p.2) := by unfold tabK; rw [List.getElem?_map, hp]; rfl
      rw [ek] at e1
      cases e1
      refine ⟨rfl, ?_⟩
      refine ⟨_, rfl, p.2, _, rfl, hS, ?_, ?_⟩
      · have h1 := vals_le (ft := M.ft.take i)
        rw [List.length_take] at h1
        show _ < 4096
        omega
      · refine ⟨s2.mut nS0, by rw [upd_ne (Ne.symm nSf)]; exact hD, ?_⟩
        rw [upd_same]
        unfold valsOf
        rw [take_snoc hp, List.map_append]
        have e := insAll_snoc (xs := (M.ft.take i).map (·.2)) (l := []) (y := p.2)
        rw [show List.map (fun x : Str × Str => x.2) [p] = [p.2] from rfl, e]
        rfl
    · rintro H2 ⟨s2, hD, hS⟩
      have el : (tabK M.ft).length = M.ft.length := by rw [tabK, List.length_map]
      rw [el, List.take_length] at hS
      have vl := vals_le (ft := M.ft)
      refine ⟨Sn, _, rfl, hS, by omega, fun l p pm _ np => ⟨up_new hD np, ?_⟩⟩
      have npf : p ≠ d.af := fun z => by rw [z, hD] at np; cases np
      refine q _ p l ((s2.add np).back D.ft) (s2.free np npf) (by rw [upd_ne npf]; exact upd_same) fun z => pm.mem_iff.trans mem_vals
def spFitFaults : Sp := fun vs H Q _ => ∃ a d rows ft, vs = [.ref a, .ref d] ∧ RowsAt H a rows ∧ rows.length ≤ 80 ∧ Few14 rows ∧ H d = some (.dK (tabK ft)) ∧ ∀ (H' : Hp) (p : Addr) (wl : List Str), Same H H' → H p = none → wl.Nodup → (∀ z, z ∈ wl ↔ ∃ r ∈ rows, r.2.1 = z) → H' p = some (.dK (tabK (tabOf wl ft))) → Q (.ref p) H'
theorem ok_FitFaults {f : Addr} {fd : FuncData} (F : FnP K "fit_faults" "fit_faults" sFitFaults [] f fd) (T : Tx K mg) : FnOk P w K mg base CX0 1 f fd ["rows", "table"] spFitFaults := by
  refine mk_fn F sc_FitFaults (fun vs H Q E h => ?_) (fun cdv A outer s H vs Q E hr h => ?_)
  · obtain ⟨a, d, rows, ft, rfl, _⟩ := h
    rfl
  · obtain ⟨a, d, rows, ft, rfl, ⟨ts, ha, hR⟩, le, F14, hd, q⟩ := h
    have hu := hu_of hr
    refine ⟨_, (pss_cons (ps_set (i := 2) sc_FitFaults.nd rfl (Or.inl rfl) (pe_callB (cr_sortedS rfl) (by rfl) T.sorted (by decide +kernel) (pa_cons (pe_scS rfl sc_FitFaults.nd (pi_list (pv 0)) (blkOk_by (own := [("row", 4)]) (N := ["rows", "table", "words", "word", "row"]) (sc := defScope sFitFaults) (by decide +kernel)) (fun _ _ _ _ _ => (pg_name (i := 4) sc_FitFaults.nd rfl (Or.inl rfl))) (fun _ _ _ _ _ => pts_nil) (fun _ _ _ _ _ => (pe_ix (r := rIxT K) ix_tup (pv 4) pe_int (fun _ _ => rfl)))) pa_nil)))
        (pss_one (ps_ret (pe_dcK rfl sc_FitFaults.nd (pi_list (pv 2)) (blkOk_by (own := [("word", 3)]) (N := ["rows", "table", "words", "word", "row"]) (sc := defScope sFitFaults) (by decide +kernel)) (fun _ _ _ _ _ => (pg_name (i := 3) sc_FitFaults.nd rfl (Or.inl rfl))) (fun _ _ _ _ _ => pts_one (pt_cmp (pc_din hu (pv 3) (pv 1)))) (fun _ _ _ _ _ => (pv 3)) (fun _ _ _ _ _ => (pe_dget hu (pv 1) (pv 3) (fun _ _ => rfl))))))), ?_⟩
    refine ⟨_, rfl, a, rfl, ⟨_, SqL.of ha⟩, fun Sn nS => ?_⟩
    refine cc_it (U := fun D => SetSO w D []) walk_list (fun i H' => Same H H' ∧ H' Sn = some (SetSO w Sn (wordsOf (rows.take i)))) ⟨same_new nS, upd_same⟩ (fun i H' _ h => SqL.of (h.1 _ _ ha)) ?_ ?_
    · rintro i v H2 H3 hi ⟨s2, hS⟩ ⟨rfl, e1⟩
      obtain ⟨t, ht, rfl⟩ := map_ref e1
      obtain ⟨r, hr0, hRow⟩ := RowsAt.at (l := a) hR ht
      refine ⟨rfl, ?_⟩
      refine ⟨_, rfl, t, _, _, _, rfl, rfl, SqT.of (s2 _ _ hRow), atI_nat (j := 1) rfl, r.2.1, _, rfl, hS, ?_, ?_⟩
      · have h1 := words_le (rows := rows.take i)
        rw [List.length_take] at h1
        show _ < 4096
        omega
      · exact ⟨same_mut s2 nS, by rw [upd_same, words_take hr0]; rfl⟩
    rintro H2 ⟨s2, hS⟩
    have hlt : (ts.map V.ref).length = rows.length := by rw [List.length_map]; exact Paired.length hR
    rw [hlt, List.take_length] at hS
    have w14 := F14.le
    refine ⟨Sn, _, rfl, hS, by omega, fun wl Wn pm _ nW => ?_⟩
    have nd : wl.Nodup := pm.nodup_iff.mpr words_nodup
    have mwl : ∀ z, z ∈ wl ↔ ∃ r ∈ rows, r.2.1 = z := fun z => pm.mem_iff.trans mem_words
    have s3 : Same H (upd H2 Wn (.lst (wl.map V.str))) := same_add s2 nW
    have hW3 : (upd H2 Wn (.lst (wl.map V.str))) Wn = some (.lst (wl.map V.str)) := upd_same
    generalize upd H2 Wn (.lst (wl.map V.str)) = H3 at s3 hW3
    have wl14 : wl.length ≤ 14 := by rw [pm.length_eq]; exact w14
    have hd3 := s3 _ _ hd
    refine ⟨_, rfl, Wn, rfl, ⟨_, SqL.of hW3⟩, fun Dn nD => ?_⟩
    refine cc_it (U := fun _ => .dK []) walk_list (fun i H' => Same H3 H' ∧ H' Dn = some (.dK (tabK (tabOf (wl.take i) ft)))) ⟨same_new nD, upd_same⟩ (fun i H' _ h => SqL.of (h.1 _ _ hW3)) ?_ ?_
    · rintro i v H4 H5 hi ⟨s4, hDn⟩ ⟨rfl, h1⟩
      obtain ⟨z, hz, rfl⟩ := map_str h1
      refine ⟨rfl, _, rfl, _, rfl, d, _, rfl, DGet.k (k := Sum.inr z) (s4 _ _ hd3), _, rfl, ?_⟩
      rw [valV_tab]
      have et := tabOf_take (ft := ft) hz
      cases e : look ft z with
      | none =>
        rw [e] at et
        refine iteF ⟨s4, ?_⟩
        rw [hDn, et, List.append_nil]
      | some y =>
        rw [e] at et
        refine iteT ⟨_, rfl, _, rfl, _, rfl, d, _, rfl, dget_k (k := Sum.inr z) (s4 _ _ hd3) (by rw [valV_tab, e]; rfl), _, .inr z, rfl, hDn, ?_, ?_⟩
        · have h1 : (tabK (tabOf (wl.take i) ft)).length ≤ wl.length := by
            unfold tabK tabOf
            rw [List.length_map]
            refine Nat.le_trans (List.length_filterMap_le _ _) ?_
            rw [List.length_take]
            omega
          have sl : (100 : Nat) < sizeLine := by decide
          omega
        · have hnot : ¬ z ∈ (tabOf (wl.take i) ft).map (·.1) := fun q => by
            rw [tabOf_keys, List.mem_filter] at q
            obtain ⟨j, hj, ej⟩ := List.getElem_of_mem q.1
            rw [List.length_take] at hj
            rw [List.getElem_take] at ej
            have e2 : wl[j]? = wl[i]? := by rw [hz, ← ej, List.getElem?_eq_getElem]
            have := (List.getElem?_inj (by omega) nd).mp e2
            omega
          refine ⟨same_mut s4 nD, ?_⟩
          rw [upd_same, put_tab hnot, et]
    · rintro H4 ⟨s4, hDn⟩
      refine q _ _ wl (s3.trans s4) (s3.free nD) nd mwl ?_
      rw [hDn, List.length_map, List.take_length]
theorem mem_putK {kvs : List (Key × V)} {k : Key} {v : V} {p : Key × V} (h : p ∈ putK kvs k v) : p ∈ kvs ∨ p.2 = v := by
  unfold putK at h
  split at h
  · obtain ⟨q, hq, rfl⟩ := List.mem_map.mp h
    split
    · exact .inr rfl
    · exact .inl hq
  · rcases List.mem_append.mp h with h | h
    · exact .inl h
    · rw [List.mem_singleton.mp h]
      exact .inr rfl
theorem nats_of : ∀ {kvs : List (Key × V)}, (∀ p ∈ kvs, ∃ n : Nat, p.2 = natV n ∧ n ≤ 8) → ∃ ns : List Int, kvs.map (·.2) = ns.map V.int ∧ ∀ n ∈ ns, n ≤ 8
  | [], _ => ⟨[], rfl, fun _ h => nomatch h⟩
  | p :: kvs, h => by
    obtain ⟨ns, h1, h2⟩ := nats_of (kvs := kvs) fun q hq => h q (List.mem_cons_of_mem _ hq)
    obtain ⟨n, e, l⟩ := h p List.mem_cons_self
    refine ⟨(n : Int) :: ns, by rw [List.map_cons, List.map_cons, h1, e], fun m hm => ?_⟩
    rcases List.mem_cons.mp hm with z | z
    · omega
    · exact h2 m z
def spCheckSizes : Sp := fun vs H Q _ => ∃ (a : Addr) (rows : List Row) (many : Nat), vs = [.ref a, natV many] ∧ RowsAt H a rows ∧ rows ≠ [] ∧ rows.length ≤ 80 ∧ many ≤ 100 ∧ (∀ s, cnt rows s ≤ 8) ∧ Few14 rows ∧ ∀ H', Same H H' → Q .non H'
theorem ok_CheckSizes {f : Addr} {fd : FuncData} (F : FnP K "check_sizes" "check_sizes" sCheckSizes [] f fd) (T : Tx K mg) : FnOk P w K mg base CX0 1 f fd ["rows", "many"] spCheckSizes := by
  refine mk_fn F sc_CheckSizes (fun vs H Q E h => ?_) (fun cdv A outer s H vs Q E hr h => ?_)
  · obtain ⟨a, rows, many, rfl, _⟩ := h
    rfl
  · obtain ⟨a, rows, many, rfl, ⟨ts, ha, hR⟩, ne, le, m100, c8, F14, q⟩ := h
    have hu := hu_of hr
    have sl : (1000 : Nat) < sizeLine := by decide
    refine ⟨_, (pss_cons (ps_if (pt_cmpR op_gt (pv 1) (pgi T.MOST_PAIRS) (nomark _)) pss_never pss_nil)
        (pss_cons (ps_set (i := 2) sc_CheckSizes.nd rfl (Or.inl rfl) pe_dnewK)
        (pss_cons (ps_for PassesOwn.never rfl (pi_list (pv 0)) (pg_name (i := 3) sc_CheckSizes.nd rfl (Or.inl rfl))
        (pss_one (ps_dput hu (pv 2) (pe_ix ix_tup (pv 3) pe_int (fun _ _ => rfl)) (pe_op op_add (pe_dget2 hu (pv 2) (pe_ix ix_tup (pv 3) pe_int (fun _ _ => rfl)) pe_int ⟨rfl, rfl, rfl, rfl⟩) pe_int) rfl)))
        (pss_cons (ps_if (PW.pt (pw_and (pt_truth (pv 0) (fun _ => rfl)) (pw_and1 (pt_cmpR op_gt (pe_callB (cr_max rfl) (by rfl) T.max (by decide +kernel) (pa_cons (pe_callTy (call_list_vals rfl) (by rfl) T.list (by decide +kernel) (pa_cons (pe_vals (pv 2)) pa_nil)) pa_nil)) (pgi T.MOST_FROM) (nomark _))))) pss_never pss_nil)
        (pss_cons (ps_if (pt_cmpR op_gt (pe_callB call_len_seq (by rfl) T.len PySem.boot_len (pa_cons (pv 0) pa_nil)) (pgi T.MOST_STEPS) (nomark _)) pss_never pss_nil)
        (pss_one (ps_if (pt_cmpR op_gt (pe_lenS rfl T.len T.set (pe_lc rfl sc_CheckSizes.nd (pi_list (pv 0)) (blkOk_by (own := [("row", 3)]) (N := ["rows", "many", "counts", "row"]) (sc := defScope sCheckSizes) (by decide +kernel)) (fun _ _ _ _ _ => (pg_name (i := 3) sc_CheckSizes.nd rfl (Or.inl rfl))) (fun _ _ _ _ _ => pts_nil) (fun _ _ _ _ _ => (pe_ix (r := rIxT K) ix_tup (pv 3) pe_int (fun _ _ => rfl))))) (pgi T.MOST_WORDS) (nomark _)) pss_never pss_nil))))))), ?_⟩
    have ll : (ts.map V.ref).length = rows.length := by rw [List.length_map]; exact Paired.length hR
    refine ⟨_, rfl, _, _, rfl, rfl, _, rfl, ?_⟩
    rw [decide_eq_false (show ¬ (100 : Int) < ((many : Nat) : Int) by omega)]
    refine iteF ?_
    intro Cn nC
    refine ⟨_, rfl, a, rfl, ⟨_, SqL.of (up_new ha nC)⟩, ?_⟩
    refine for_it walk_list (fun i σ H' => Same H H' ∧ (∃ kvs, H' Cn = some (.dK kvs) ∧ kvs.length ≤ i ∧ (kvs = [] → i = 0) ∧ CntD kvs (rows.take i) ∧ ∀ p ∈ kvs, ∃ n : Nat, p.2 = natV n ∧ n ≤ 8) ∧ ∃ y, σ = [some (.ref a), some (natV many), some (.ref Cn), y])
      ⟨same_new nC, ⟨[], upd_same, Nat.le_refl _, fun _ => rfl, cntD_nil, fun p h => nomatch h⟩, _, rfl⟩ (fun i σ H' _ h => SqL.of (h.1 _ _ ha)) ?_ ?_
    · rintro i v σ H1 H2 hi ⟨sH, ⟨kvs, hC, hk, _, cn, en⟩, y, rfl⟩ ⟨rfl, e1⟩
      obtain ⟨t, ht, rfl⟩ := map_ref e1
      obtain ⟨r, hr0, hRow⟩ := RowsAt.at (l := a) hR ht
      have hRow1 := sH _ _ hRow
      refine ⟨_, rfl, Cn, rfl, .inl ⟨_, .inl hC⟩, _, rfl, t, _, _, _, rfl, rfl, SqT.of hRow1, atI_nat (j := 0) rfl, _, DGet.k (k := Sum.inl r.1) hC, ?_⟩
      rw [cn r.1]
      have hi2 : i < rows.length := (List.getElem?_eq_some_iff.mp hr0).1
      refine ⟨_, _, rfl, rfl, _, rfl, _, rfl, t, _, _, _, rfl, rfl, SqT.of hRow1, atI_nat (j := 0) rfl, Cn, _, rfl, DPut.k (k := Sum.inl r.1) hC (by omega), ?_⟩
      have hCn2 := cn.snoc (r := r)
      rw [← take_snoc hr0] at hCn2
      refine ⟨same_mut sH nC, ⟨_, upd_same, Nat.le_trans (length_putK _ _ _) (Nat.succ_le_succ hk), fun e => ?_, hCn2, fun p hp => ?_⟩, _, rfl⟩
      · have z := valV_put_same (kvs := kvs) (k := .inl r.1) (v := .int ((cnt (rows.take i) r.1 : Nat) + 1))
        have e' : putK kvs (.inl r.1) (.int ((cnt (rows.take i) r.1 : Nat) + 1)) = [] := e
        rw [e'] at z
        cases z
      · rcases mem_putK hp with h | h
        · exact en p h
        · refine ⟨cnt (rows.take i) r.1 + 1, h, ?_⟩
          have c9 : cnt (rows.take (i + 1)) r.1 ≤ 8 := Nat.le_trans cnt_take (c8 _)
          rw [take_snoc hr0, cnt_snoc, if_pos rfl] at c9
          exact c9
    · rintro σ H1 ⟨sH, ⟨kvs, hC, hk, hne, cn, en⟩, y, rfl⟩
      have ha1 := sH _ _ ha
      have lp : 0 < rows.length := List.length_pos_iff.mpr ne
      have et : (!(ts.map V.ref).isEmpty) = true := by
        cases h : ts.map V.ref with
        | nil => rw [h, List.length_nil] at ll; omega
        | cons _ _ => rfl
      refine ⟨_, rfl, _, .inl ⟨_, SqL.of ha1, rfl⟩, ?_⟩
      rw [et]
      refine iteT ?_
      obtain ⟨ns, hns, n8⟩ := nats_of en
      refine ⟨_, rfl, Cn, rfl, ⟨_, .inl ⟨_, hC, rfl⟩⟩, fun v nv => ?_⟩
      have s2 : Same H (upd H1 v (VwO v Cn)) := same_add sH nv
      refine ⟨v, Cn, kvs.map (·.2), rfl, upd_same, .inl ⟨_, up_new hC nv, rfl⟩, fun p np => ?_⟩
      have s3 := same_add (o := .lst (kvs.map (·.2))) s2 np
      refine ⟨p, ns, rfl, SqL.of (by rw [upd_same, hns]), ?_, fun m hm _ => ?_⟩
      · have e := congrArg List.length hns
        rw [List.length_map, List.length_map] at e
        rw [← e]
        rcases Nat.eq_zero_or_pos kvs.length with z | z
        · have := hne (List.length_eq_zero_iff.mp z)
          omega
        · exact z
      have m8 := n8 m hm
      refine ⟨_, _, rfl, rfl, _, rfl, ?_⟩
      rw [decide_eq_false (show ¬ (8 : Int) < m by omega)]
      refine iteF ?_
      generalize upd (upd H1 v (VwO v Cn)) p (.lst (kvs.map (·.2))) = H4 at s3
      have ha4 := s3 _ _ ha
      refine ⟨_, rfl, a, _, rfl, .inl (SqL.of ha4), _, _, rfl, rfl, _, rfl, ?_⟩
      rw [decide_eq_false (show ¬ (80 : Int) < ((ts.map V.ref).length : Int) by omega)]
      refine iteF ?_
      refine ⟨_, rfl, a, rfl, ⟨_, SqL.of ha4⟩, fun Dn nD => ?_⟩
      refine lc_it walk_list (fun i H' => Same H4 H' ∧ H' Dn = some (.lst ((rows.take i).map fun r => V.str r.2.1))) ⟨same_new nD, upd_same⟩ (fun i H' _ h => SqL.of (h.1 _ _ ha4)) ?_ ?_
      · rintro i v H5 H6 hi ⟨s5, hD⟩ ⟨rfl, e1⟩
        obtain ⟨t, ht, rfl⟩ := map_ref e1
        obtain ⟨r, hr0, hRow⟩ := RowsAt.at (l := a) hR ht
        refine ⟨rfl, ?_⟩
        refine ⟨_, rfl, t, _, _, _, rfl, rfl, SqT.of (s5 _ _ (s3 _ _ hRow)), atI_nat (j := 1) rfl, _, hD, ?_, same_mut s5 nD, ?_⟩
        · rw [List.length_map, List.length_take]
          omega
        · rw [upd_same, take_snoc hr0, List.map_append]
          rfl
      · rintro H5 ⟨s5, hD⟩
        rw [ll, List.take_length] at hD
        have w14 := F14.le
        have e2 : (rows.map fun r => V.str r.2.1) = (rows.map (·.2.1)).map V.str := by rw [List.map_map]; rfl
        rw [e2] at hD
        refine ⟨Dn, _, rfl, SqL.of hD, by rw [List.length_map]; show _ < 4096; omega, fun n hn => ?_⟩
        have hn' : n = (wordsOf rows).length := hn
        refine ⟨_, _, rfl, rfl, _, rfl, ?_⟩
        rw [decide_eq_false (show ¬ (14 : Int) < ((n : Nat) : Int) by omega)]
        exact iteF (q _ (s3.trans s5))
end
end Kn

end
section
set_option maxHeartbeats 4000000
/-! pair_moves, pair_steps, beside, check_fault. -/
namespace Kn
open PySem PySem.Spec PyProof.Rows L2
/-! ### properties, classes, methods as callees -/
structure CalP (P : Program) (w : World) (K : PySem.W.Frag) (mg : Str → Option Value) (base : Heap) (k : Nat) (C : Addr) (x : Str) (sp : Sp) : Prop where
  ex : ∃ j p f fd, j + 1 ≤ k ∧ PropOf K C x p f ∧ FnOk P w K mg base CX0 j f fd ["self"] sp ∧ Binds K fd ["self"] []
  cl : Cls K C
theorem CalP.mono {P : Program} {w : World} {K : PySem.W.Frag} {mg : Str → Option Value} {base : Heap} {j k : Nat} {C : Addr} {x : Str} {sp : Sp} (c : CalP P w K mg base j C x sp) (h : j ≤ k) : CalP P w K mg base k C x sp :=
  ⟨let ⟨i, p, f, fd, a, b⟩ := c.ex; ⟨i, p, f, fd, Nat.le_trans a h, b⟩, c.cl⟩
def tPr (C : Addr) (sp : Sp) (ta : TE) : TE := fun σ H Q => ta σ H fun x H1 => ∃ a dx fs, x = .ref a ∧ H1 a = some (.ins C dx fs) ∧ sp [.ref a] H1 Q E0
theorem ppr {X : Cx} {k : Nat} {C : Addr} {x : Str} {sp : Sp} {e : Expr} {ta : TE} {pos : Pos} (c : CalP X.prog X.w X.K X.mg X.base k C x sp) (hr : Room k X.A) (he : PE X e ta) (hab : attributeBase e x X.env (eval e X.env) = eval e X.env := by rfl) : PE X (.Attribute e x pos) (tPr C sp ta) := by
  obtain ⟨j, p, f, fd, hj, hp, F, hb⟩ := c.ex
  have q := pe_prop (pos := pos) he c.cl hp F (hr.mono hj) hb .nil pass0 hab
  exact q
structure CalC (P : Program) (w : World) (K : PySem.W.Frag) (mg : Str → Option Value) (base : Heap) (k : Nat) (C : Addr) (x : Str) (ps : List Str) (sp : Sp) : Prop where
  ex : ∃ j f fd, j + 1 ≤ k ∧ Mk K C f ∧ mg x = some (.ref C) ∧ FnOk P w K mg base CX0 j f fd ps sp ∧ Binds K fd ps []
theorem CalC.mono {P : Program} {w : World} {K : PySem.W.Frag} {mg : Str → Option Value} {base : Heap} {j k : Nat} {C : Addr} {x : Str} {ps : List Str} {sp : Sp} (c : CalC P w K mg base j C x ps sp) (h : j ≤ k) : CalC P w K mg base k C x ps sp :=
  ⟨let ⟨i, f, fd, a, b⟩ := c.ex; ⟨i, f, fd, Nat.le_trans a h, b⟩⟩
def tMk (C : Addr) (sp : Sp) (t : TA) : TE := fun σ H Q => t σ H fun vs H1 => ∀ x dx, H1 x = none → H1 dx = none → dx ≠ x → sp (.ref x :: vs) (upd (upd H1 dx (.own x)) x (.ins C dx [])) (fun v H2 => v = .non ∧ Q (.ref x) H2) E0
theorem pmk {X : Cx} {k : Nat} {C : Addr} {x : Str} {ps : List Str} {sp : Sp} {e : Expr} {es : List Expr} {t : TA} {p pos : Pos} (c : CalC X.prog X.w X.K X.mg X.base k C x ps sp) (hr : Room k X.A) (ha : PA X (e :: es) t) (hg : Gl X x := by rfl)
    (hdb : (x == ("__debug__" : Str)) = false := by decide) (he : starEach (e :: es) X.env = (false, eval e X.env) :: starEach es X.env := by rfl) (hpl : (backTo pos (starEach es X.env)).any (·.1) = false := by rfl) : PE X (.Call (.Name x p) (e :: es) [] pos) (tMk C sp t) := by
  obtain ⟨j, f, fd, hj, M, hm, F, hb⟩ := c.ex
  have q := pe_make (p := p) (pos := pos) M F (hr.mono hj) hg hm hb .nil pass0 ha hdb he hpl
  refine ⟨fun pins s σ H Q I h => q.run pins s σ H Q I ?_⟩
  have e1 : ∀ vs : List V, vs ++ [] = vs := List.append_nil
  show t σ H fun vs H1 => ∀ x dx, H1 x = none → H1 dx = none → dx ≠ x → sp (.ref x :: (vs ++ [])) (upd (upd H1 dx (.own x)) x (.ins C dx [])) (fun v H2 => v = .non ∧ Q (.ref x) H2) E0
  simp only [e1]
  exact h
/-! ### moves of two machines -/
def outs (rows : List Row) (s : Int) : List Row := rows.filter fun r => decide (r.1 = s)
theorem mem_outs {rows : List Row} {s : Int} {r : Row} : r ∈ outs rows s ↔ r ∈ rows ∧ r.1 = s := by
  unfold outs
  rw [List.mem_filter, decide_eq_true_eq]
theorem nums_rows (rows : List Row) (s : Int) : (nums rows s).filterMap (fun i => rows[i]?) = outs rows s := by
  have go : ∀ i, i ≤ rows.length → (nums (rows.take i) s).filterMap (fun i => rows[i]?) = outs (rows.take i) s := by
    intro i
    induction i with
    | zero => intro _; rfl
    | succ i ih =>
      intro hi
      have e : rows[i]? = some rows[i] := List.getElem?_eq_getElem hi
      rw [take_snoc e, nums_snoc, List.filterMap_append, ih (Nat.le_of_lt hi)]
      unfold outs
      rw [List.filter_append]
      congr 1
      rw [List.length_take, Nat.min_eq_left (Nat.le_of_lt hi), List.filter_cons]
      by_cases h : rows[i].1 = s
      · rw [if_pos h, decide_eq_true h, List.filterMap_cons, e]
        rfl
      · rw [if_neg h, decide_eq_false h]
        rfl
  have q := go rows.length (Nat.le_refl _)
  rw [List.take_length] at q
  exact q
theorem nums_le (rows : List Row) (s : Int) : (nums rows s).length ≤ rows.length := by
  unfold nums
  exact Nat.le_trans (List.length_filter_le _ _) (Nat.le_of_eq List.length_range)
abbrev PMv := Str × Int × Int
def pms (A B : Mach) (p q : Int) : List PMv := (outs A.rows p).map (fun r => (r.2.1, r.2.2, q)) ++ (outs B.rows q).map (fun r => (r.2.1, p, r.2.2))
def PMvAt (H : Hp) (a : Addr) (mv : PMv) : Prop := ∃ b, H a = some (.tup [.str mv.1, .ref b]) ∧ H b = some (.tup [.int mv.2.1, .int mv.2.2])
theorem PMvAt.tups {H H' : Hp} (s : Tups H H') {a : Addr} {m : PMv} (h : PMvAt H a m) : PMvAt H' a m := let ⟨b, h1, h2⟩ := h; ⟨b, s _ _ h1, s _ _ h2⟩
theorem map_nat {l : List Nat} {i : Nat} {x : V} (h : (l.map natV)[i]? = some x) : ∃ n, l[i]? = some n ∧ x = natV n := by
  rw [List.getElem?_map] at h
  cases e : l[i]? with
  | none => rw [e] at h; exact nomatch (show (none : Option V) = some x from h)
  | some t =>
    rw [e] at h
    exact ⟨t, rfl, (Option.some.inj (show some (natV t) = some x from h)).symm⟩

structure Fin3 (M : Mach) (S : List Int) : Prop where
  len : S.length ≤ 3
  st : M.start ∈ S
  src : ∀ r ∈ M.rows, r.1 ∈ S
  cl : ∀ r ∈ M.rows, r.2.2 ∈ S
  live : ∀ s ∈ S, ∃ r ∈ M.rows, r.1 = s
  few : ∀ s, (outs M.rows s).length ≤ 3
  le : M.rows.length ≤ 80
def pk (pq : Int × Int) : NestedKey := spk [pq.1, pq.2]
theorem pk_inj {a b : Int × Int} (h : pk a = pk b) : a = b := by
  obtain ⟨a1, a2⟩ := a
  obtain ⟨b1, b2⟩ := b
  have q := spk_inj h
  injection q with q1 q2
  injection q2 with q2
  simp only at q1 q2
  rw [q1, q2]
def PairAt (H : Hp) (a : Addr) (pq : Int × Int) : Prop := SpotAt H a [pq.1, pq.2]
def un (pr : List (Int × Int)) (r : Row) : Int × PMv := (r.1, r.2.1, (pr[r.2.2.toNat]?).getD (0, 0))
def pblk (A B : Mach) (m : Nat) (pq : Int × Int) : List (Int × PMv) := (pms A B pq.1 pq.2).map fun mv => ((m : Int), mv)
def TT (A B : Mach) (pr : List (Int × Int)) (n : Nat) : List (Int × PMv) := (List.range n).flatMap fun m => match pr[m]? with
  | some pq => pblk A B m pq
  | none => []
theorem un_app {pr : List (Int × Int)} {t : Int × Int} {r : Row} (h : ∃ n : Nat, r.2.2 = (n : Int) ∧ n < pr.length) : un (pr ++ [t]) r = un pr r := by
  obtain ⟨n, e, l⟩ := h
  unfold un
  rw [e, Int.toNat_natCast, List.getElem?_append_left l]
theorem TT_app {A B : Mach} {pr : List (Int × Int)} {t : Int × Int} {n : Nat} (h : n ≤ pr.length) : TT A B (pr ++ [t]) n = TT A B pr n := by
  unfold TT
  rw [List.flatMap_def, List.flatMap_def]
  congr 1
  refine List.map_congr_left fun m hm => ?_
  rw [List.getElem?_append_left (Nat.lt_of_lt_of_le (List.mem_range.mp hm) h)]
theorem TT_succ {A B : Mach} {pr : List (Int × Int)} {n : Nat} {pq : Int × Int} (h : pr[n]? = some pq) : TT A B pr (n + 1) = TT A B pr n ++ pblk A B n pq := by
  unfold TT
  rw [List.range_succ, List.flatMap_append]
  congr 1
  simp [h]
theorem pms_in {A B : Mach} {SA SB : List Int} (FA : Fin3 A SA) (FB : Fin3 B SB) {p q : Int} (hp : p ∈ SA) (hq : q ∈ SB) {mv : PMv} (h : mv ∈ pms A B p q) : mv.2.1 ∈ SA ∧ mv.2.2 ∈ SB := by
  unfold pms at h
  rcases List.mem_append.mp h with h | h
  · obtain ⟨r, hr, rfl⟩ := List.mem_map.mp h
    exact ⟨FA.cl r (mem_outs.mp hr).1, hq⟩
  · obtain ⟨r, hr, rfl⟩ := List.mem_map.mp h
    exact ⟨hp, FB.cl r (mem_outs.mp hr).1⟩
theorem prod_le {SA SB : List Int} {pr : List (Int × Int)} (a : SA.length ≤ 3) (b : SB.length ≤ 3) (nd : pr.Nodup) (sub : ∀ pq ∈ pr, pq.1 ∈ SA ∧ pq.2 ∈ SB) : pr.length ≤ 9 := by
  have h := len_sub (b := SA.flatMap fun x => SB.map fun y => (x, y)) nd fun z hz => List.mem_flatMap.mpr ⟨z.1, (sub z hz).1, List.mem_map.mpr ⟨z.2, (sub z hz).2, rfl⟩⟩
  have e : (SA.flatMap fun x => SB.map fun y => (x, y)).length = SA.length * SB.length := by
    clear h sub nd a
    induction SA with
    | nil => simp
    | cons x SA ih =>
      rw [List.flatMap_cons, List.length_append, List.length_map, ih, List.length_cons, Nat.succ_mul, Nat.add_comm]
  rw [e] at h
  exact Nat.le_trans h (Nat.mul_le_mul a b)
structure PS (A B : Mach) (SA SB : List Int) (pr : List (Int × Int)) (R : List Row) (n : Nat) (more : List (Int × PMv)) : Prop where
  p0 : pr[0]? = some (A.start, B.start)
  nd : pr.Nodup
  sub : ∀ pq ∈ pr, pq.1 ∈ SA ∧ pq.2 ∈ SB
  ix : ∀ r ∈ R, ∃ m : Nat, r.2.2 = (m : Int) ∧ m < pr.length
  tt : R.map (un pr) = TT A B pr n ++ more
  nle : n ≤ pr.length
theorem PS.ext {A B : Mach} {SA SB : List Int} {pr : List (Int × Int)} {R : List Row} {n : Nat} {more : List (Int × PMv)} (h : PS A B SA SB pr R n more) {t : Int × Int} (hn : ¬ t ∈ pr) (ht : t.1 ∈ SA ∧ t.2 ∈ SB) : PS A B SA SB (pr ++ [t]) R n more where
  p0 := by
    have q := h.p0
    have l := (List.getElem?_eq_some_iff.mp q).1
    rw [List.getElem?_append_left l]
    exact q
  nd := List.nodup_append.mpr ⟨h.nd, by simp, fun a ha b hb q => hn (by rw [List.mem_singleton.mp hb] at q; rw [← q]; exact ha)⟩
  sub := fun pq hp => by
    rcases List.mem_append.mp hp with z | z
    · exact h.sub pq z
    · rw [List.mem_singleton.mp z]
      exact ht
  ix := fun r hr => by
    obtain ⟨m, e, l⟩ := h.ix r hr
    exact ⟨m, e, by rw [List.length_append]; omega⟩
  tt := by
    rw [TT_app h.nle, ← h.tt]
    exact List.map_congr_left fun r hr => un_app (h.ix r hr)
  nle := by rw [List.length_append]; have := h.nle; omega
theorem PS.row {A B : Mach} {SA SB : List Int} {pr : List (Int × Int)} {R : List Row} {n : Nat} {more : List (Int × PMv)} (h : PS A B SA SB pr R n more) {k : Nat} {mv : PMv} (hk : pr[k]? = some mv.2) : PS A B SA SB pr (R ++ [((n : Int), mv.1, (k : Int))]) n (more ++ [((n : Int), mv)]) where
  p0 := h.p0
  nd := h.nd
  sub := h.sub
  ix := fun r hr => by
    rcases List.mem_append.mp hr with z | z
    · exact h.ix r z
    · rw [List.mem_singleton.mp z]
      exact ⟨k, rfl, (List.getElem?_eq_some_iff.mp hk).1⟩
  tt := by
    rw [List.map_append, h.tt, List.append_assoc]
    congr 2
    unfold un
    rw [List.map_singleton]
    simp only [Int.toNat_natCast, hk, Option.getD_some]
  nle := h.nle

theorem sc_PairMoves : FnScope ["one", "other", "common", "pair", "left", "right", "moves", "row", "mate", "number"] ["one", "other", "common", "pair"] (defScope sPairMoves) := ⟨rfl, rfl, rfl, by decide +kernel, rfl, by decide +kernel, by decide +kernel⟩
theorem sc_PairSteps : FnScope ["one", "other", "common", "pairs", "numbers", "rows", "at", "word", "target"] ["one", "other", "common"] (defScope sPairSteps) := ⟨rfl, rfl, rfl, by decide +kernel, rfl, by decide +kernel, by decide +kernel⟩
theorem sc_MachineBeside : FnScope ["self", "other", "common", "word", "table", "names", "leaving", "state", "pairs", "rows", "row"] ["self", "other"] (defScope sMachineBeside) := ⟨rfl, rfl, rfl, by decide +kernel, rfl, by decide +kernel, by decide +kernel⟩
theorem sc_CheckFault : FnScope ["machine", "fault"] ["machine", "fault"] (defScope sCheckFault) := ⟨rfl, rfl, rfl, by decide +kernel, rfl, by decide +kernel, by decide +kernel⟩
section
variable {P : Program} {w : World} {K : PySem.W.Frag} {mg : Str → Option Value} {base : Heap} {C : Addr}
def spPairMoves (C : Addr) : Sp := fun vs H Q _ => ∃ m1 m2 c t A B wl1 wl2 p q, vs = [.ref m1, .ref m2, .ref c, .ref t] ∧ MachAt C H m1 A wl1 ∧ MachAt C H m2 B wl2 ∧ A.rows.length ≤ 80 ∧ B.rows.length ≤ 80 ∧ H c = some (.lst []) ∧ H t = some (.tup [.int p, .int q]) ∧
  ∀ (H' : Hp) (l : Addr) (as : List Addr), Same H H' → H l = none → H' l = some (.lst (as.map V.ref)) → Paired (PMvAt H') as (pms A B p q) → Q (.ref l) H'
theorem ok_PairMoves {f : Addr} {fd : FuncData} (F : FnP K "pair_moves" "pair_moves" sPairMoves [] f fd) (T : Tx K mg) (TM : TxM K mg C) (C_steps_from : Cal P w K mg base 1 "steps_from" ["machine", "state"] (spStepsFrom C)) : FnOk P w K mg base CX0 2 f fd ["one", "other", "common", "pair"] (spPairMoves C) := by
  refine mk_fn F sc_PairMoves (fun vs H Q E h => ?_) (fun cdv A outer s H vs Q E hr h => ?_)
  · obtain ⟨m1, m2, c, t, A, B, wl1, wl2, p, q, rfl, _⟩ := h
    rfl
  · obtain ⟨m1, m2, c, t, MA, MB, wl1, wl2, p, q, rfl, ⟨d1, D1⟩, ⟨d2, D2⟩, lA, lB, hc, ht, qq⟩ := h
    have hu := hu_of hr
    have sl : (1000 : Nat) < sizeLine := by decide
    refine ⟨_, (pss_cons (ps_setLc (i := 4) rfl sc_PairMoves.nd rfl rfl (sw_true rfl rfl rfl (by decide +kernel)) (pi_list (pc C_steps_from hr (pa_cons (pv 0) (pa_cons (pe_ix ix_tup (pv 3) pe_int (fun _ _ => rfl)) pa_nil)))) (blkOk_by (own := [("number", 9)]) (N := ["one", "other", "common", "pair", "left", "right", "moves", "row", "mate", "number"]) (sc := defScope sPairMoves) (by decide +kernel)) (fun _ _ _ _ _ => (pg_name (i := 9) sc_PairMoves.nd rfl (Or.inl rfl))) (fun _ _ _ _ _ => pts_nil) (fun _ _ _ _ _ => (pe_ix (r := rIxL K) ix_list (pfldK (K := K) (pv 0)) (pv 9) (fun _ _ => rfl))))
        (pss_cons (ps_setLc (i := 5) rfl sc_PairMoves.nd rfl rfl (sw_true rfl rfl rfl (by decide +kernel)) (pi_list (pc C_steps_from hr (pa_cons (pv 1) (pa_cons (pe_ix ix_tup (pv 3) pe_int (fun _ _ => rfl)) pa_nil)))) (blkOk_by (own := [("number", 9)]) (N := ["one", "other", "common", "pair", "left", "right", "moves", "row", "mate", "number"]) (sc := defScope sPairMoves) (by decide +kernel)) (fun _ _ _ _ _ => (pg_name (i := 9) sc_PairMoves.nd rfl (Or.inl rfl))) (fun _ _ _ _ _ => pts_nil) (fun _ _ _ _ _ => (pe_ix (r := rIxL K) ix_list (pfldK (K := K) (pv 1)) (pv 9) (fun _ _ => rfl))))
        (pss_cons (ps_set (i := 6) sc_PairMoves.nd rfl (Or.inl rfl) (pe_lst pa_nil))
        (pss_cons (ps_for PassesOwn.never rfl (pi_list (pv 4)) (pg_name (i := 7) sc_PairMoves.nd rfl (Or.inl rfl))
        (pss_one (ps_if (pt_cmpR op_in_seq (pe_ix ix_tup (pv 7) pe_int (fun _ _ => rfl)) (pv 2) rfl) (pss_one (ps_for PassesOwn.never rfl (pi_list (pv 5)) (pg_name (i := 8) sc_PairMoves.nd rfl (Or.inl rfl))
        (pss_one (ps_if (pt_cmpR op_eq (pe_ix ix_tup (pv 8) pe_int (fun _ _ => rfl)) (pe_ix ix_tup (pv 7) pe_int (fun _ _ => rfl)) (nomark _)) (pss_one (ps_expr (pe_bm PySem.F.plainAttrs_list PySem.F.slot_list_append PySem.F.type_list_append mt_append (pv 6) (pa_cons (pe_tup (pa_cons (pe_ix ix_tup (pv 7) pe_int (fun _ _ => rfl)) (pa_cons (pe_tup (pa_cons (pe_ix ix_tup (pv 7) pe_int (fun _ _ => rfl)) (pa_cons (pe_ix ix_tup (pv 8) pe_int (fun _ _ => rfl)) pa_nil))) pa_nil))) pa_nil)))) pss_nil)))) pss_nil)))
        (pss_cons (ps_for PassesOwn.never rfl (pi_list (pv 4)) (pg_name (i := 7) sc_PairMoves.nd rfl (Or.inl rfl))
        (pss_one (ps_if (pt_cmpR op_notIn_seq (pe_ix ix_tup (pv 7) pe_int (fun _ _ => rfl)) (pv 2) rfl) (pss_one (ps_expr (pe_bm PySem.F.plainAttrs_list PySem.F.slot_list_append PySem.F.type_list_append mt_append (pv 6) (pa_cons (pe_tup (pa_cons (pe_ix ix_tup (pv 7) pe_int (fun _ _ => rfl)) (pa_cons (pe_tup (pa_cons (pe_ix ix_tup (pv 7) pe_int (fun _ _ => rfl)) (pa_cons (pe_ix ix_tup (pv 3) pe_int (fun _ _ => rfl)) pa_nil))) pa_nil))) pa_nil)))) pss_nil)))
        (pss_cons (ps_for PassesOwn.never rfl (pi_list (pv 5)) (pg_name (i := 7) sc_PairMoves.nd rfl (Or.inl rfl))
        (pss_one (ps_if (pt_cmpR op_notIn_seq (pe_ix ix_tup (pv 7) pe_int (fun _ _ => rfl)) (pv 2) rfl) (pss_one (ps_expr (pe_bm PySem.F.plainAttrs_list PySem.F.slot_list_append PySem.F.type_list_append mt_append (pv 6) (pa_cons (pe_tup (pa_cons (pe_ix ix_tup (pv 7) pe_int (fun _ _ => rfl)) (pa_cons (pe_tup (pa_cons (pe_ix ix_tup (pv 3) pe_int (fun _ _ => rfl)) (pa_cons (pe_ix ix_tup (pv 7) pe_int (fun _ _ => rfl)) pa_nil))) pa_nil))) pa_nil)))) pss_nil)))
        (pss_one (ps_ret (pv 6))))))))), ?_⟩
    refine ⟨_, rfl, _, rfl, t, _, _, _, rfl, rfl, SqT.of ht, atI_nat (j := 0) rfl, m1, MA, wl1, p, rfl, ⟨d1, D1⟩, fun H1 l1 s1 nl1 hl1 => ?_⟩
    refine ⟨l1, rfl, ⟨_, SqL.of hl1⟩, fun L nL => ?_⟩
    refine lc_it walk_list (fun i H' => Same H1 H' ∧ ∃ acc : List Addr, H' L = some (.lst (acc.map V.ref)) ∧ Paired (RowAt H) acc (((nums MA.rows p).take i).filterMap fun i => MA.rows[i]?)) ⟨same_new nL, [], upd_same, .nil⟩ (fun i H' _ h => SqL.of (h.1 _ _ hl1)) ?_ ?_
    · rintro i v H2 H3 hi ⟨s2, acc, hL, pr⟩ ⟨rfl, e1⟩
      obtain ⟨n, hn, rfl⟩ := map_nat e1
      obtain ⟨r, hr0, _⟩ := mem_nums.mp (List.mem_of_getElem? hn)
      obtain ⟨ta, hta, hRow⟩ := D1.at hr0
      have D1' := D1.same (s1.trans s2)
      refine ⟨rfl, ?_⟩
      have ll : acc.length ≤ 80 := by
        have e := Paired.length pr
        have h1 := List.length_filterMap_le (fun i => MA.rows[i]?) ((nums MA.rows p).take i)
        rw [List.length_take] at h1
        have := nums_le MA.rows p
        omega
      refine ⟨_, rfl, m1, C, d1.dx, d1.fs, _, rfl, D1'.ob, TM.x.cl, TM.n2, D1'.f2, _, rfl, d1.ar, _, _, .ref ta, rfl, rfl, SqL.of D1'.rows, atI_nat (by rw [List.getElem?_map, hta]; rfl), acc.map V.ref, hL, by rw [List.length_map]; omega, same_mut s2 nL, acc ++ [ta], by rw [upd_same, List.map_append]; rfl, ?_⟩
      rw [take_snoc hn, List.filterMap_append, List.filterMap_cons, hr0]
      exact Paired.snoc pr hRow
    rintro H2 ⟨s2, ls, hL, prL⟩
    rw [List.length_map, List.take_length, nums_rows] at prL
    have sA := s1.trans s2
    refine ⟨_, rfl, _, rfl, t, _, _, _, rfl, rfl, SqT.of (sA _ _ ht), atI_nat (j := 1) rfl, m2, MB, wl2, q, rfl, ⟨d2, D2.same sA⟩, fun H3 l2 s3 nl2 hl2 => ?_⟩
    refine ⟨l2, rfl, ⟨_, SqL.of hl2⟩, fun R nR => ?_⟩
    refine lc_it walk_list (fun i H' => Same H3 H' ∧ ∃ acc : List Addr, H' R = some (.lst (acc.map V.ref)) ∧ Paired (RowAt H) acc (((nums MB.rows q).take i).filterMap fun i => MB.rows[i]?)) ⟨same_new nR, [], upd_same, .nil⟩ (fun i H' _ h => SqL.of (h.1 _ _ hl2)) ?_ ?_
    · rintro i v H4 H5 hi ⟨s4, acc, hR, pr⟩ ⟨rfl, e1⟩
      obtain ⟨n, hn, rfl⟩ := map_nat e1
      obtain ⟨r, hr0, _⟩ := mem_nums.mp (List.mem_of_getElem? hn)
      obtain ⟨ta, hta, hRow⟩ := D2.at hr0
      have D2' := D2.same ((sA.trans s3).trans s4)
      refine ⟨rfl, ?_⟩
      have ll : acc.length ≤ 80 := by
        have e := Paired.length pr
        have h1 := List.length_filterMap_le (fun i => MB.rows[i]?) ((nums MB.rows q).take i)
        rw [List.length_take] at h1
        have := nums_le MB.rows q
        omega
      refine ⟨_, rfl, m2, C, d2.dx, d2.fs, _, rfl, D2'.ob, TM.x.cl, TM.n2, D2'.f2, _, rfl, d2.ar, _, _, .ref ta, rfl, rfl, SqL.of D2'.rows, atI_nat (by rw [List.getElem?_map, hta]; rfl), acc.map V.ref, hR, by rw [List.length_map]; omega, same_mut s4 nR, acc ++ [ta], by rw [upd_same, List.map_append]; rfl, ?_⟩
      rw [take_snoc hn, List.filterMap_append, List.filterMap_cons, hr0]
      exact Paired.snoc pr hRow
    rintro H4 ⟨s4, rs, hR, prR⟩
    rw [List.length_map, List.take_length, nums_rows] at prR
    have sB : Same H2 H4 := s3.trans s4
    have s04 : Same H H4 := sA.trans sB
    have hL4 := sB _ _ hL
    refine ⟨Nat.zero_le _, fun M nM => ?_⟩
    have s05 : Same H4 (upd H4 M (.lst [])) := same_new nM
    have hM : (upd H4 M (.lst [])) M = some (.lst ([].map V.ref)) := upd_same
    have nM0 : H M = none := s04.free nM
    have lsl : ls.length ≤ 80 := by
      rw [Paired.length prL]
      exact Nat.le_trans (List.length_filter_le _ _) lA
    have rsl : rs.length ≤ 80 := by
      rw [Paired.length prR]
      exact Nat.le_trans (List.length_filter_le _ _) lB
    refine ⟨_, rfl, L, rfl, ⟨_, SqL.of (s05 _ _ hL4)⟩, ?_⟩
    refine for_it walk_list (fun i σ H' => H' = upd H4 M (.lst []) ∧ ∃ x y z, σ = [some (.ref m1), some (.ref m2), some (.ref c), some (.ref t), some (.ref L), some (.ref R), some (.ref M), x, y, z]) ⟨rfl, _, _, _, rfl⟩ (fun i σ H' _ h => by rw [h.1]; exact SqL.of (s05 _ _ hL4)) ?_ ?_
    · rintro i v σ H5 H6 hi ⟨rfl, x, y, z, rfl⟩ ⟨rfl, e1⟩
      obtain ⟨ta, hta, rfl⟩ := map_ref e1
      obtain ⟨r, hr0, hRow⟩ := L2.paired_get prL hta
      refine ⟨_, rfl, ta, _, _, _, rfl, rfl, SqT.of (s05 _ _ (s04 _ _ hRow)), atI_nat (j := 1) rfl, _, rfl, c, [], rfl, .inl (SqL.of (s05 _ _ (s04 _ _ hc))), rfl, rfl, _, rfl, ?_⟩
      exact iteF ⟨rfl, _, _, _, rfl⟩
    rintro σ H5 ⟨rfl, x, y, z, rfl⟩
    have hL5 := s05 _ _ hL4
    have hR5 := s05 _ _ hR
    have sH5 : Same H (upd H4 M (.lst [])) := s04.trans s05
    have fL : ∀ b u, H4 b = some u → (upd H4 M (.lst [])) b = some u := s05
    generalize upd H4 M (.lst []) = H5 at hM hL5 hR5 sH5 fL
    refine ⟨_, rfl, L, rfl, ⟨_, SqL.of hL5⟩, ?_⟩
    have nML : L ≠ M := ne_new hL4 nM
    have nMR : R ≠ M := ne_new hR nM
    refine for_it walk_list (fun i σ H' => Same H H' ∧ (∃ as : List Addr, H' M = some (.lst (as.map V.ref)) ∧ Paired (PMvAt H') as (((outs MA.rows p).take i).map fun r => (r.2.1, r.2.2, q))) ∧ H' L = some (.lst (ls.map V.ref)) ∧ H' R = some (.lst (rs.map V.ref)) ∧ ∃ x y z, σ = [some (.ref m1), some (.ref m2), some (.ref c), some (.ref t), some (.ref L), some (.ref R), some (.ref M), x, y, z])
      ⟨sH5, ⟨[], hM, .nil⟩, hL5, hR5, _, _, _, rfl⟩ (fun i σ H' _ h => SqL.of h.2.2.1) ?_ ?_
    · rintro i v σ H6 H7 hi ⟨s6, ⟨as, hM6, pr⟩, hL6, hR6, x, y, z, rfl⟩ ⟨rfl, e1⟩
      obtain ⟨ta, hta, rfl⟩ := map_ref e1
      obtain ⟨r, hr0, hRow⟩ := L2.paired_get prL hta
      have hRow6 := s6 _ _ hRow
      have ht6 := s6 _ _ ht
      refine ⟨_, rfl, ta, _, _, _, rfl, rfl, SqT.of hRow6, atI_nat (j := 1) rfl, _, rfl, c, [], rfl, .inl (SqL.of (s6 _ _ hc)), rfl, rfl, _, rfl, ?_⟩
      refine iteT ?_
      refine ⟨_, rfl, .inl ⟨rfl, _, SqL.of hM6⟩, _, rfl, ta, _, _, _, rfl, rfl, SqT.of hRow6, atI_nat (j := 1) rfl, _, rfl, ta, _, _, _, rfl, rfl, SqT.of hRow6, atI_nat (j := 2) rfl, _, rfl, t, _, _, _, rfl, rfl, SqT.of ht6, atI_nat (j := 1) rfl, by show 2 ≤ sizeLine; decide, fun b nb => ⟨by show 2 ≤ sizeLine; decide, fun a2 na => ?_⟩⟩
      have sb := same_new (o := .tup [.int r.2.2, .int q]) nb
      have sc := same_new (o := .tup [.str r.2.1, .ref b]) na
      have sd := sb.trans sc
      have al : as.length ≤ 80 := by
        have e := Paired.length pr
        rw [List.length_map, List.length_take] at e
        have h1 := Paired.length prL
        omega
      have hM8 := sd _ _ hM6
      refine ⟨M, _, _, rfl, rfl, hM8, by rw [List.length_map]; omega, ?_⟩
      have tp : Tups H7 (upd (upd (upd H7 b (.tup [.int r.2.2, .int q])) a2 (.tup [.str r.2.1, .ref b])) M (.lst (as.map V.ref ++ [.ref a2]))) := (Tups.of sd).trans (Tups.put hM8 (fun _ z => nomatch z))
      have nbM : b ≠ M := fun z => by rw [z, hM6] at nb; cases nb
      have naM : a2 ≠ M := fun z => by rw [z] at na; have := sb _ _ hM6; rw [na] at this; cases this
      have nab : b ≠ a2 := ne_new upd_same na
      refine ⟨same_mut (s6.trans sd) nM0, ⟨as ++ [a2], by rw [upd_same, List.map_append]; rfl, ?_⟩, up_ne (sd _ _ hL6) nML, up_ne (sd _ _ hR6) nMR, _, _, _, rfl⟩
      rw [take_snoc hr0, List.map_append]
      exact Paired.snoc (Paired.mapP pr fun _ _ z => z.tups tp) ⟨b, by rw [upd_ne naM]; exact upd_same, by rw [upd_ne nbM, upd_ne nab]; exact upd_same⟩
    rintro σ H6 ⟨s6, ⟨as, hM6, prA⟩, hL6, hR6, x, y, z, rfl⟩
    have ell : (ls.map V.ref).length = (outs MA.rows p).length := by rw [List.length_map]; exact Paired.length prL
    rw [ell, List.take_length] at prA
    refine ⟨_, rfl, R, rfl, ⟨_, SqL.of hR6⟩, ?_⟩
    refine for_it walk_list (fun i σ H' => Same H H' ∧ (∃ as : List Addr, H' M = some (.lst (as.map V.ref)) ∧ Paired (PMvAt H') as ((outs MA.rows p).map (fun r => (r.2.1, r.2.2, q)) ++ ((outs MB.rows q).take i).map fun r => (r.2.1, p, r.2.2))) ∧ H' R = some (.lst (rs.map V.ref)) ∧ ∃ x y z, σ = [some (.ref m1), some (.ref m2), some (.ref c), some (.ref t), some (.ref L), some (.ref R), some (.ref M), x, y, z])
      ⟨s6, ⟨as, hM6, by rw [List.take_zero, List.map_nil, List.append_nil]; exact prA⟩, hR6, _, _, _, rfl⟩ (fun i σ H' _ h => SqL.of h.2.2.1) ?_ ?_
    · rintro i v σ H7 H8 hi ⟨s7, ⟨as, hM7, pr⟩, hR7, x, y, z, rfl⟩ ⟨rfl, e1⟩
      obtain ⟨ta, hta, rfl⟩ := map_ref e1
      obtain ⟨r, hr0, hRow⟩ := L2.paired_get prR hta
      have hRow6 := s7 _ _ hRow
      have ht6 := s7 _ _ ht
      refine ⟨_, rfl, ta, _, _, _, rfl, rfl, SqT.of hRow6, atI_nat (j := 1) rfl, _, rfl, c, [], rfl, .inl (SqL.of (s7 _ _ hc)), rfl, rfl, _, rfl, ?_⟩
      refine iteT ?_
      refine ⟨_, rfl, .inl ⟨rfl, _, SqL.of hM7⟩, _, rfl, ta, _, _, _, rfl, rfl, SqT.of hRow6, atI_nat (j := 1) rfl, _, rfl, t, _, _, _, rfl, rfl, SqT.of ht6, atI_nat (j := 0) rfl, _, rfl, ta, _, _, _, rfl, rfl, SqT.of hRow6, atI_nat (j := 2) rfl, by show 2 ≤ sizeLine; decide, fun b nb => ⟨by show 2 ≤ sizeLine; decide, fun a2 na => ?_⟩⟩
      have sb := same_new (o := .tup [.int p, .int r.2.2]) nb
      have sc := same_new (o := .tup [.str r.2.1, .ref b]) na
      have sd := sb.trans sc
      have al : as.length ≤ 200 := by
        have e := Paired.length pr
        rw [List.length_append, List.length_map, List.length_map, List.length_take] at e
        have h1 := Paired.length prL
        have h2 := Paired.length prR
        omega
      have hM8 := sd _ _ hM7
      refine ⟨M, _, _, rfl, rfl, hM8, by rw [List.length_map]; omega, ?_⟩
      have tp : Tups H8 (upd (upd (upd H8 b (.tup [.int p, .int r.2.2])) a2 (.tup [.str r.2.1, .ref b])) M (.lst (as.map V.ref ++ [.ref a2]))) := (Tups.of sd).trans (Tups.put hM8 (fun _ z => nomatch z))
      have nbM : b ≠ M := fun z => by rw [z, hM7] at nb; cases nb
      have naM : a2 ≠ M := fun z => by rw [z] at na; have := sb _ _ hM7; rw [na] at this; cases this
      have nab : b ≠ a2 := ne_new upd_same na
      refine ⟨same_mut (s7.trans sd) nM0, ⟨as ++ [a2], by rw [upd_same, List.map_append]; rfl, ?_⟩, up_ne (sd _ _ hR7) nMR, _, _, _, rfl⟩
      rw [take_snoc hr0, List.map_append, ← List.append_assoc]
      exact Paired.snoc (Paired.mapP pr fun _ _ z => z.tups tp) ⟨b, by rw [upd_ne naM]; exact upd_same, by rw [upd_ne nbM, upd_ne nab]; exact upd_same⟩
    · rintro σ H7 ⟨s7, ⟨as, hM7, pr⟩, _, x, y, z, rfl⟩
      have ell2 : (rs.map V.ref).length = (outs MB.rows q).length := by rw [List.length_map]; exact Paired.length prR
      rw [ell2, List.take_length] at pr
      exact ⟨_, rfl, qq _ M as s7 nM0 hM7 pr⟩
theorem RowsAt.at'' {α β : Type} {F : α → β → Prop} {a : List α} {b : List β} (h : Paired F a b) {i : Nat} {r : β} (e : b[i]? = some r) : ∃ t, a[i]? = some t ∧ F t r := by
  have hl : a.length = b.length := Paired.length h
  have hi : i < a.length := by
    rw [hl]
    exact (List.getElem?_eq_some_iff.mp e).1
  obtain ⟨r2, h2, hr⟩ := L2.paired_get h (List.getElem?_eq_getElem hi)
  rw [e] at h2
  cases h2
  exact ⟨_, List.getElem?_eq_getElem hi, hr⟩
def NumsD (H : Hp) (es : List Ent) (pr : List (Int × Int)) : Prop := KO H es ∧ es.map (·.1) = pr.map pk ∧ ∀ (j : Nat) (pq : Int × Int), pr[j]? = some pq → ∃ a, (pk pq, a, natV j) ∈ es
theorem NumsD.tups {H H' : Hp} {es : List Ent} {pr : List (Int × Int)} (s : Tups H H') (h : NumsD H es pr) : NumsD H' es pr := ⟨h.1.tups s, h.2⟩
theorem NumsD.snoc {H : Hp} {es : List Ent} {pr : List (Int × Int)} {t : Int × Int} {b : Addr} (h : NumsD H es pr) (hb : PairAt H b t) : NumsD H (es ++ [(pk t, b, natV pr.length)]) (pr ++ [t]) := by
  obtain ⟨h1, h2, h3⟩ := h
  refine ⟨h1.snoc (keyA_spot hb), by rw [List.map_append, List.map_append, h2]; rfl, fun j pq hj => ?_⟩
  rcases Nat.lt_or_ge j pr.length with l | l
  · rw [List.getElem?_append_left l] at hj
    obtain ⟨a, ha⟩ := h3 j pq hj
    exact ⟨a, List.mem_append_left _ ha⟩
  · have hj2 := (List.getElem?_eq_some_iff.mp hj).1
    rw [List.length_append, List.length_singleton] at hj2
    obtain rfl : j = pr.length := by omega
    rw [List.getElem?_append_right (Nat.le_refl _), Nat.sub_self] at hj
    cases hj
    exact ⟨b, List.mem_append_right _ (by simp)⟩
theorem NumsD.mem {H : Hp} {es : List Ent} {pr : List (Int × Int)} (h : NumsD H es pr) {t : Int × Int} : pk t ∈ es.map (·.1) ↔ t ∈ pr := by
  rw [h.2.1, List.mem_map]
  exact ⟨fun ⟨x, hx, e⟩ => pk_inj e ▸ hx, fun q => ⟨t, q, rfl⟩⟩
/-- what pair_steps holds: its lists and its dict -/
structure PHeap (P : Program) (w : World) (H : Hp) (pl nd rl : Addr) (pr : List (Int × Int)) (R : List Row) : Prop where
  pl : ∃ pas : List Addr, H pl = some (.lst (pas.map V.ref)) ∧ Paired (PairAt H) pas pr
  nd : ∃ es ep, H nd = some (DX P w nd es ep) ∧ NumsD H es pr
  rl : RowsAt H rl R
def PsI (P : Program) (w : World) (H : Hp) (m1 m2 c PL ND RL : Addr) (A B : Mach) (SA SB : List Int) (m : Nat) (σ : L2.St) (H' : Hp) : Prop := ∃ (pr : List (Int × Int)) (R : List Row) (n : Nat), m = 10 - n ∧ Same H H' ∧ PHeap P w H' PL ND RL pr R ∧ PS A B SA SB pr R n [] ∧
  ∃ x y, σ = [some (.ref m1), some (.ref m2), some (.ref c), some (.ref PL), some (.ref ND), some (.ref RL), some (natV n), x, y]
theorem TT_len {A B : Mach} {SA SB : List Int} (FA : Fin3 A SA) (FB : Fin3 B SB) {pr : List (Int × Int)} : ∀ n, (TT A B pr n).length ≤ 6 * n := by
  intro n
  induction n with
  | zero => exact Nat.le_refl _
  | succ n ih =>
    unfold TT at ih ⊢
    rw [List.range_succ, List.flatMap_append, List.length_append]
    have h1 : ([n].flatMap fun m => match pr[m]? with | some pq => pblk A B m pq | none => []).length ≤ 6 := by
      rw [List.flatMap_singleton]
      cases pr[n]? with
      | none => exact Nat.zero_le _
      | some pq =>
        show (pblk A B n pq).length ≤ 6
        unfold pblk pms
        rw [List.length_map, List.length_append, List.length_map, List.length_map]
        have a := FA.few pq.1
        have b := FB.few pq.2
        omega
    omega
def spPairSteps (C : Addr) : Sp := fun vs H Q _ => ∃ m1 m2 c A B wl1 wl2 SA SB, vs = [.ref m1, .ref m2, .ref c] ∧ MachAt C H m1 A wl1 ∧ MachAt C H m2 B wl2 ∧ Fin3 A SA ∧ Fin3 B SB ∧ H c = some (.lst []) ∧
  ∀ (H' : Hp) (t pl rl : Addr) (pas : List Addr) (pr : List (Int × Int)) (R : List Row), Same H H' → H' t = some (.tup [.ref pl, .ref rl]) → H' pl = some (.lst (pas.map V.ref)) → pas.length = pr.length → RowsAt H' rl R → PS A B SA SB pr R pr.length [] → Q (.ref t) H'
theorem ok_PairSteps {f : Addr} {fd : FuncData} (F : FnP K "pair_steps" "pair_steps" sPairSteps [] f fd) (T : Tx K mg) (C_start : CalP P w K mg base 2 C "start" (spMachineStart C)) (C_pair_moves : Cal P w K mg base 2 "pair_moves" ["one", "other", "common", "pair"] (spPairMoves C)) : FnOk P w K mg base CX0 3 f fd ["one", "other", "common"] (spPairSteps C) := by
  refine mk_fn F sc_PairSteps (fun vs H Q E h => ?_) (fun cdv A outer s H vs Q E hr h => ?_)
  · obtain ⟨m1, m2, c, A, B, wl1, wl2, SA, SB, rfl, _⟩ := h
    rfl
  · obtain ⟨m1, m2, c, MA, MB, wl1, wl2, SA, SB, rfl, ⟨d1, D1⟩, ⟨d2, D2⟩, FA, FB, hc, qq⟩ := h
    have hu := hu_of hr
    have sl : (1000 : Nat) < sizeLine := by decide
    refine ⟨_, (pss_cons (ps_set (i := 3) sc_PairSteps.nd rfl (Or.inl rfl) (pe_lst (pa_cons (pe_tup (pa_cons (ppr C_start hr (pv 0)) (pa_cons (ppr C_start hr (pv 1)) pa_nil))) pa_nil)))
        (pss_cons (ps_set (i := 4) sc_PairSteps.nd rfl (Or.inl rfl) (pe_dx1 hr (pe_ix ix_list (pv 3) pe_int (fun _ _ => rfl)) pe_int))
        (pss_cons (ps_set (i := 5) sc_PairSteps.nd rfl (Or.inl rfl) (pe_lst pa_nil))
        (pss_cons (ps_set (i := 6) sc_PairSteps.nd rfl (Or.inl rfl) pe_int)
        (pss_cons (ps_while PassesOwn.never (pt_cmpR op_lt (pv 6) (pe_callB call_len_seq (by rfl) T.len PySem.boot_len (pa_cons (pv 3) pa_nil)) (nomark _))
        (pss_cons (ps_for PassesOwn.never rfl (pi_list (pc C_pair_moves hr (pa_cons (pv 0) (pa_cons (pv 1) (pa_cons (pv 2) (pa_cons (pe_ix ix_list (pv 3) (pv 6) (fun _ _ => rfl)) pa_nil)))))) (pg_tup (n := 2) rfl (pgs_cons (pg_name (i := 7) sc_PairSteps.nd rfl (Or.inl rfl)) (pgs_cons (pg_name (i := 8) sc_PairSteps.nd rfl (Or.inl rfl)) pgs_nil)))
        (pss_cons (ps_if (pt_cmpR (op_dxNotIn hr) (pv 8) (pv 4) rfl) (pss_cons (ps_asg (pe_callB call_len_seq (by rfl) T.len PySem.boot_len (pa_cons (pv 3) pa_nil)) (pg_sub (pv 4) (pv 8) (set_dx hr)))
        (pss_cons (ps_expr (pe_bm PySem.F.plainAttrs_list PySem.F.slot_list_append PySem.F.type_list_append mt_append (pv 3) (pa_cons (pv 8) pa_nil)))
        (pss_one (ps_if (pt_cmpR op_gt (pe_callB call_len_seq (by rfl) T.len PySem.boot_len (pa_cons (pv 3) pa_nil)) (pgi T.MOST_PAIRS) (nomark _)) pss_never pss_nil)))) pss_nil)
        (pss_one (ps_expr (pe_bm PySem.F.plainAttrs_list PySem.F.slot_list_append PySem.F.type_list_append mt_append (pv 5) (pa_cons (pe_tup (pa_cons (pv 6) (pa_cons (pv 7) (pa_cons (pe_ix (ix_dx hr) (pv 4) (pv 8) (fun _ _ => rfl)) pa_nil)))) pa_nil))))))
        (pss_one (ps_aug (i := 6) sc_PairSteps.nd rfl (Or.inl rfl) pe_int ip_add))))
        (pss_one (ps_ret (pe_tup (pa_cons (pv 3) (pa_cons (pv 5) pa_nil)))))))))), ?_⟩
    refine ⟨_, rfl, m1, d1.dx, d1.fs, rfl, D1.ob, m1, MA, wl1, rfl, ⟨d1, D1⟩, _, rfl, m2, d2.dx, d2.fs, rfl, D2.ob, m2, MB, wl2, rfl, ⟨d2, D2⟩, by show 2 ≤ sizeLine; decide, fun t0 nt0 => ⟨by show 1 ≤ sizeLine; decide, fun PL nPL => ?_⟩⟩
    intro ND nND
    have s1 := same_new (o := .tup [.int MA.start, .int MB.start]) nt0
    have s2 := same_new (o := .lst [.ref t0]) nPL
    have s3 := same_new (o := DX P w ND [] 0) nND
    have s03 := (s1.trans s2).trans s3
    refine ⟨_, rfl, PL, _, _, .ref t0, rfl, rfl, SqL.of (s3 _ _ upd_same), atI_nat (j := 0) rfl, upd_same, t0, pk (MA.start, MB.start), rfl, keyA_spot (sp := [MA.start, MB.start]) (s3 _ _ (s2 _ _ upd_same)), fun ep => ?_⟩
    rw [upd_upd] at *
    have s3' := same_new (o := DX P w ND [(pk (MA.start, MB.start), t0, .int 0)] ep) nND
    refine ⟨Nat.zero_le _, fun RL nRL => ?_⟩
    have s4 := same_new (o := .lst []) nRL
    have sH0 := ((s1.trans s2).trans s3').trans s4
    have nPL0 : H PL = none := s1.free nPL
    have nND0 : H ND = none := (s1.trans s2).free nND
    have nRL0 : H RL = none := ((s1.trans s2).trans s3').free nRL
    have nPN : PL ≠ ND := ne_new upd_same nND
    have nPR : PL ≠ RL := ne_new (s3' _ _ upd_same) nRL
    have nNR : ND ≠ RL := ne_new upd_same nRL
    have nm1 : ∀ {a x}, H a = some x → a ≠ PL ∧ a ≠ ND ∧ a ≠ RL := fun h => ⟨ne_new h nPL0, ne_new h nND0, ne_new h nRL0⟩
    have t0K := s4 _ _ (s3' _ _ (s2 _ _ (upd_same (H := H) (a := t0) (o := .tup [.int MA.start, .int MB.start]))))
    have PLK := s4 _ _ (s3' _ _ (upd_same (a := PL) (o := .lst [.ref t0])))
    have NDK := s4 _ _ (upd_same (a := ND) (o := DX P w ND [(pk (MA.start, MB.start), t0, .int 0)] ep))
    refine ⟨PsI P w H m1 m2 c PL ND RL MA MB SA SB, ⟨_, [(MA.start, MB.start)], [], 0, rfl, sH0, ⟨⟨[t0], PLK, .cons t0K .nil⟩, ⟨_, ep, NDK, fun x hx => by rw [List.mem_singleton.mp hx]; exact keyA_spot (sp := [MA.start, MB.start]) t0K, rfl, fun j pq hj => ?_⟩, ⟨[], upd_same, .nil⟩⟩, ⟨rfl, by simp, fun pq hp => by rw [List.mem_singleton.mp hp]; exact ⟨FA.st, FB.st⟩, (fun r hr => nomatch hr), rfl, Nat.zero_le _⟩, _, _, rfl⟩, ?_⟩
    · cases j with
      | zero => cases hj; exact ⟨t0, by simp⟩
      | succ j => simp at hj
    rintro m σ H1 ⟨pr, R, n, rfl, sH, ⟨⟨pas, hPL, prP⟩, ⟨es, ep1, hND, nums⟩, ⟨rts, hRL, prR⟩⟩, ps, x, y, rfl⟩
    have pl9 := prod_le FA.len FB.len ps.nd ps.sub
    have epl : (pas.map V.ref).length = pr.length := by rw [List.length_map]; exact Paired.length prP
    refine ⟨_, rfl, _, rfl, PL, _, rfl, .inl (SqL.of hPL), _, _, rfl, rfl, _, rfl, ?_⟩
    refine ite2 (fun e => ?_) (fun e => ?_)
    · have hn : n < pr.length := by
        have z := of_decide_eq_true e
        rw [epl] at z
        omega
      refine ⟨fun σ' H' => ∃ m', m' < 10 - n ∧ PsI P w H m1 m2 c PL ND RL MA MB SA SB m' σ' H', fun σ' H' h => h, ?_⟩
      have hpq : pr[n]? = some pr[n] := List.getElem?_eq_getElem hn
      have hsub := ps.sub _ (List.getElem_mem hn)
      generalize pr[n] = pq at hpq hsub
      obtain ⟨tn, htn, hTn⟩ := RowsAt.at'' prP hpq
      refine ⟨_, rfl, _, rfl, _, rfl, _, rfl, _, rfl, PL, _, _, .ref tn, rfl, rfl, SqL.of hPL, atI_nat (by rw [List.getElem?_map, htn]; rfl), m1, m2, c, tn, MA, MB, wl1, wl2, pq.1, pq.2, rfl, ⟨d1, D1.same sH⟩, ⟨d2, D2.same sH⟩, FA.le, FB.le, sH _ _ hc, hTn, fun H2 l as s2 nl hl prM => ?_⟩
      have nlP : l ≠ PL := fun z => by rw [z, hPL] at nl; cases nl
      have nlN : l ≠ ND := fun z => by rw [z, hND] at nl; cases nl
      have nlR : l ≠ RL := fun z => by rw [z, hRL] at nl; cases nl
      refine ⟨l, rfl, ⟨_, SqL.of hl⟩, ?_⟩
      refine for_it walk_list (fun j σ H' => ∃ pr R, Same H H' ∧ Tups H2 H' ∧ H' l = some (.lst (as.map V.ref)) ∧ PHeap P w H' PL ND RL pr R ∧ PS MA MB SA SB pr R n ((pblk MA MB n pq).take j) ∧ pr[n]? = some pq ∧ ∃ x y, σ = [some (.ref m1), some (.ref m2), some (.ref c), some (.ref PL), some (.ref ND), some (.ref RL), some (natV n), x, y])
        ⟨pr, R, sH.trans s2, Tups.refl _, hl, ⟨⟨pas, s2 _ _ hPL, Paired.mapP prP fun _ _ z => s2 _ _ z⟩, ⟨es, ep1, s2 _ _ hND, nums.tups (.of s2)⟩, ⟨rts, s2 _ _ hRL, rows_tups (.of s2) prR⟩⟩, by rw [List.take_zero]; exact ps, hpq, _, _, rfl⟩ (fun j σ H' _ h => by obtain ⟨_, _, _, _, h, _⟩ := h; exact SqL.of h) ?_ ?_
      · rintro j v σ H3 H4 hj ⟨pr', R', sH', tp', hl', ⟨⟨pas', hPL', prP'⟩, ⟨es', ep', hND', nums'⟩, ⟨rts', hRL', prR'⟩⟩, ps', pq', x, y, rfl⟩ ⟨rfl, e1⟩
        obtain ⟨a0, ha0, rfl⟩ := map_ref e1
        obtain ⟨mv, hmv, b, hv1, hv2⟩ := L2.paired_get prM ha0
        have hb3 : SpotAt H4 b [mv.2.1, mv.2.2] := tp' _ _ hv2
        have pl9' := prod_le FA.len FB.len ps'.nd ps'.sub
        refine ⟨a0, _, rfl, SqT.of (tp' _ _ hv1), rfl, _, _, rfl, _, _, rfl, rfl, ?_⟩
        refine ⟨_, rfl, _, rfl, b, ND, pk mv.2, es', ep', rfl, rfl, hND', nums'.1, keyA_spot hb3, _, rfl, ?_⟩
        have hmvm := List.mem_of_getElem? hmv
        have epl' : (pas'.map V.ref).length = pr'.length := by rw [List.length_map]; exact Paired.length prP'
        have lpa : pas'.length = pr'.length := Paired.length prP'
        have les : es'.length = pr'.length := by
          have e := congrArg List.length nums'.2.1
          rw [List.length_map, List.length_map] at e
          exact e
        by_cases hin : mv.2 ∈ pr'
        · rw [decide_eq_true (nums'.mem.mpr hin)]
          refine iteF ?_
          obtain ⟨k5, hk5⟩ := List.mem_iff_getElem?.mp hin
          have hND5 := hND'
          have hRL5 := hRL'
          obtain ⟨a5, m5⟩ := nums'.2.2 k5 mv.2 hk5
          have l54 := TT_len (pr := pr') FA FB n
          have eR := congrArg List.length ps'.tt
          have lR : R'.length ≤ 100 := by
            rw [List.length_map, List.length_append] at eR
            have h1 : ((pblk MA MB n pq).take j).length ≤ 6 := by
              rw [List.length_take]
              unfold pblk pms
              rw [List.length_map, List.length_append, List.length_map, List.length_map]
              have a := FA.few pq.1
              have b := FB.few pq.2
              omega
            omega
          have lrt : rts'.length = R'.length := Paired.length prR'
          refine ⟨_, rfl, .inl ⟨rfl, _, SqL.of hRL5⟩, _, rfl, _, rfl, _, rfl, _, rfl, ND, b, pk mv.2, _, _, a5, _, rfl, rfl, hND5, nums'.1, keyA_spot (hb3), m5, by show 3 ≤ sizeLine; decide, fun t nt => ?_⟩
          have st := same_new (o := .tup [natV n, .str mv.1, natV k5]) nt
          refine ⟨RL, _, _, rfl, rfl, st _ _ hRL5, by rw [List.length_map]; omega, ?_⟩
          have tp5 : Tups _ _ := (Tups.of st).trans (Tups.put (st _ _ hRL5) (u := .lst (rts'.map V.ref ++ [.ref t])) (fun _ z => nomatch z))
          have ntR : t ≠ RL := Ne.symm (ne_new hRL5 nt)
          refine ⟨pr', R' ++ [((n : Int), mv.1, (k5 : Int))], same_mut (sH'.trans st) nRL0, tp'.trans tp5, up_ne (st _ _ hl') nlR, ⟨⟨_, up_ne (st _ _ hPL') nPR, Paired.mapP prP' fun _ _ z => tp5 _ _ z⟩, ⟨_, _, up_ne (st _ _ hND5) nNR, nums'.tups tp5⟩, ⟨rts' ++ [t], by rw [upd_same, List.map_append]; rfl, Paired.snoc (Paired.mapP prR' fun _ _ z => tp5 _ _ z) (by show upd _ _ _ t = _; rw [upd_ne ntR]; exact upd_same)⟩⟩, ?_, pq', _, _, rfl⟩
          have e6 : (pblk MA MB n pq)[j]? = some ((n : Int), mv) := by unfold pblk; rw [List.getElem?_map, hmv]; rfl
          rw [take_snoc e6]
          exact ps'.row hk5

        · rw [decide_eq_false (fun z => hin (nums'.mem.mp z))]
          refine iteT ?_
          refine ⟨_, rfl, PL, _, rfl, .inl (SqL.of hPL'), _, rfl, _, rfl, ND, b, pk mv.2, es', ep', rfl, rfl, hND', nums'.1, keyA_spot hb3, fun z => hin (nums'.mem.mp z), by omega, fun ep4 => ?_⟩
          have nPN' : PL ≠ ND := nPN
          have hPLa := up_ne (u := DX P w ND (es' ++ [(pk mv.2, b, .int ((pas'.map V.ref).length : Nat))]) ep4) hPL' nPN
          refine ⟨_, rfl, .inl ⟨rfl, _, SqL.of hPLa⟩, _, rfl, PL, _, _, rfl, rfl, hPLa, by rw [List.length_map]; omega, ?_⟩
          have hPL4 := upd_same (H := upd H4 ND (DX P w ND (es' ++ [(pk mv.2, b, .int ((pas'.map V.ref).length : Nat))]) ep4)) (a := PL) (o := .lst (pas'.map V.ref ++ [.ref b]))
          have tpA : Tups H4 (upd (upd H4 ND (DX P w ND (es' ++ [(pk mv.2, b, .int ((pas'.map V.ref).length : Nat))]) ep4)) PL (.lst (pas'.map V.ref ++ [.ref b]))) := (Tups.put hND' (fun _ z => nomatch z)).trans (Tups.put hPLa (fun _ z => nomatch z))
          have sH4 : Same H (upd (upd H4 ND (DX P w ND (es' ++ [(pk mv.2, b, .int ((pas'.map V.ref).length : Nat))]) ep4)) PL (.lst (pas'.map V.ref ++ [.ref b]))) := same_mut (same_mut sH' nND0) nPL0
          have hND4 : (upd (upd H4 ND (DX P w ND (es' ++ [(pk mv.2, b, .int ((pas'.map V.ref).length : Nat))]) ep4)) PL (.lst (pas'.map V.ref ++ [.ref b]))) ND = _ := up_ne upd_same (Ne.symm nPN)
          have hRL4 := up_ne (u := .lst (pas'.map V.ref ++ [.ref b])) (up_ne (u := DX P w ND (es' ++ [(pk mv.2, b, .int ((pas'.map V.ref).length : Nat))]) ep4) hRL' (Ne.symm nNR)) (Ne.symm nPR)
          have hl4 := up_ne (u := .lst (pas'.map V.ref ++ [.ref b])) (up_ne (u := DX P w ND (es' ++ [(pk mv.2, b, .int ((pas'.map V.ref).length : Nat))]) ep4) hl' nlN) nlP
          have tp4 := tp'.trans tpA
          have hb4 : SpotAt (upd (upd H4 ND (DX P w ND (es' ++ [(pk mv.2, b, .int ((pas'.map V.ref).length : Nat))]) ep4)) PL (.lst (pas'.map V.ref ++ [.ref b]))) b [mv.2.1, mv.2.2] := tpA _ _ hb3
          have nums5 : NumsD (upd (upd H4 ND (DX P w ND (es' ++ [(pk mv.2, b, .int ((pas'.map V.ref).length : Nat))]) ep4)) PL (.lst (pas'.map V.ref ++ [.ref b]))) (es' ++ [(pk mv.2, b, .int ((pas'.map V.ref).length : Nat))]) (pr' ++ [mv.2]) := by
            have z := (nums'.tups tpA).snoc hb4
            rw [← epl'] at z
            exact z
          have ps5 := ps'.ext hin (pms_in FA FB hsub.1 hsub.2 hmvm)
          have hk5 : (pr' ++ [mv.2])[pr'.length]? = some mv.2 := by rw [List.getElem?_append_right (Nat.le_refl _), Nat.sub_self]; rfl
          obtain ⟨k5, ek5⟩ : ∃ k5, k5 = pr'.length := ⟨_, rfl⟩
          rw [← ek5] at hk5
          have pq5 : (pr' ++ [mv.2])[n]? = some pq := by rw [List.getElem?_append_left (List.getElem?_eq_some_iff.mp pq').1]; exact pq'
          have prP4 : Paired (PairAt (upd (upd H4 ND (DX P w ND (es' ++ [(pk mv.2, b, .int ((pas'.map V.ref).length : Nat))]) ep4)) PL (.lst (pas'.map V.ref ++ [.ref b])))) (pas' ++ [b]) (pr' ++ [mv.2]) := Paired.snoc (Paired.mapP prP' fun _ _ z => tpA _ _ z) hb4
          have prR4 := rows_tups tpA prR'
          refine ⟨_, rfl, PL, _, rfl, .inl (SqL.of hPL4), _, _, rfl, rfl, _, rfl, ?_⟩
          rw [decide_eq_false (show ¬ (100 : Int) < ((pas'.map V.ref ++ [V.ref b]).length : Int) by rw [List.length_append, epl', List.length_singleton]; omega)]
          refine iteF ?_
          have hPL4 : (upd (upd H4 ND (DX P w ND (es' ++ [(pk mv.2, b, .int ((pas'.map V.ref).length : Nat))]) ep4)) PL (.lst (pas'.map V.ref ++ [.ref b]))) PL = some (.lst ((pas' ++ [b]).map V.ref)) := by rw [hPL4, List.map_append]; rfl
          have hND5 := hND4
          have hRL5 := hRL4
          obtain ⟨a5, m5⟩ := nums5.2.2 k5 mv.2 hk5
          have l54 := TT_len (pr := (pr' ++ [mv.2])) FA FB n
          have eR := congrArg List.length ps5.tt
          have lR : R'.length ≤ 100 := by
            rw [List.length_map, List.length_append] at eR
            have h1 : ((pblk MA MB n pq).take j).length ≤ 6 := by
              rw [List.length_take]
              unfold pblk pms
              rw [List.length_map, List.length_append, List.length_map, List.length_map]
              have a := FA.few pq.1
              have b := FB.few pq.2
              omega
            omega
          have lrt : rts'.length = R'.length := Paired.length prR4
          refine ⟨_, rfl, .inl ⟨rfl, _, SqL.of hRL5⟩, _, rfl, _, rfl, _, rfl, _, rfl, ND, b, pk mv.2, _, _, a5, _, rfl, rfl, hND5, nums5.1, keyA_spot (hb4), m5, by show 3 ≤ sizeLine; decide, fun t nt => ?_⟩
          have st := same_new (o := .tup [natV n, .str mv.1, natV k5]) nt
          refine ⟨RL, _, _, rfl, rfl, st _ _ hRL5, by rw [List.length_map]; omega, ?_⟩
          have tp5 : Tups _ _ := (Tups.of st).trans (Tups.put (st _ _ hRL5) (u := .lst (rts'.map V.ref ++ [.ref t])) (fun _ z => nomatch z))
          have ntR : t ≠ RL := Ne.symm (ne_new hRL5 nt)
          refine ⟨(pr' ++ [mv.2]), R' ++ [((n : Int), mv.1, (k5 : Int))], same_mut (sH4.trans st) nRL0, tp4.trans tp5, up_ne (st _ _ hl4) nlR, ⟨⟨_, up_ne (st _ _ hPL4) nPR, Paired.mapP prP4 fun _ _ z => tp5 _ _ z⟩, ⟨_, _, up_ne (st _ _ hND5) nNR, nums5.tups tp5⟩, ⟨rts' ++ [t], by rw [upd_same, List.map_append]; rfl, Paired.snoc (Paired.mapP prR4 fun _ _ z => tp5 _ _ z) (by show upd _ _ _ t = _; rw [upd_ne ntR]; exact upd_same)⟩⟩, ?_, pq5, _, _, rfl⟩
          have e6 : (pblk MA MB n pq)[j]? = some ((n : Int), mv) := by unfold pblk; rw [List.getElem?_map, hmv]; rfl
          rw [take_snoc e6]
          exact ps5.row hk5

      · rintro σ H3 ⟨pr', R', sH', tp', hl', ph, ps', pq', x, y, rfl⟩
        have e7 : (as.map V.ref).length = (pblk MA MB n pq).length := by unfold pblk; rw [List.length_map, List.length_map]; exact Paired.length prM
        rw [e7, List.take_length] at ps'
        refine ⟨_, rfl, _, _, rfl, rfl, 10 - (n + 1), by omega, pr', R', n + 1, rfl, sH', ph, ⟨ps'.p0, ps'.nd, ps'.sub, ps'.ix, ?_, (List.getElem?_eq_some_iff.mp pq').1⟩, _, _, rfl⟩
        rw [ps'.tt, TT_succ pq', List.append_nil]
    · have hn : n = pr.length := by
        have z := ps.nle
        have z2 : ¬ ((n : Nat) : Int) < ((pas.map V.ref).length : Int) := fun q => e (decide_eq_true q)
        rw [epl] at z2
        omega
      subst hn
      refine ⟨_, rfl, _, rfl, by show 2 ≤ sizeLine; decide, fun t nt => ?_⟩
      have st := same_new (o := .tup [.ref PL, .ref RL]) nt
      exact qq _ t PL RL pas pr R (sH.trans st) upd_same (st _ _ hPL) (Paired.length prP) (⟨rts, st _ _ hRL, rows_tups (.of st) prR⟩) ps
end
end Kn

end
section
set_option maxHeartbeats 4000000
/-! beside, check_fault; what the two machines side by side are. -/
namespace Kn
open PySem PySem.Spec PyProof.Rows L2
theorem nodup_map {α β : Type} {f : α → β} : ∀ {l : List α}, l.Nodup → (∀ a ∈ l, ∀ b ∈ l, f a = f b → a = b) → (l.map f).Nodup
  | [], _, _ => List.nodup_nil
  | x :: l, h, i => by
    obtain ⟨h1, h2⟩ := List.nodup_cons.mp h
    rw [List.map_cons]
    refine List.nodup_cons.mpr ⟨fun m => ?_, nodup_map h2 fun a ha b hb e => i a (List.mem_cons_of_mem _ ha) b (List.mem_cons_of_mem _ hb) e⟩
    obtain ⟨y, hy, e⟩ := List.mem_map.mp m
    exact h1 (i y (List.mem_cons_of_mem _ hy) x List.mem_cons_self e ▸ hy)
theorem nodup_of {α β : Type} (f : α → β) : ∀ {l : List α}, (l.map f).Nodup → l.Nodup
  | [], _ => List.nodup_nil
  | x :: l, h => by
    rw [List.map_cons] at h
    obtain ⟨h1, h2⟩ := List.nodup_cons.mp h
    exact List.nodup_cons.mpr ⟨fun m => h1 (List.mem_map.mpr ⟨x, m, rfl⟩), nodup_of f h2⟩
theorem mem_TT {A B : Mach} {pr : List (Int × Int)} {n : Nat} {x : Int × PMv} : x ∈ TT A B pr n ↔ ∃ m pq, m < n ∧ pr[m]? = some pq ∧ x.1 = (m : Int) ∧ x.2 ∈ pms A B pq.1 pq.2 := by
  unfold TT
  rw [List.mem_flatMap]
  constructor
  · rintro ⟨m, hm, hx⟩
    cases e : pr[m]? with
    | none => rw [e] at hx; exact nomatch hx
    | some pq =>
      rw [e] at hx
      obtain ⟨mv, h1, rfl⟩ := List.mem_map.mp hx
      exact ⟨m, pq, List.mem_range.mp hm, e, rfl, h1⟩
  · rintro ⟨m, pq, hm, e, h1, h2⟩
    refine ⟨m, List.mem_range.mpr hm, ?_⟩
    rw [e]
    exact List.mem_map.mpr ⟨x.2, h2, by rw [← h1]⟩
/-- a machine that may stand beside another -/
structure Good (M : Mach) (S : List Int) (wl W : List Str) : Prop where
  fin : Fin3 M S
  nd : M.rows.Nodup
  nm : ∀ r ∈ M.rows, NameOk r.2.1
  wl : ∀ z, z ∈ wl ↔ ∃ r ∈ M.rows, r.2.1 = z
  fl : M.ft.length ≤ 1
  fn : ∀ p ∈ M.ft, NameOk p.1 ∧ NameOk p.2 ∧ ∃ r ∈ M.rows, r.2.1 = p.1
  w7 : W.length ≤ 7
  wW : ∀ r ∈ M.rows, r.2.1 ∈ W
section
variable {A B : Mach} {SA SB : List Int} {wA wB WA WB : List Str}
theorem pms_nodup (GA : Good A SA wA WA) (GB : Good B SB wB WB) (D : ∀ r ∈ A.rows, ∀ r' ∈ B.rows, r.2.1 ≠ r'.2.1) (p q : Int) : (pms A B p q).Nodup := by
  unfold pms
  refine List.nodup_append.mpr ⟨?_, ?_, ?_⟩
  · refine nodup_map (GA.nd.filter _) fun a ha b hb e => ?_
    obtain ⟨a1, a2⟩ := mem_outs.mp ha
    obtain ⟨b1, b2⟩ := mem_outs.mp hb
    obtain ⟨x, y, z⟩ := a
    obtain ⟨x', y', z'⟩ := b
    simp only [Prod.mk.injEq] at e a2 b2 ⊢
    exact ⟨a2.trans b2.symm, e.1, e.2.1⟩
  · refine nodup_map (GB.nd.filter _) fun a ha b hb e => ?_
    obtain ⟨a1, a2⟩ := mem_outs.mp ha
    obtain ⟨b1, b2⟩ := mem_outs.mp hb
    obtain ⟨x, y, z⟩ := a
    obtain ⟨x', y', z'⟩ := b
    simp only [Prod.mk.injEq] at e a2 b2 ⊢
    exact ⟨a2.trans b2.symm, e.1, e.2.2⟩
  · intro a ha b hb e
    subst e
    obtain ⟨r, hr, rfl⟩ := List.mem_map.mp ha
    obtain ⟨r', hr', e⟩ := List.mem_map.mp hb
    simp only [Prod.mk.injEq] at e
    exact D r (mem_outs.mp hr).1 r' (mem_outs.mp hr').1 e.1.symm
theorem TT_nodup (GA : Good A SA wA WA) (GB : Good B SB wB WB) (D : ∀ r ∈ A.rows, ∀ r' ∈ B.rows, r.2.1 ≠ r'.2.1) {pr : List (Int × Int)} : ∀ n, n ≤ pr.length → (TT A B pr n).Nodup := by
  intro n
  induction n with
  | zero => intro _; exact List.nodup_nil
  | succ n ih =>
    intro h
    have e : pr[n]? = some pr[n] := List.getElem?_eq_getElem h
    rw [TT_succ e]
    refine List.nodup_append.mpr ⟨ih (Nat.le_of_lt h), ?_, ?_⟩
    · refine nodup_map (pms_nodup GA GB D _ _) fun a _ b _ e => ?_
      simp only [Prod.mk.injEq] at e
      exact e.2
    · intro a ha b hb e2
      subst e2
      obtain ⟨m, pq, hm, _, e1, _⟩ := mem_TT.mp ha
      obtain ⟨mv, _, rfl⟩ := List.mem_map.mp hb
      simp only at e1
      omega
theorem TT_cnt (FA : Fin3 A SA) (FB : Fin3 B SB) {pr : List (Int × Int)} (s : Int) : ∀ n, n ≤ pr.length → ((TT A B pr n).filter fun x => decide (x.1 = s)).length ≤ 6 := by
  intro n
  induction n with
  | zero => intro _; exact Nat.zero_le _
  | succ n ih =>
    intro h
    have e : pr[n]? = some pr[n] := List.getElem?_eq_getElem h
    rw [TT_succ e, List.filter_append, List.length_append]
    by_cases es : s = (n : Int)
    · have h0 : ((TT A B pr n).filter fun x => decide (x.1 = s)) = [] := List.filter_eq_nil_iff.mpr fun x hx => by
        obtain ⟨m, pq, hm, _, e1, _⟩ := mem_TT.mp hx
        rw [decide_eq_true_eq]
        omega
      rw [h0]
      have h1 : ((pblk A B n pr[n]).filter fun x => decide (x.1 = s)).length ≤ (pblk A B n pr[n]).length := List.length_filter_le _ _
      have h2 : (pblk A B n pr[n]).length ≤ 6 := by
        unfold pblk pms
        rw [List.length_map, List.length_append, List.length_map, List.length_map]
        have a := FA.few pr[n].1
        have b := FB.few pr[n].2
        omega
      rw [List.length_nil]
      omega
    · have h0 : ((pblk A B n pr[n]).filter fun x => decide (x.1 = s)) = [] := List.filter_eq_nil_iff.mpr fun x hx => by
        obtain ⟨mv, _, rfl⟩ := List.mem_map.mp hx
        rw [decide_eq_true_eq]
        exact fun z => es z.symm
      rw [h0]
      have := ih (Nat.le_of_lt h)
      rw [List.length_nil]
      omega
variable {pr : List (Int × Int)} {R : List Row}
theorem PS.mem (h : PS A B SA SB pr R pr.length []) {r : Row} (hr : r ∈ R) : ∃ (m n : Nat) (pq t : Int × Int), r.1 = (m : Int) ∧ r.2.2 = (n : Int) ∧ pr[m]? = some pq ∧ pr[n]? = some t ∧ (r.2.1, t) ∈ pms A B pq.1 pq.2 := by
  have e : un pr r ∈ TT A B pr pr.length := by
    have q := h.tt
    rw [List.append_nil] at q
    rw [← q]
    exact List.mem_map.mpr ⟨r, hr, rfl⟩
  obtain ⟨m, pq, hm, e1, e2, e3⟩ := mem_TT.mp e
  obtain ⟨n, en, ln⟩ := h.ix r hr
  have et : pr[n]? = some pr[n] := List.getElem?_eq_getElem ln
  refine ⟨m, n, pq, pr[n], e2, en, e1, et, ?_⟩
  unfold un at e3
  rw [en, Int.toNat_natCast, et] at e3
  exact e3
theorem PS.has (h : PS A B SA SB pr R pr.length []) {m : Nat} {pq : Int × Int} {mv : PMv} (e1 : pr[m]? = some pq) (e2 : mv ∈ pms A B pq.1 pq.2) : ∃ n : Nat, pr[n]? = some mv.2 ∧ ((m : Int), mv.1, (n : Int)) ∈ R := by
  have e : ((m : Int), mv) ∈ R.map (un pr) := by
    rw [h.tt, List.append_nil]
    exact mem_TT.mpr ⟨m, pq, (List.getElem?_eq_some_iff.mp e1).1, e1, rfl, e2⟩
  obtain ⟨r, hr, e3⟩ := List.mem_map.mp e
  obtain ⟨n, en, ln⟩ := h.ix r hr
  have et : pr[n]? = some pr[n] := List.getElem?_eq_getElem ln
  unfold un at e3
  rw [en, Int.toNat_natCast, et] at e3
  obtain ⟨r1, r2, r3⟩ := r
  simp only [Option.getD_some] at e3 en
  cases e3
  refine ⟨n, et, ?_⟩
  rw [← en]
  exact hr
theorem PS.nodup (GA : Good A SA wA WA) (GB : Good B SB wB WB) (D : ∀ r ∈ A.rows, ∀ r' ∈ B.rows, r.2.1 ≠ r'.2.1) (h : PS A B SA SB pr R pr.length []) : R.Nodup := by
  have q : (R.map (un pr)).Nodup := by
    rw [h.tt, List.append_nil]
    exact TT_nodup GA GB D _ (Nat.le_refl _)
  exact nodup_of _ q
theorem PS.len (FA : Fin3 A SA) (FB : Fin3 B SB) (h : PS A B SA SB pr R pr.length []) : R.length ≤ 54 := by
  have e := congrArg List.length h.tt
  rw [List.length_map, List.append_nil] at e
  have h1 := TT_len (pr := pr) FA FB pr.length
  have h2 := prod_le FA.len FB.len h.nd h.sub
  omega
theorem PS.cnt (FA : Fin3 A SA) (FB : Fin3 B SB) (h : PS A B SA SB pr R pr.length []) (s : Int) : cnt R s ≤ 8 := by
  have e : (R.map (un pr)).filter (fun x => decide (x.1 = s)) = (R.filter fun r => decide (r.1 = s)).map (un pr) := by
    rw [List.filter_map]
    rfl
  have q := TT_cnt FA FB (pr := pr) s pr.length (Nat.le_refl _)
  have t := h.tt
  rw [List.append_nil] at t
  rw [← t, e, List.length_map] at q
  exact Nat.le_trans q (by decide)
theorem PS.words (h : PS A B SA SB pr R pr.length []) {r : Row} (hr : r ∈ R) : (∃ a ∈ A.rows, a.2.1 = r.2.1) ∨ ∃ b ∈ B.rows, b.2.1 = r.2.1 := by
  obtain ⟨m, n, pq, t, _, _, _, _, h5⟩ := h.mem hr
  unfold pms at h5
  rcases List.mem_append.mp h5 with z | z
  · obtain ⟨a, ha, e⟩ := List.mem_map.mp z
    simp only [Prod.mk.injEq] at e
    exact .inl ⟨a, (mem_outs.mp ha).1, e.1⟩
  · obtain ⟨a, ha, e⟩ := List.mem_map.mp z
    simp only [Prod.mk.injEq] at e
    exact .inr ⟨a, (mem_outs.mp ha).1, e.1⟩
theorem look_append {t u : Tab} {x : Str} : look (t ++ u) x = (look t x).or (look u x) := by
  unfold look
  rw [List.find?_append]
  cases t.find? (fun p => decide (p.1 = x)) <;> simp
theorem mergeK_tab : ∀ {u t : Tab}, (u.map (·.1)).Nodup → (∀ p ∈ u, ¬ p.1 ∈ t.map (·.1)) → mergeK (tabK t) (tabK u) = tabK (t ++ u)
  | [], t, _, _ => by rw [List.append_nil]; rfl
  | p :: u, t, hn, hd => by
    obtain ⟨h1, h2⟩ := List.nodup_cons.mp (show (p.1 :: u.map (·.1)).Nodup from hn)
    have e : mergeK (tabK t) (tabK (p :: u)) = mergeK (putK (tabK t) (.inr p.1) (.str p.2)) (tabK u) := rfl
    rw [e, put_tab (hd p List.mem_cons_self)]
    have q := mergeK_tab (u := u) (t := t ++ [(p.1, p.2)]) h2 fun z hz => by
      rw [List.map_append, List.mem_append]
      rintro (m | m)
      · exact hd z (List.mem_cons_of_mem _ hz) m
      · rw [show List.map (fun x : Str × Str => x.1) [(p.1, p.2)] = [p.1] from rfl, List.mem_singleton] at m
        exact h1 (by rw [← m]; exact List.mem_map.mpr ⟨z, hz, rfl⟩)
    rw [q, List.append_assoc]
    rfl
theorem nd1 {t : Tab} (h : t.length ≤ 1) : (t.map (·.1)).Nodup := by
  match t, h with
  | [], _ => exact List.nodup_nil
  | [p], _ => simp
theorem ps_prod (GA : Good A SA wA WA) (GB : Good B SB wB WB) (D : ∀ r ∈ A.rows, ∀ r' ∈ B.rows, r.2.1 ≠ r'.2.1) (h : PS A B SA SB pr R pr.length []) {ft : Tab} (hf : ∀ r ∈ R, look ft r.2.1 = look (A.ft ++ B.ft) r.2.1) : Prod A B ⟨0, R, ft⟩ pr where
  start := rfl
  p0 := h.p0
  rows := fun r hr => by
    obtain ⟨m, n, pq, t, h1, h2, h3, h4, h5⟩ := h.mem hr
    refine ⟨m, n, pq.1, pq.2, t.1, t.2, h1, h2, h3, h4, ?_⟩
    unfold pms at h5
    rcases List.mem_append.mp h5 with z | z
    · obtain ⟨a, ha, e⟩ := List.mem_map.mp z
      obtain ⟨a1, a2⟩ := mem_outs.mp ha
      obtain ⟨x, y, z⟩ := a
      simp only [Prod.mk.injEq] at e a2
      obtain ⟨e1, e2⟩ := e
      refine .inl ⟨?_, by rw [← e2]⟩
      rw [← e2, ← a2, ← e1]
      exact a1
    · obtain ⟨a, ha, e⟩ := List.mem_map.mp z
      obtain ⟨a1, a2⟩ := mem_outs.mp ha
      obtain ⟨x, y, z⟩ := a
      simp only [Prod.mk.injEq] at e a2
      obtain ⟨e1, e2⟩ := e
      refine .inr ⟨?_, by rw [← e2]⟩
      rw [← e2, ← a2, ← e1]
      exact a1
  left := fun m p q x p' e hr => by
    obtain ⟨n, h1, h2⟩ := h.has (mv := (x, p', q)) e (List.mem_append_left _ (List.mem_map.mpr ⟨(p, x, p'), mem_outs.mpr ⟨hr, rfl⟩, rfl⟩))
    exact ⟨n, h1, h2⟩
  right := fun m p q x q' e hr => by
    obtain ⟨n, h1, h2⟩ := h.has (mv := (x, p, q')) e (List.mem_append_right _ (List.mem_map.mpr ⟨(q, x, q'), mem_outs.mpr ⟨hr, rfl⟩, rfl⟩))
    exact ⟨n, h1, h2⟩
  fault := fun r hr f => by
    show look ft r.2.1 = some f ↔ look A.ft r.2.1 = some f ∨ look B.ft r.2.1 = some f
    rw [hf r hr, look_append]
    cases e : look A.ft r.2.1 with
    | none => simp
    | some z =>
      have hB : look B.ft r.2.1 = none := look_none fun m => by
        obtain ⟨p, hp, e2⟩ := List.mem_map.mp m
        obtain ⟨_, _, b, hb, eb⟩ := GB.fn p hp
        obtain ⟨_, _, a, ha, ea⟩ := GA.fn _ (look_mem e)
        exact D a ha b hb (by rw [ea, eb, e2])
      rw [hB]
      simp
end

section
variable {P : Program} {w : World} {K : PySem.W.Frag} {mg : Str → Option Value} {base : Heap} {C : Addr}
def spCheckFault (C : Addr) : Sp := fun vs H Q _ => ∃ m M wl f, vs = [.ref m, .str f] ∧ MachAt C H m M wl ∧ M.ft.length ≤ 3 ∧ NameOk f ∧ (∃ q ∈ M.ft, q.2 = f) ∧ ∀ H', Same H H' → Q .non H'
theorem ok_CheckFault {f : Addr} {fd : FuncData} (F : FnP K "check_fault" "check_fault" sCheckFault [] f fd) (T : Tx K mg) (C_is_name : Cal P w K mg base 2 "is_name" ["value"] spIsName) (C_fault_names : CalP P w K mg base 2 C "fault_names" (spFaultNames C)) : FnOk P w K mg base CX0 3 f fd ["machine", "fault"] (spCheckFault C) := by
  refine mk_fn F sc_CheckFault (fun vs H Q E h => ?_) (fun cdv A outer s H vs Q E hr h => ?_)
  · obtain ⟨m, M, wl, f, rfl, _⟩ := h
    rfl
  · obtain ⟨m, M, wl, f, rfl, ⟨d, D⟩, l3, nf, hf, q⟩ := h
    refine ⟨_, (pss_one (ps_if (PW.pt (pw_or (pt_not (pt_val (pc C_is_name hr (pa_cons (pv 1) pa_nil)))) (pw_or1 (pt_cmpR op_notIn_seq (pv 1) (ppr C_fault_names hr (pv 0)) rfl)))) pss_never pss_nil)), ?_⟩
    refine ⟨_, rfl, f, rfl, nf, true, rfl, iteF ?_⟩
    refine ⟨_, rfl, _, rfl, m, d.dx, d.fs, rfl, D.ob, m, M, wl, rfl, ⟨d, D⟩, l3, fun H1 p l s1 np hp ml => ?_⟩
    refine ⟨p, l.map V.str, rfl, .inl (SqL.of hp), rfl, flat_map l, _, rfl, ?_⟩
    have ei : inV (V.str f) (l.map V.str) = true := by rw [inV_strs]; exact decide_eq_true ((ml f).mpr hf)
    rw [ei]
    exact iteF (q _ s1)
def spBeside (C : Addr) : Sp := fun vs H Q _ => ∃ m1 m2 A B wl1 wl2 SA SB WA WB, vs = [.ref m1, .ref m2] ∧ MachAt C H m1 A wl1 ∧ MachAt C H m2 B wl2 ∧ Good A SA wl1 WA ∧ Good B SB wl2 WB ∧ (∀ r ∈ A.rows, ∀ r' ∈ B.rows, r.2.1 ≠ r'.2.1) ∧
  ∀ H' m Cm wl pr, Same H H' → MachAt C H' m Cm wl → Prod A B Cm pr → pr.length ≤ 9 → (∀ s, cnt Cm.rows s ≤ 8) → Cm.rows.length ≤ 80 → Cm.ft.length ≤ 3 → (Cm.ft.map (·.1)).Nodup → (∀ p ∈ Cm.ft, ∃ r ∈ Cm.rows, r.2.1 = p.1) → Q (.ref m) H'
theorem ok_MachineBeside {f : Addr} {fd : FuncData} (F : FnP K "beside" "Machine.beside" sMachineBeside [] f fd) (T : Tx K mg) (TM : TxM K mg C) (C_pair_steps : Cal P w K mg base 7 "pair_steps" ["one", "other", "common"] (spPairSteps C)) (C_fit_faults : Cal P w K mg base 7 "fit_faults" ["rows", "table"] spFitFaults)
    (C_check_sizes : Cal P w K mg base 7 "check_sizes" ["rows", "many"] spCheckSizes) (C_Machine : CalC P w K mg base 7 C "Machine" ["self", "start", "steps", "faults"] (spMachineInit C)) : FnOk P w K mg base CX0 8 f fd ["self", "other"] (spBeside C) := by
  refine mk_fn F sc_MachineBeside (fun vs H Q E h => ?_) (fun cdv A outer s H vs Q E hr h => ?_)
  · obtain ⟨m1, m2, A, B, wl1, wl2, SA, SB, WA, WB, rfl, _⟩ := h
    rfl
  · obtain ⟨m1, m2, MA, MB, wl1, wl2, SA, SB, WA, WB, rfl, ⟨d1, D1⟩, ⟨d2, D2⟩, GA, GB, DJ, q⟩ := h
    have hu := hu_of hr
    have sl : (1000 : Nat) < sizeLine := by decide
    refine ⟨_, (pss_cons (ps_if (pt_not (pt_val (pe_callB call_isi (by rfl) T.isinstance (by decide +kernel) (pa_cons (pv 1) (pa_cons (pgc TM.g) pa_nil))))) pss_never pss_nil)
        (pss_cons (ps_setLc (i := 2) rfl sc_MachineBeside.nd rfl rfl (sw_true rfl rfl rfl (by decide +kernel)) (pi_list (pe_fld (pv 0) rfl)) (blkOk_by (own := [("word", 3)]) (N := ["self", "other", "common", "word", "table", "names", "leaving", "state", "pairs", "rows", "row"]) (sc := defScope sMachineBeside) (by decide +kernel)) (fun _ _ _ _ _ => (pg_name (i := 3) sc_MachineBeside.nd rfl (Or.inl rfl))) (fun _ _ _ _ _ => pts_one (pt_cmpR (r := rIn K false) op_in_seq (pv 3) (pfldK (K := K) (pv 1)) rfl)) (fun _ _ _ _ _ => (pv 3)))
        (pss_cons (ps_for PassesOwn.never rfl (pi_list (pv 2)) (pg_name (i := 3) sc_MachineBeside.nd rfl (Or.inl rfl))
        (pss_one (ps_if (pt_cmpR op_ne (pe_dget1 hu (pe_fld (pv 0) rfl) (pv 3) ⟨rfl, rfl, rfl, rfl⟩) (pe_dget1 hu (pe_fld (pv 1) rfl) (pv 3) ⟨rfl, rfl, rfl, rfl⟩) (nomark _)) pss_never pss_nil)))
        (pss_cons (ps_asg (pc C_pair_steps hr (pa_cons (pv 0) (pa_cons (pv 1) (pa_cons (pv 2) pa_nil)))) (pg_tup (n := 2) rfl (pgs_cons (pg_name (i := 8) sc_MachineBeside.nd rfl (Or.inl rfl)) (pgs_cons (pg_name (i := 9) sc_MachineBeside.nd rfl (Or.inl rfl)) pgs_nil))))
        (pss_cons (ps_set (i := 4) sc_MachineBeside.nd rfl (Or.inl rfl) (pe_spread (pe_fld (pv 0) rfl) (pe_fld (pv 1) rfl)))
        (pss_cons (ps_set (i := 5) sc_MachineBeside.nd rfl (Or.inl rfl) (pc C_fit_faults hr (pa_cons (pv 9) (pa_cons (pv 4) pa_nil))))
        (pss_cons (ps_expr (pc C_check_sizes hr (pa_cons (pv 9) (pa_cons (pe_callB call_len_seq (by rfl) T.len PySem.boot_len (pa_cons (pv 8) pa_nil)) pa_nil))))
        (pss_cons (ps_if (pt_cmpR op_gt (pe_lenS rfl T.len T.set (pe_callTy (call_list_vals rfl) (by rfl) T.list (by decide +kernel) (pa_cons (pe_vals (pv 5)) pa_nil))) (pgi T.MOST_FAULTS) (nomark _)) pss_never pss_nil)
        (pss_cons (ps_dcK (i := 6) rfl sc_MachineBeside.nd rfl rfl (swd_true rfl rfl rfl (by decide +kernel)) (pi_list (pv 9)) (blkOk_by (own := [("row", 10)]) (N := ["self", "other", "common", "word", "table", "names", "leaving", "state", "pairs", "rows", "row"]) (sc := defScope sMachineBeside) (by decide +kernel)) (fun _ _ _ _ _ => (pg_name (i := 10) sc_MachineBeside.nd rfl (Or.inl rfl))) (fun _ _ _ _ _ => pts_nil) (fun _ _ _ _ _ => (pe_ix (r := rIxT K) ix_tup (pv 10) pe_int (fun _ _ => rfl))) (fun _ _ _ _ _ => pe_bl))
        (pss_cons (ps_for PassesOwn.never rfl (pi_range1 rfl T.range (pa_cons (pe_callB call_len_seq (by rfl) T.len PySem.boot_len (pa_cons (pv 8) pa_nil)) pa_nil)) (pg_name (i := 7) sc_MachineBeside.nd rfl (Or.inl rfl))
        (pss_one (ps_if (pt_cmp (pc_dnotin hu (pv 7) (pv 6))) pss_never pss_nil)))
        (pss_one (ps_ret (pmk C_Machine hr (pa_cons pe_int (pa_cons (pv 9) (pa_cons (pv 5) pa_nil)))))))))))))))), ?_⟩
    refine ⟨_, rfl, _, _, _, _, true, rfl, .own C, .base (.ins D2.ob TM.x.cl TM.x.ha TM.x.hn TM.x.htk TM.x.hm), TM.x.self, true, rfl, iteF ?_⟩
    refine ⟨_, rfl, m1, C, d1.dx, d1.fs, _, rfl, D1.ob, TM.x.cl, TM.n3, D1.f3, d1.aw, rfl, ⟨_, SqL.of D1.wl⟩, fun Cn nC => ?_⟩
    refine lc_it walk_list (fun i H' => Same H H' ∧ H' Cn = some (.lst [])) ⟨same_new nC, upd_same⟩ (fun i H' _ h => SqL.of (h.1 _ _ D1.wl)) ?_ ?_
    · rintro i v H2 H3 hi ⟨s2, hCn⟩ ⟨rfl, e1⟩
      obtain ⟨z, hz, rfl⟩ := map_str e1
      have D2' := D2.same s2
      refine ⟨rfl, _, rfl, _, rfl, m2, C, d2.dx, d2.fs, _, rfl, D2'.ob, TM.x.cl, TM.n3, D2'.f3, d2.aw, _, rfl, .inl (SqL.of D2'.wl), rfl, flat_map wl2, _, rfl, ?_⟩
      have hn : ¬ z ∈ wl2 := fun h => by
        obtain ⟨r', hr', e'⟩ := (GB.wl z).mp h
        obtain ⟨r, hr, e⟩ := (GA.wl z).mp (List.mem_of_getElem? hz)
        exact DJ r hr r' hr' (e.trans e'.symm)
      have ei : inV (V.str z) (wl2.map V.str) = false := by rw [inV_strs]; exact decide_eq_false hn
      rw [ei]
      exact iteF ⟨s2, hCn⟩
    rintro H1 ⟨s1, hC⟩
    refine ⟨_, rfl, Cn, rfl, ⟨_, SqL.of hC⟩, ?_⟩
    refine for_it (walk_list (xs := [])) (fun i σ H' => H' = H1 ∧ ∃ y1 y2 y3 y4 y5 y6 y7 y8, σ = [some (.ref m1), some (.ref m2), some (.ref Cn), y1, y2, y3, y4, y5, y6, y7, y8]) ⟨rfl, _, _, _, _, _, _, _, _, rfl⟩ (fun i σ H' _ h => by rw [h.1]; exact SqL.of hC) (fun i x σ H H' hi => absurd hi (Nat.not_lt_zero i)) ?_
    rintro σ H' ⟨rfl, y1, y2, y3, y4, y5, y6, y7, y8, rfl⟩
    refine ⟨_, rfl, _, rfl, _, rfl, m1, m2, Cn, MA, MB, wl1, wl2, SA, SB, rfl, ⟨d1, D1.same s1⟩, ⟨d2, D2.same s1⟩, GA.fin, GB.fin, hC, fun H2 t pl rl pas pr R s2 ht hpl epl hrl ps => ?_⟩
    refine ⟨t, _, rfl, SqT.of ht, rfl, _, _, rfl, _, _, rfl, rfl, fun Tb nT => ?_⟩
    have sE := same_new (o := .dK []) nT
    have s02 := s1.trans s2
    have D1' := (D1.same s02).same sE
    have nTf : d1.af ≠ Tb := ne_new (D1.same s02).ft nT
    have lA := GA.fl
    have lB := GB.fl
    have eA : mergeK [] (tabK MA.ft) = tabK MA.ft := by
      have z := mergeK_tab (u := MA.ft) (t := []) (nd1 lA) fun p _ m => nomatch m
      exact z
    have eAB : mergeK (tabK MA.ft) (tabK MB.ft) = tabK (MA.ft ++ MB.ft) := mergeK_tab (nd1 lB) fun p hp m => by
      obtain ⟨p', hp', e⟩ := List.mem_map.mp m
      obtain ⟨_, _, b, hb, eb⟩ := GB.fn p hp
      obtain ⟨_, _, a, ha, ea⟩ := GA.fn p' hp'
      exact DJ a ha b hb (by rw [ea, eb, e])
    have lenK : ∀ t : Tab, (tabK t).length = t.length := fun t => by unfold tabK; rw [List.length_map]
    refine ⟨_, rfl, m1, C, d1.dx, d1.fs, _, rfl, D1'.ob, TM.x.cl, TM.n4, D1'.f4, d1.af, _, rfl, nTf, D1'.ft, upd_same, by rw [lenK]; omega, ?_⟩
    rw [eA]
    have sF : Same H2 (upd (upd H2 Tb (.dK [])) Tb (.dK (tabK MA.ft))) := same_mut sE nT
    have D2' := (D2.same s02).same sF
    have nTg : d2.af ≠ Tb := ne_new (D2.same s02).ft nT
    refine ⟨_, rfl, m2, C, d2.dx, d2.fs, _, rfl, D2'.ob, TM.x.cl, TM.n4, D2'.f4, d2.af, _, rfl, nTg, D2'.ft, upd_same, by rw [lenK, lenK]; omega, ?_⟩
    rw [eAB]
    have s3 : Same H2 (upd (upd (upd H2 Tb (.dK [])) Tb (.dK (tabK MA.ft))) Tb (.dK (tabK (MA.ft ++ MB.ft)))) := same_mut sF nT
    have hT3 := upd_same (H := upd (upd H2 Tb (.dK [])) Tb (.dK (tabK MA.ft))) (a := Tb) (o := .dK (tabK (MA.ft ++ MB.ft)))
    generalize upd (upd (upd H2 Tb (.dK [])) Tb (.dK (tabK MA.ft))) Tb (.dK (tabK (MA.ft ++ MB.ft))) = H3 at s3 hT3 ⊢
    have l54 := ps.len GA.fin GB.fin
    have few : Few14 R := ⟨WA ++ WB, by rw [List.length_append]; have := GA.w7; have := GB.w7; omega, fun r hr => by
      rcases ps.words hr with ⟨a, ha, e⟩ | ⟨a, ha, e⟩
      · rw [← e]
        exact List.mem_append_left _ (GA.wW a ha)
      · rw [← e]
        exact List.mem_append_right _ (GB.wW a ha)⟩
    have pl9 := prod_le GA.fin.len GB.fin.len ps.nd ps.sub
    refine ⟨_, rfl, _, rfl, rl, Tb, R, MA.ft ++ MB.ft, rfl, hrl.same s3, by omega, few, hT3, fun H4 Nm wl' s4 nN nd4 mw4 hN => ?_⟩
    have sH4 := (s02.trans s3).trans s4
    have s24 := s3.trans s4
    have epl' : (pas.map V.ref).length = pr.length := by rw [List.length_map]; exact epl
    have hR0 : ∃ r0, r0 ∈ R := by
      obtain ⟨r, hr, e⟩ := GA.fin.live _ GA.fin.st
      obtain ⟨n, _, h2⟩ := ps.has (mv := (r.2.1, r.2.2, MB.start)) ps.p0 (List.mem_append_left _ (List.mem_map.mpr ⟨r, mem_outs.mpr ⟨hr, e⟩, rfl⟩))
      exact ⟨_, h2⟩
    have hRne : R ≠ [] := fun e => by
      obtain ⟨r0, h0⟩ := hR0
      rw [e] at h0
      cases h0
    refine ⟨_, rfl, _, rfl, pl, _, rfl, .inl (SqL.of (s24 _ _ hpl)), rl, R, (pas.map V.ref).length, rfl, hrl.same s24, hRne, by omega, by omega, ps.cnt GA.fin GB.fin, few, fun H5 s5 => ?_⟩
    have hN5 := s5 _ _ hN
    have hln : (tabOf wl' (MA.ft ++ MB.ft)).length ≤ 2 := by
      have := tabOf_len (ft := MA.ft ++ MB.ft) nd4
      rw [List.length_append] at this
      omega
    refine ⟨_, rfl, Nm, rfl, ⟨_, .inl ⟨_, hN5, rfl⟩⟩, fun v nv => ?_⟩
    have s6 := same_new (o := VwO v Nm) nv
    refine ⟨v, Nm, _, rfl, upd_same, .inl ⟨_, up_new hN5 nv, rfl⟩, fun p2 np2 => ?_⟩
    have s7 := same_add (o := .lst ((tabK (tabOf wl' (MA.ft ++ MB.ft))).map (·.2))) s6 np2
    have ezs : (tabK (tabOf wl' (MA.ft ++ MB.ft))).map (·.2) = ((tabOf wl' (MA.ft ++ MB.ft)).map (·.2)).map V.str := by unfold tabK; rw [List.map_map, List.map_map]; rfl
    refine ⟨p2, _, rfl, SqL.of (by rw [upd_same, ezs]), by rw [List.length_map]; show _ < 4096; omega, fun n hn => ?_⟩
    have n3 : n ≤ 2 := by
      have e := vals_le (ft := tabOf wl' (MA.ft ++ MB.ft))
      unfold valsOf at e
      omega
    refine ⟨_, _, rfl, rfl, _, rfl, ?_⟩
    rw [decide_eq_false (show ¬ (3 : Int) < ((n : Nat) : Int) by omega)]
    refine iteF ?_
    have sH7 := (sH4.trans s5).trans s7
    have s27 := (s24.trans s5).trans s7
    have hN7 := s7 _ _ hN5
    generalize upd (upd H5 v (VwO v Nm)) p2 (.lst ((tabK (tabOf wl' (MA.ft ++ MB.ft))).map (·.2))) = H7 at sH7 s27 hN7
    obtain ⟨rts, hrl7, prR⟩ := hrl.same s27
    refine ⟨_, rfl, rl, rfl, ⟨_, SqL.of hrl7⟩, fun Dn nD => ?_⟩
    refine cc_it (U := fun _ => .dK []) walk_list (fun i H' => Same H7 H' ∧ ∃ kvs, H' Dn = some (.dK kvs) ∧ kvs.length ≤ i ∧ ∀ r ∈ R.take i, (valV kvs (.inl r.1)).isSome = true) ⟨same_new nD, [], upd_same, Nat.le_refl _, fun r h => nomatch h⟩ (fun i H' _ h => SqL.of (h.1 _ _ hrl7)) ?_ ?_
    · rintro i v2 H8 H9 hi ⟨s8, kvs, hD, hk, hs⟩ ⟨rfl, e1⟩
      obtain ⟨tr, htr, rfl⟩ := map_ref e1
      obtain ⟨r, hr0, hRow⟩ := RowsAt.at (l := rl) prR htr
      have hil : i < R.length := (List.getElem?_eq_some_iff.mp hr0).1
      refine ⟨rfl, ?_⟩
      refine ⟨_, rfl, tr, _, _, _, rfl, rfl, SqT.of (s8 _ _ hRow), atI_nat (j := 0) rfl, kvs, .inl r.1, rfl, hD, by omega, same_mut s8 nD, _, upd_same, Nat.le_trans (length_putK _ _ _) (Nat.succ_le_succ hk), fun r2 h2 => ?_⟩
      rw [valV_put]
      split
      · rfl
      · next ne =>
        rw [take_snoc hr0] at h2
        rcases List.mem_append.mp h2 with z | z
        · exact hs r2 z
        · rw [List.mem_singleton.mp z] at ne
          exact absurd rfl ne
    rintro H8 ⟨s8, kvs, hD, hk, hs⟩
    have elr : (rts.map V.ref).length = R.length := by rw [List.length_map]; exact Paired.length prR
    rw [elr, List.take_length] at hs
    have hpl8 := s8 _ _ (s27 _ _ hpl)
    refine ⟨_, rfl, pl, _, rfl, .inl (SqL.of hpl8), _, rfl, by omega, by omega, ?_⟩
    have etn : (((pas.map V.ref).length : Nat) : Int).toNat = pr.length := by rw [Int.toNat_natCast, epl']
    rw [etn]
    refine for_it walk_range (fun i σ H' => H' = H8 ∧ ∃ y, σ = [some (.ref m1), some (.ref m2), some (.ref Cn), y1, some (.ref Tb), some (.ref Nm), some (.ref Dn), y, some (.ref pl), some (.ref rl), y8]) ⟨rfl, _, rfl⟩ (fun _ _ _ _ _ => trivial) ?_ ?_
    · rintro i v2 σ H9 HA hi ⟨rfl, y, rfl⟩ ⟨rfl, rfl⟩
      have e0 : pr[i]? = some pr[i] := List.getElem?_eq_getElem hi
      obtain ⟨r, hr, e⟩ := GA.fin.live _ (ps.sub _ (List.getElem_mem hi)).1
      obtain ⟨n2, _, h2⟩ := ps.has (mv := (r.2.1, r.2.2, pr[i].2)) e0 (List.mem_append_left _ (List.mem_map.mpr ⟨r, mem_outs.mpr ⟨hr, e⟩, rfl⟩))
      have z := hs _ h2
      refine ⟨_, rfl, _, rfl, Dn, _, rfl, DGet.k (k := Sum.inl ((0 : Int) + (i : Nat))) hD, _, rfl, ?_⟩
      have z2 : (valV kvs (.inl ((0 : Int) + (i : Nat)))).isSome = true := by rw [Int.zero_add]; exact z
      rw [z2]
      exact iteF ⟨rfl, _, rfl⟩
    rintro σ H9 ⟨rfl, y, rfl⟩
    have sH8 := sH7.trans s8
    refine ⟨_, rfl, _, rfl, fun x dx nx ndx nxd => ?_⟩
    have hx : ∀ a o, H9 a = some o → a ≠ x := fun a o e => ne_new e nx
    have hdx : ∀ a o, H9 a = some o → a ≠ dx := fun a o e => ne_new e ndx
    have sX : Same H9 (upd (upd H9 dx (.own x)) x (.ins C dx [])) := same_add (same_new ndx) (by rw [upd_ne (Ne.symm nxd)]; exact nx)
    have ixs : ∀ r ∈ R, 0 ≤ r.1 ∧ r.1 ≤ 99 ∧ 0 ≤ r.2.2 ∧ r.2.2 ≤ 99 ∧ NameOk r.2.1 := fun r hr => by
      obtain ⟨m, n, pq, t', e1, e2, e3, e4, _⟩ := ps.mem hr
      have h1 := (List.getElem?_eq_some_iff.mp e3).1
      have h2 := (List.getElem?_eq_some_iff.mp e4).1
      refine ⟨by omega, by omega, by omega, by omega, ?_⟩
      rcases ps.words hr with ⟨a, ha, e⟩ | ⟨a, ha, e⟩
      · rw [← e]
        exact GA.nm a ha
      · rw [← e]
        exact GB.nm a ha
    refine ⟨x, 0, rl, Nm, dx, R, tabOf wl' (MA.ft ++ MB.ft), rfl, upd_same, by decide, by decide, RowsAt.same sX (RowsAt.same s8 ⟨rts, hrl7, prR⟩), ⟨hRne, by omega, ixs, ps.nodup GA GB DJ, ps.cnt GA.fin GB.fin⟩, few, sX _ _ (s8 _ _ hN7), by omega, fun p hp => ?_, fun z => ∃ n : Nat, z = (n : Int) ∧ n < pr.length, ⟨0, rfl, (List.getElem?_eq_some_iff.mp ps.p0).1⟩, fun r hr _ => ps.ix r hr, fun z hz => ?_, fun H' wl sx nwl mwl MC => ⟨rfl, ?_⟩⟩
    · have hp2 := tabOf_mem hp
      have hw : p.1 ∈ wl' := by
        have z : p.1 ∈ (tabOf wl' (MA.ft ++ MB.ft)).map (·.1) := List.mem_map.mpr ⟨p, hp, rfl⟩
        rw [tabOf_keys, List.mem_filter] at z
        exact z.1
      rcases List.mem_append.mp hp2 with z | z
      · obtain ⟨a1, a2, _⟩ := GA.fn p z
        exact ⟨a1, a2, (mw4 _).mp hw⟩
      · obtain ⟨a1, a2, _⟩ := GB.fn p z
        exact ⟨a1, a2, (mw4 _).mp hw⟩
    · obtain ⟨n, rfl, hn⟩ := hz
      have e0 : pr[n]? = some pr[n] := List.getElem?_eq_getElem hn
      obtain ⟨r, hr, e⟩ := GA.fin.live _ (ps.sub _ (List.getElem_mem hn)).1
      obtain ⟨n2, _, h2⟩ := ps.has (mv := (r.2.1, r.2.2, pr[n].2)) e0 (List.mem_append_left _ (List.mem_map.mpr ⟨r, mem_outs.mpr ⟨hr, e⟩, rfl⟩))
      exact ⟨_, h2, rfl⟩
    · have lk : ∀ r ∈ R, look (tabOf wl (tabOf wl' (MA.ft ++ MB.ft))) r.2.1 = look (MA.ft ++ MB.ft) r.2.1 := fun r hr => by
        rw [look_tabOf nwl, if_pos ((mwl _).mpr ⟨r, hr, rfl⟩), look_tabOf nd4, if_pos ((mw4 _).mpr ⟨r, hr, rfl⟩)]
      have sF9 : Same H H' := fun b o e => sx _ _ (sX _ _ (sH8 _ _ e)) (hx _ _ (sH8 _ _ e))
      have l2 := tabOf_len (ft := tabOf wl' (MA.ft ++ MB.ft)) nwl
      refine q H' x _ wl pr sF9 MC (ps_prod GA GB DJ ps lk) pl9 (ps.cnt GA.fin GB.fin) (by show R.length ≤ 80; omega) (Nat.le_trans l2 (Nat.le_trans hln (by decide))) ?_ fun p hp => ?_
      · show ((tabOf wl (tabOf wl' (MA.ft ++ MB.ft))).map (·.1)).Nodup
        rw [tabOf_keys]
        exact nwl.filter _
      · have z : p.1 ∈ (tabOf wl (tabOf wl' (MA.ft ++ MB.ft))).map (·.1) := List.mem_map.mpr ⟨p, hp, rfl⟩
        rw [tabOf_keys, List.mem_filter] at z
        exact (mwl _).mp z.1
end
end Kn

end
section
set_option maxHeartbeats 4000000
/-! Watches; first_tuple, side_moves, answers_to. -/
namespace Kn
open PySem PySem.Spec PyProof.Rows L2
theorem sc_WatchInit : FnScope ["self", "sights", "word"] ["self", "sights"] (defScope sWatchInit) := ⟨rfl, rfl, rfl, by decide +kernel, rfl, by decide +kernel, by decide +kernel⟩
theorem sc_IsSightTable : FnScope ["value", "word", "sight"] ["value"] (defScope sIsSightTable) := ⟨rfl, rfl, rfl, by decide +kernel, rfl, by decide +kernel, by decide +kernel⟩
theorem sc_CheckWatches : FnScope ["watches", "at", "watch"] ["watches"] (defScope sCheckWatches) := ⟨rfl, rfl, rfl, by decide +kernel, rfl, by decide +kernel, by decide +kernel⟩
theorem sc_FirstTuple : FnScope ["machine", "rows", "at"] ["machine", "rows"] (defScope sFirstTuple) := ⟨rfl, rfl, rfl, by decide +kernel, rfl, by decide +kernel, by decide +kernel⟩
theorem sc_SideMoves : FnScope ["machine", "rows", "fault", "spot", "moves", "at", "watch", "number", "row", "numbers", "end", "k"] ["machine", "rows", "fault", "spot"] (defScope sSideMoves) := ⟨rfl, rfl, rfl, by decide +kernel, rfl, by decide +kernel, by decide +kernel⟩
theorem sc_AnswersTo : FnScope ["machine", "watch", "fault", "state", "sight", "found", "number"] ["machine", "watch", "fault", "state", "sight"] (defScope sAnswersTo) := ⟨rfl, rfl, rfl, by decide +kernel, rfl, by decide +kernel, by decide +kernel⟩
theorem tabK_at {t : Tab} {i : Nat} (h : i < (tabK t).length) : ∃ p, t[i]? = some p ∧ (tabK t)[i]? = some (Sum.inr p.1, V.str p.2) := by
  have hi2 : i < t.length := by rw [tabK, List.length_map] at h; exact h
  refine ⟨t[i], List.getElem?_eq_getElem hi2, ?_⟩
  unfold tabK
  rw [List.getElem?_map, List.getElem?_eq_getElem hi2]
  rfl
section
variable {P : Program} {w : World} {K : PySem.W.Frag} {mg : Str → Option Value} {base : Heap} {C CW : Addr}
def spIsSightTable : Sp := fun vs H Q _ => ∃ d t, vs = [.ref d] ∧ H d = some (.dK (tabK t)) ∧ (∀ p ∈ t, NameOk p.1 ∧ NameOk p.2) ∧ ∀ H', Same H H' → Q (.bl true) H'
theorem ok_IsSightTable {f : Addr} {fd : FuncData} (F : FnP K "is_sight_table" "is_sight_table" sIsSightTable [] f fd) (T : Tx K mg) (C_is_name : Cal P w K mg base 1 "is_name" ["value"] spIsName) : FnOk P w K mg base CX0 2 f fd ["value"] spIsSightTable := by
  refine mk_fn F sc_IsSightTable (fun vs H Q E h => ?_) (fun cdv A outer s H vs Q E hr h => ?_)
  · obtain ⟨d, t, rfl, _⟩ := h
    rfl
  · obtain ⟨d, t, rfl, hd, nm, q⟩ := h
    refine ⟨_, (pss_cons (ps_if (pt_not (pt_val (pe_callB call_isi (by rfl) T.isinstance (by decide +kernel) (pa_cons (pv 0) (pa_cons (pty "dict" T.dict) pa_nil))))) (pss_one (ps_ret pe_bl)) pss_nil)
        (pss_cons (ps_lock (ps_for PassesOwn.never rfl (pi_items (pv 0)) (pg_tup (n := 2) rfl (pgs_cons (pg_name (i := 1) sc_IsSightTable.nd rfl (Or.inl rfl)) (pgs_cons (pg_name (i := 2) sc_IsSightTable.nd rfl (Or.inl rfl)) pgs_nil)))
        (pss_one (ps_if (PW.pt (pw_or (pt_not (pt_val (pc C_is_name hr (pa_cons (pv 1) pa_nil)))) (pw_or1 (pt_not (pt_val (pc C_is_name hr (pa_cons (pv 2) pa_nil))))))) (pss_one (ps_ret pe_bl)) pss_nil))))
        (pss_one (ps_ret pe_bl)))), ?_⟩
    refine ⟨_, rfl, _, _, _, _, true, rfl, .ty _, .base (.dK hd), kit_ty (by decide +kernel), true, rfl, iteF ?_⟩
    refine ⟨d, .dK (tabK t), hd, trivial, fun od => ?_⟩
    refine ⟨_, rfl, d, od, tabK t, rfl, upd_same, ?_⟩
    refine for_it walk_items (fun i σ H' => SameX d H H' ∧ H' d = some (.frz od (.dK (tabK t))) ∧ ∃ x y, σ = [some (.ref d), x, y]) ⟨SameX.lock (Same.refl H), upd_same, _, _, rfl⟩ (fun i σ H' _ h => h.2.1) ?_ ?_
    · rintro i v σ H1 H2 hi ⟨sH, hD, x, y, rfl⟩ ⟨Tp, u1, u2, rfl, nT, rfl, h1, h2⟩
      obtain ⟨p, hp, ek⟩ := tabK_at hi
      obtain ⟨o1, o2⟩ := nm p (List.mem_of_getElem? hp)
      obtain rfl : u1 = V.str p.1 := by
        have z := h1
        simp only [ek] at z
        exact (Option.some.inj z).symm
      obtain rfl : u2 = V.str p.2 := by
        have z := h2
        simp only [ek] at z
        exact (Option.some.inj z).symm
      refine ⟨Tp, _, rfl, SqT.of upd_same, rfl, _, _, rfl, _, _, rfl, rfl, ?_⟩
      refine ⟨_, rfl, p.1, rfl, o1, true, rfl, iteF ?_⟩
      refine ⟨_, rfl, p.2, rfl, o2, true, rfl, iteF ?_⟩
      exact ⟨sH.add nT, up_new hD nT, _, _, rfl⟩
    · rintro σ H1 ⟨sH, hD, x, y, rfl⟩
      exact ⟨hD, q _ (sH.back hd)⟩
def spWatchInit (CW : Addr) : Sp := fun vs H Q _ => ∃ x d dx t, vs = [.ref x, .ref d] ∧ H x = some (.ins CW dx []) ∧ H d = some (.dK (tabK t)) ∧ (t.map (·.1)).Nodup ∧ t.length ≤ 100 ∧ (∀ p ∈ t, NameOk p.1 ∧ NameOk p.2) ∧ ∀ H', SameX x H H' → WatchAt CW H' x t → Q .non H'
theorem ok_WatchInit {f : Addr} {fd : FuncData} (F : FunD K "__init__" "Watch.__init__" (defArgs sWatchInit) (defBody sWatchInit) (defScope sWatchInit) [.non] [] f fd) (T : Tx K mg) (TW : TxW K mg CW) (C_is_sight_table : Cal P w K mg base 2 "is_sight_table" ["value"] spIsSightTable) : FnOk P w K mg base CX0 3 f fd ["self", "sights"] (spWatchInit CW) := by
  refine F.ok sc_WatchInit (fun vs H Q E h => ?_) (fun cdv A outer s H vs Q E hr h => ?_)
  · obtain ⟨x, d, dx, t, rfl, _⟩ := h
    rfl
  · obtain ⟨x, d, dx, t, rfl, hx, hd, nd, t100, nm, q⟩ := h
    have hu := hu_of hr
    have sl : (1000 : Nat) < sizeLine := by decide
    suffices body : ∃ u, PSs (cxOf CX0 P w K mg base ["self", "sights", "word"] "Watch.__init__" (defScope sWatchInit) f cdv A outer s H E).nox (defBody sWatchInit) u ∧ u { nx := fun _ H' => Q .non H', rt := Q } (L2.start ["self", "sights", "word"] [.ref x, .ref d]) H from let ⟨t, p, q⟩ := body; ⟨t, p.nox, q⟩
    refine ⟨_, (pss_cons (ps_if (PW.pt (pw_and (pt_cmpR op_notN (pv 1) pe_non (nomark _)) (pw_and1 (pt_not (pt_val (pc C_is_sight_table hr (pa_cons (pv 1) pa_nil))))))) pss_never pss_nil)
        (pss_cons (ps_fld (pv 0) pe_dnewK rfl)
        (pss_one (ps_if (pt_cmpR op_notN (pv 1) pe_non (nomark _)) (pss_one (ps_fld (pv 0) (pe_lock (pe_dcK rfl sc_WatchInit.nd (pi_keys (pv 1)) (blkOk_by (own := [("word", 2)]) (N := ["self", "sights", "word"]) (sc := defScope sWatchInit) (by decide +kernel)) (fun _ _ _ _ _ => (pg_name (i := 2) sc_WatchInit.nd rfl (Or.inl rfl))) (fun _ _ _ _ _ => pts_nil) (fun _ _ _ _ _ => (pv 2)) (fun _ _ _ _ _ => (pe_dget hu (pv 1) (pv 2) (fun _ _ => rfl))))) rfl)) pss_nil)))), ?_⟩
    have ndx : d ≠ x := ne_of hd hx (by intro z; cases z)
    refine ⟨_, rfl, rfl, _, rfl, iteT ?_⟩
    refine ⟨_, rfl, d, t, rfl, hd, nm, fun H1 s1 => ⟨true, rfl, iteF ?_⟩⟩
    intro Tn nT
    have nTx : Tn ≠ x := fun z => by rw [z, s1 _ _ hx] at nT; cases nT
    have s2 := s1.trans (same_new (o := .dK []) nT)
    refine ⟨_, rfl, x, CW, dx, _, rfl, s2 _ _ hx, TW.x.cl, TW.n1, Nat.le_of_ble_eq_true rfl, ?_⟩
    have s3 : SameX x H (upd (upd H1 Tn (.dK [])) x (.ins CW dx (putF "table" (.ref Tn) []))) := SameX.lock s2
    have hx3 : (upd (upd H1 Tn (.dK [])) x (.ins CW dx (putF "table" (.ref Tn) []))) x = some _ := upd_same
    generalize upd (upd H1 Tn (.dK [])) x (.ins CW dx (putF "table" (.ref Tn) [])) = H3 at s3 hx3
    refine ⟨_, rfl, rfl, _, rfl, iteT ?_⟩
    have hd3 := s3 _ _ hd ndx
    refine ⟨d, .dK (tabK t), hd3, trivial, fun od => ?_⟩
    refine ⟨_, rfl, d, od, rfl, .inl ⟨_, upd_same, fun Dn nD => ?_⟩⟩
    have nDd : Dn ≠ d := fun z => by rw [z, upd_same] at nD; cases nD
    refine cc_it (U := fun _ => .dK []) walk_keys (fun i H' => SameX d H3 H' ∧ H' d = some (.frz od (.dK (tabK t))) ∧ H' Dn = some (.dK (tabK (t.take i)))) ⟨(SameX.lock (Same.refl _)).mut (by rw [upd_ne nDd] at nD; exact nD), by rw [upd_ne (Ne.symm nDd)]; exact upd_same, upd_same⟩ (fun i H' _ h => h.2.1) ?_ ?_
    · rintro i v H4 H5 hi ⟨s4, hD, hN⟩ ⟨rfl, k, v2, e1, rfl⟩
      obtain ⟨p, hp, ek⟩ := tabK_at hi
      rw [ek] at e1
      cases e1
      have hil : i < t.length := (List.getElem?_eq_some_iff.mp hp).1
      have lp : look t p.1 = some p.2 := look_nodup nd (List.mem_of_getElem? hp)
      refine ⟨rfl, ?_⟩
      refine ⟨_, rfl, _, rfl, _, rfl, d, .str p.2, rfl, .inl ⟨tabK t, .inr p.1, .inr ⟨od, hD⟩, rfl, by rw [valV_tab, lp]; rfl⟩, tabK (t.take i), .inr p.1, rfl, hN, by unfold tabK; rw [List.length_map, List.length_take]; omega, ?_⟩
      have hnot : ¬ p.1 ∈ (t.take i).map (·.1) := fun z => by
        have e2 : (t.take (i + 1)).map (·.1) = (t.take i).map (·.1) ++ [p.1] := by rw [take_snoc hp, List.map_append]; rfl
        have n2 : ((t.take (i + 1)).map (·.1)).Nodup := ((List.take_sublist _ _).map _).nodup nd
        rw [e2] at n2
        exact (List.nodup_append.mp n2).2.2 _ z _ (by simp) rfl
      have nD3 : H3 Dn = none := by rw [upd_ne nDd] at nD; exact nD
      refine ⟨s4.mut nD3, by rw [upd_ne (Ne.symm nDd)]; exact hD, ?_⟩
      rw [upd_same, put_tab hnot, take_snoc hp]
    · rintro H4 ⟨s4, hD, hN⟩
      have elt : (tabK t).length = t.length := by unfold tabK; rw [List.length_map]
      rw [elt, List.take_length] at hN
      refine ⟨hD, _, rfl, x, CW, dx, _, rfl, by rw [upd_ne (Ne.symm ndx)]; exact s4 _ _ hx3 (Ne.symm ndx), TW.x.cl, TW.n1, Nat.le_of_ble_eq_true rfl, ?_⟩
      have nDx : Dn ≠ x := fun z => by
        rw [z, s4 _ _ hx3 (Ne.symm ndx)] at hN
        cases hN
      refine q _ ?_ ⟨dx, _, Dn, upd_same, rfl, up_ne (by rw [upd_ne nDd]; exact hN) nDx⟩
      intro b o e n
      rw [upd_ne n]
      by_cases hb : b = d
      · subst hb
        rw [upd_same, ← e, hd]
      · rw [upd_ne hb]
        exact s4 _ _ (s3 _ _ e n) hb
def spCheckWatches (CW : Addr) : Sp := fun vs H Q _ => ∃ l ws, vs = [.ref l] ∧ WsAt CW H l ws ∧ 1 ≤ ws.length ∧ ws.length ≤ 3 ∧ ∀ H' p, Same H H' → H p = none → WsAt CW H' p ws → Q (.ref p) H'
theorem ok_CheckWatches {f : Addr} {fd : FuncData} (F : FnP K "check_watches" "check_watches" sCheckWatches [] f fd) (T : Tx K mg) (TW : TxW K mg CW) (C_is_row : Cal P w K mg base 1 "is_row" ["value"] (spIsRow K)) : FnOk P w K mg base CX0 2 f fd ["watches"] (spCheckWatches CW) := by
  refine mk_fn F sc_CheckWatches (fun vs H Q E h => ?_) (fun cdv A outer s H vs Q E hr h => ?_)
  · obtain ⟨l, ws, rfl, _⟩ := h
    rfl
  · obtain ⟨l, ws, rfl, ⟨as, hl, pr⟩, w1, w3, q⟩ := h
    refine ⟨_, (pss_cons (ps_if (PW.pt (pw_or (pt_not (pt_val (pc C_is_row hr (pa_cons (pv 0) pa_nil)))) (pw_or1 (pt_not (pt_chain op_le op_le pe_int (pe_callB call_len_seq (by rfl) T.len PySem.boot_len (pa_cons (pv 0) pa_nil)) (pgi T.MOST_WATCHES)))))) pss_never pss_nil)
        (pss_cons (ps_for PassesOwn.never rfl (pi_enum rfl T.enumerate (pa_cons (pv 0) pa_nil)) (pg_tup (n := 2) rfl (pgs_cons (pg_name (i := 1) sc_CheckWatches.nd rfl (Or.inl rfl)) (pgs_cons (pg_name (i := 2) sc_CheckWatches.nd rfl (Or.inl rfl)) pgs_nil)))
        (pss_one (ps_if (pt_not (pt_val (pe_callB call_isi (by rfl) T.isinstance (by decide +kernel) (pa_cons (pv 2) (pa_cons (pgc TW.g) pa_nil))))) pss_never pss_nil)))
        (pss_one (ps_ret (pe_callTy call_list_of (by rfl) T.list (by decide +kernel) (pa_cons (pv 0) pa_nil)))))), ?_⟩
    refine ⟨_, rfl, l, _, rfl, hl, fun H1 s1 => ⟨true, rfl, iteF ?_⟩⟩
    have ll : (as.map V.ref).length = ws.length := by rw [List.length_map]; exact Paired.length pr
    refine ⟨_, rfl, l, _, rfl, .inl (SqL.of (s1 _ _ hl)), _, _, rfl, rfl, _, rfl, ?_⟩
    rw [if_pos (decide_eq_true (show (1 : Int) ≤ ((as.map V.ref).length : Int) by omega))]
    refine ⟨_, _, rfl, rfl, _, rfl, ?_⟩
    have e : decide (((as.map V.ref).length : Int) ≤ 3) = true := decide_eq_true (by omega)
    rw [e]
    refine iteF ?_
    refine ⟨_, rfl, l, as.map V.ref, rfl, SqL.of (s1 _ _ hl), ?_⟩
    refine for_it walk_enum (fun i σ H' => Same H H' ∧ ∃ x y, σ = [some (.ref l), x, y]) ⟨s1, _, _, rfl⟩ (fun i σ H' _ h => SqL.of (h.1 _ _ hl)) ?_ ?_
    · rintro i v σ H2 H3 hi ⟨s2, x, y, rfl⟩ ⟨Tp, u1, u2, rfl, nT, rfl, h1, h2⟩
      obtain ⟨a, ha, rfl⟩ := map_ref h2
      cases h1
      obtain ⟨t, ht, dx, fs, ad, w1', w2', w3'⟩ := L2.paired_get pr ha
      refine ⟨Tp, _, rfl, SqT.of upd_same, rfl, _, _, rfl, _, _, rfl, rfl, ?_⟩
      refine ⟨_, rfl, _, _, _, _, true, rfl, .own CW, .base (.ins (up_new (s2 _ _ w1') nT) TW.x.cl TW.x.ha TW.x.hn TW.x.htk TW.x.hm), TW.x.self, true, rfl, iteF ⟨same_add s2 nT, _, _, rfl⟩⟩
    · rintro σ H2 ⟨s2, x, y, rfl⟩
      refine ⟨_, rfl, l, _, rfl, .inl (SqL.of (s2 _ _ hl)), fun p np => ?_⟩
      exact q _ p (same_add s2 np) (s2.free np) ⟨as, upd_same, Paired.mapP pr fun _ _ z => z.same (same_add s2 np)⟩
end
end Kn

end
section
set_option maxHeartbeats 4000000
/-! first_tuple, side_moves, answers_to. -/
namespace Kn
open PySem PySem.Spec PyProof.Rows L2
theorem new_at {H : Hp} {p : Addr} {o : HO} (n : H p = none) : upd H p o p = some o := upd_same
theorem ixN_nat {n j : Nat} (h : j < n) : ixN n (j : Int) = some j := by
  unfold ixN
  rw [if_pos (by omega), if_pos (by omega), Int.toNat_natCast]
theorem cut_to {xs : List V} {k : Nat} (h : k ≤ xs.length) : cutV xs none (some (k : Int)) = xs.take k := by
  unfold cutV
  rw [HT.sIx_none, HT.sIx_nat, List.drop_zero, Nat.min_eq_left h, Nat.sub_zero]
theorem cut_from {xs : List V} {k : Nat} (h : k ≤ xs.length) : cutV xs (some (k : Int)) none = xs.drop k := by
  unfold cutV
  rw [HT.sIx_none, HT.sIx_nat, Nat.min_eq_left h, List.take_of_length_le]
  rw [List.length_drop]
  exact Nat.le_refl _
theorem cut_set {sp : List Int} {k : Nat} {x : Int} (h : k + 1 < sp.length) : (cutV (sp.map V.int) none (some ((k : Int) + 1)) ++ [V.int x]) ++ cutV (sp.map V.int) (some ((k : Int) + 2)) none = (sp.set (k + 1) x).map V.int := by
  have e1 : cutV (sp.map V.int) none (some ((k : Int) + 1)) = (sp.map V.int).take (k + 1) := cut_to (k := k + 1) (by rw [List.length_map]; omega)
  have e2 : cutV (sp.map V.int) (some ((k : Int) + 2)) none = (sp.map V.int).drop (k + 2) := cut_from (k := k + 2) (by rw [List.length_map]; omega)
  rw [e1, e2, List.set_eq_take_append_cons_drop, if_pos h, List.map_append, List.map_cons, List.map_take, List.map_drop, List.append_assoc]
  rfl
theorem cut_len {sp : List Int} {k : Nat} (h : k + 1 < sp.length) : (cutV (sp.map V.int) none (some ((k : Int) + 1))).length = k + 1 := by
  have e1 : cutV (sp.map V.int) none (some ((k : Int) + 1)) = (sp.map V.int).take (k + 1) := cut_to (k := k + 1) (by rw [List.length_map]; omega)
  rw [e1, List.length_take, List.length_map]
  omega
def SMvAt (H : Hp) (a : Addr) (e : List Int) : Prop := ∃ b c ns, H a = some (.tup [.ref b, .ref c]) ∧ SpotAt H b ns ∧ SpotAt H c e
theorem SMvAt.tups {H H' : Hp} (s : Tups H H') {a : Addr} {e : List Int} (h : SMvAt H a e) : SMvAt H' a e := let ⟨b, c, ns, h1, h2, h3⟩ := h; ⟨b, c, ns, s _ _ h1, s _ _ h2, s _ _ h3⟩
def SideAt (M : Mach) (ws : List Tab) (f : Str) (sp : List Int) (k : Nat) (e : List Int) : Prop := ∃ (t : Tab) (y : Int) (r : Row), ws[k]? = some t ∧ sp[k + 1]? = some y ∧ r ∈ M.rows ∧ r.1 = y ∧ look t r.2.1 = none ∧ M.fault r.2.1 ≠ some f ∧ e = sp.set (k + 1) r.2.2
theorem side_iff {M : Mach} {ws : List Tab} {f : Str} {sp e : List Int} : Side M ws f sp e ↔ ∃ k, SideAt M ws f sp k e :=
  ⟨fun ⟨k, t, y, r, h⟩ => ⟨k, t, y, r, h⟩, fun ⟨k, t, y, r, h⟩ => ⟨k, t, y, r, h⟩⟩
section
variable {P : Program} {w : World} {K : PySem.W.Frag} {mg : Str → Option Value} {base : Heap} {C CW : Addr}
def spFirstTuple (C CW : Addr) : Sp := fun vs H Q _ => ∃ m M wl l ws, vs = [.ref m, .ref l] ∧ MachAt C H m M wl ∧ WsAt CW H l ws ∧ ws.length ≤ 3 ∧ ∀ H' a, Same H H' → H a = none → SpotAt H' a (List.replicate (ws.length + 1) M.start) → Q (.ref a) H'
theorem ok_FirstTuple {f : Addr} {fd : FuncData} (F : FnP K "first_tuple" "first_tuple" sFirstTuple [] f fd) (T : Tx K mg) (C_start : CalP P w K mg base 2 C "start" (spMachineStart C)) : FnOk P w K mg base CX0 3 f fd ["machine", "rows"] (spFirstTuple C CW) := by
  refine mk_fn F sc_FirstTuple (fun vs H Q E h => ?_) (fun cdv A outer s H vs Q E hr h => ?_)
  · obtain ⟨m, M, wl, l, ws, rfl, _⟩ := h
    rfl
  · obtain ⟨m, M, wl, l, ws, rfl, ⟨d, D⟩, ⟨as, hl, pr⟩, w3, q⟩ := h
    have sl : (1000 : Nat) < sizeLine := by decide
    have ll : (as.map V.ref).length = ws.length := by rw [List.length_map]; exact Paired.length pr
    refine ⟨_, (pss_one (ps_ret (pe_callTy call_tuple_of (by rfl) T.tuple (by decide +kernel) (pa_cons (pe_lc rfl sc_FirstTuple.nd (pi_range1 rfl T.range (pa_cons (pe_op op_add (pe_callB call_len_seq (by rfl) T.len PySem.boot_len (pa_cons (pv 1) pa_nil)) pe_int) pa_nil)) (blkOk_by (own := [("at", 2)]) (N := ["machine", "rows", "at"]) (sc := defScope sFirstTuple) (by decide +kernel)) (fun _ _ _ _ _ => (pg_name (i := 2) sc_FirstTuple.nd rfl (Or.inl rfl))) (fun _ _ _ _ _ => pts_nil) (fun _ _ _ _ _ => (ppr C_start hr (pv 0)))) pa_nil)))), ?_⟩
    refine ⟨_, rfl, l, _, rfl, .inl (SqL.of hl), _, _, rfl, rfl, _, rfl, by omega, by omega, fun Dn nD => ?_⟩
    have en : (((as.map V.ref).length : Int) + 1).toNat = ws.length + 1 := by omega
    rw [en]
    refine lc_it walk_range (fun i H' => Same H H' ∧ H' Dn = some (.lst (List.replicate i (.int M.start)))) ⟨same_new nD, upd_same⟩ (fun _ _ _ _ => trivial) ?_ ?_
    · rintro i v H1 H2 hi ⟨s1, hD⟩ ⟨rfl, rfl⟩
      refine ⟨rfl, ?_⟩
      refine ⟨_, rfl, m, d.dx, d.fs, rfl, (D.same s1).ob, m, M, wl, rfl, ⟨d, D.same s1⟩, _, hD, by rw [List.length_replicate]; omega, same_mut s1 nD, ?_⟩
      rw [upd_same, List.replicate_succ']
    · rintro H1 ⟨s1, hD⟩
      refine ⟨Dn, _, rfl, .inl ⟨SqL.of hD, fun a na => ?_⟩⟩
      refine q _ a (same_add s1 na) (s1.free na) ?_
      show upd _ _ _ a = _
      rw [upd_same, List.map_replicate]
def spSideMoves (C CW : Addr) : Sp := fun vs H Q _ => ∃ m M wl l ws f a sp, vs = [.ref m, .ref l, .str f, .ref a] ∧ MachAt C H m M wl ∧ WsAt CW H l ws ∧ SpotAt H a sp ∧ sp.length = ws.length + 1 ∧ M.rows.length ≤ 80 ∧ ws.length ≤ 3 ∧
  ∀ (H' : Hp) (L : Addr) (as : List Addr) (es : List (List Int)), Same H H' → H L = none → H' L = some (.lst (as.map V.ref)) → Paired (SMvAt H') as es → (∀ e, e ∈ es ↔ Side M ws f sp e) → es.length ≤ 240 → Q (.ref L) H'
theorem ok_SideMoves {f : Addr} {fd : FuncData} (F : FnP K "side_moves" "side_moves" sSideMoves [] f fd) (T : Tx K mg) (TM : TxM K mg C) (C_steps_from : Cal P w K mg base 1 "steps_from" ["machine", "state"] (spStepsFrom C)) (C_sight_of : Cal P w K mg base 1 "sight_of" ["watch", "word"] (spSightOf CW))
    (C_is_fault_step : Cal P w K mg base 1 "is_fault_step" ["machine", "number", "fault"] (spIsFaultStep C)) : FnOk P w K mg base CX0 2 f fd ["machine", "rows", "fault", "spot"] (spSideMoves C CW) := by
  refine mk_fn F sc_SideMoves (fun vs H Q E h => ?_) (fun cdv A outer s H vs Q E hr h => ?_)
  · obtain ⟨m, M, wl, l, ws, f, a, sp, rfl, _⟩ := h
    rfl
  · obtain ⟨m, M, wl, l, ws, ff, a, sp, rfl, ⟨d, D⟩, ⟨was, hl, prW⟩, hsp, lsp, r80, w3, q⟩ := h
    have sl : (1000 : Nat) < sizeLine := by decide
    refine ⟨_, (pss_cons (ps_set (i := 4) sc_SideMoves.nd rfl (Or.inl rfl) (pe_lst pa_nil))
        (pss_cons (ps_for PassesOwn.never rfl (pi_enum rfl T.enumerate (pa_cons (pv 1) pa_nil)) (pg_tup (n := 2) rfl (pgs_cons (pg_name (i := 5) sc_SideMoves.nd rfl (Or.inl rfl)) (pgs_cons (pg_name (i := 6) sc_SideMoves.nd rfl (Or.inl rfl)) pgs_nil)))
        (pss_one (ps_for PassesOwn.never rfl (pi_list (pc C_steps_from hr (pa_cons (pv 0) (pa_cons (pe_ix ix_tup (pv 3) (pe_op op_add (pv 5) pe_int) (fun _ _ => rfl)) pa_nil)))) (pg_name (i := 7) sc_SideMoves.nd rfl (Or.inl rfl))
        (pss_cons (ps_set (i := 8) sc_SideMoves.nd rfl (Or.inl rfl) (pe_ix ix_list (pe_fld (pv 0) rfl) (pv 7) (fun _ _ => rfl)))
        (pss_one (ps_if (PW.pt (pw_and (pt_cmpR op_isN (pc C_sight_of hr (pa_cons (pv 6) (pa_cons (pe_ix ix_tup (pv 8) pe_int (fun _ _ => rfl)) pa_nil))) pe_non (nomark _)) (pw_and1 (pt_not (pt_val (pc C_is_fault_step hr (pa_cons (pv 0) (pa_cons (pv 7) (pa_cons (pv 2) pa_nil))))))))) (pss_cons (ps_setLc (i := 9) rfl sc_SideMoves.nd rfl rfl (sw_true rfl rfl rfl (by decide +kernel)) (pi_tup (pv 3)) (blkOk_by (own := [("k", 11)]) (N := ["machine", "rows", "fault", "spot", "moves", "at", "watch", "number", "row", "numbers", "end", "k"]) (sc := defScope sSideMoves) (by decide +kernel)) (fun _ _ _ _ _ => (pg_name (i := 11) sc_SideMoves.nd rfl (Or.inl rfl))) (fun _ _ _ _ _ => pts_nil) (fun _ _ _ _ _ => (pe_un un_neg pe_int)))
        (pss_cons (ps_asg (pv 7) (pg_sub (pv 9) (pe_op op_add (pv 5) pe_int) set_list))
        (pss_cons (ps_set (i := 10) sc_SideMoves.nd rfl (Or.inl rfl) (pe_op op_catT (pe_op op_catT (pe_slice sl_tup (pv 3) po_none (po_some (pe_op op_add (pv 5) pe_int))) (pe_tup (pa_cons (pe_ix ix_tup (pv 8) pe_int (fun _ _ => rfl)) pa_nil))) (pe_slice sl_tup (pv 3) (po_some (pe_op op_add (pv 5) pe_int)) po_none)))
        (pss_one (ps_expr (pe_bm PySem.F.plainAttrs_list PySem.F.slot_list_append PySem.F.type_list_append mt_append (pv 4) (pa_cons (pe_tup (pa_cons (pe_callTy call_tuple_of (by rfl) T.tuple (by decide +kernel) (pa_cons (pv 9) pa_nil)) (pa_cons (pv 10) pa_nil))) pa_nil))))))) pss_nil))))))
        (pss_one (ps_ret (pv 4))))), ?_⟩
    refine ⟨Nat.zero_le _, fun Mv nMv => ?_⟩
    refine ⟨_, rfl, l, was.map V.ref, rfl, SqL.of (up_new hl nMv), ?_⟩
    have lw : (was.map V.ref).length = ws.length := by rw [List.length_map]; exact Paired.length prW
    refine for_it walk_enum (fun i σ H' => Same H H' ∧ (∃ (as : List Addr) (es : List (List Int)), H' Mv = some (.lst (as.map V.ref)) ∧ Paired (SMvAt H') as es ∧ (∀ e, e ∈ es ↔ ∃ k, k < i ∧ SideAt M ws ff sp k e) ∧ es.length ≤ 80 * i) ∧
        ∃ x1 x2 x3 x4 x5 x6 x7, σ = [some (.ref m), some (.ref l), some (.str ff), some (.ref a), some (.ref Mv), x1, x2, x3, x4, x5, x6, x7])
      ⟨same_new nMv, ⟨[], [], upd_same, .nil, fun e => ⟨(fun h => nomatch h), fun ⟨k, h, _⟩ => absurd h (Nat.not_lt_zero k)⟩, Nat.le_refl _⟩, _, _, _, _, _, _, _, rfl⟩ (fun i σ H' _ h => SqL.of (h.1 _ _ hl)) ?_ ?_
    · rintro i v σ H1 H2 hi ⟨s1, ⟨as, es, hM, pr, me, le⟩, x1, x2, x3, x4, x5, x6, x7, rfl⟩ ⟨Tp, u1, u2, rfl, nT, rfl, h1, h2⟩
      obtain ⟨wa, hwa, rfl⟩ := map_ref h2
      cases h1
      obtain ⟨t, ht, hW⟩ := L2.paired_get prW hwa
      have sT := same_new (o := .tup [.int (i : Nat), .ref wa]) nT
      have s2 := s1.trans sT
      have hM2 := sT _ _ hM
      have pr2 : Paired (SMvAt (upd H1 Tp (.tup [.int (i : Nat), .ref wa]))) as es := Paired.mapP pr fun _ _ z => z.tups (.of sT)
      have hTp : (upd H1 Tp (.tup [.int (i : Nat), .ref wa])) Tp = some (.tup [.int (i : Nat), .ref wa]) := upd_same
      generalize upd H1 Tp (.tup [.int (i : Nat), .ref wa]) = H2 at sT s2 hM2 pr2 hTp
      refine ⟨Tp, _, rfl, SqT.of hTp, rfl, _, _, rfl, _, _, rfl, rfl, ?_⟩
      have hil : i < ws.length := (List.getElem?_eq_some_iff.mp ht).1
      obtain ⟨y, hy⟩ := getElem?_lt_some (l := sp) (k := i + 1) (by omega)
      refine ⟨_, rfl, _, rfl, _, rfl, _, _, rfl, rfl, a, _, _, .int y, rfl, rfl, SqT.of (s2 _ _ hsp), atI_nat (j := i + 1) (by rw [List.getElem?_map, hy]; rfl), m, M, wl, y, rfl, ⟨d, D.same s2⟩, fun H3 ln s3 nln hln => ?_⟩
      refine ⟨ln, rfl, ⟨_, SqL.of hln⟩, ?_⟩
      have s13 := s2.trans s3
      have nMv0 : H Mv = none := nMv
      have nlM : ln ≠ Mv := fun z => by rw [z, hM2] at nln; cases nln
      refine for_it walk_list (fun j σ H' => Same H H' ∧ H' ln = some (.lst ((nums M.rows y).map natV)) ∧ (∃ (as : List Addr) (es : List (List Int)), H' Mv = some (.lst (as.map V.ref)) ∧ Paired (SMvAt H') as es ∧
          (∀ e, e ∈ es ↔ (∃ k, k < i ∧ SideAt M ws ff sp k e) ∨ ∃ n ∈ (nums M.rows y).take j, ∃ r, M.rows[n]? = some r ∧ look t r.2.1 = none ∧ M.fault r.2.1 ≠ some ff ∧ e = sp.set (i + 1) r.2.2) ∧ es.length ≤ 80 * i + j) ∧
          ∃ x3 x4 x5 x6 x7, σ = [some (.ref m), some (.ref l), some (.str ff), some (.ref a), some (.ref Mv), some (natV i), some (.ref wa), x3, x4, x5, x6, x7])
        ⟨s13, hln, ⟨as, es, s3 _ _ hM2, Paired.mapP pr2 fun _ _ z => z.tups (.of s3), fun e => by simp [me e], by omega⟩, _, _, _, _, _, rfl⟩ (fun j σ H' _ h => SqL.of h.2.1) ?_ ?_
      · rintro j v σ H4 H5 hj ⟨s4, hln4, ⟨as, es, hM4, pr4, me4, le4⟩, y3, y4, y5, y6, y7, rfl⟩ ⟨rfl, e1⟩
        obtain ⟨n, hn, rfl⟩ := map_nat e1
        obtain ⟨r, hr0, hr1⟩ := mem_nums.mp (List.mem_of_getElem? hn)
        obtain ⟨ta, hta, hRow⟩ := D.at hr0
        have D4 := D.same s4
        have jl : j < 80 := by
          have h1 := (List.getElem?_eq_some_iff.mp hn).1
          have h2 := nums_le M.rows y
          omega
        have tk := take_snoc hn
        refine ⟨_, rfl, m, C, d.dx, d.fs, _, rfl, D4.ob, TM.x.cl, TM.n2, D4.f2, _, rfl, d.ar, _, _, .ref ta, rfl, rfl, SqL.of D4.rows, atI_nat (by rw [List.getElem?_map, hta]; rfl), ?_⟩
        refine ⟨_, rfl, _, rfl, ta, _, _, _, rfl, rfl, SqT.of (s4 _ _ hRow), atI_nat (j := 1) rfl, wa, t, r.2.1, rfl, hW.same s4, rfl, _, rfl, ?_⟩
        have same1 : (¬ (look t r.2.1 = none ∧ M.fault r.2.1 ≠ some ff)) → Same H H5 ∧ H5 ln = some (.lst ((nums M.rows y).map natV)) ∧ (∃ (as : List Addr) (es : List (List Int)), H5 Mv = some (.lst (as.map V.ref)) ∧ Paired (SMvAt H5) as es ∧
          (∀ e, e ∈ es ↔ (∃ k, k < i ∧ SideAt M ws ff sp k e) ∨ ∃ n ∈ (nums M.rows y).take (j + 1), ∃ r, M.rows[n]? = some r ∧ look t r.2.1 = none ∧ M.fault r.2.1 ≠ some ff ∧ e = sp.set (i + 1) r.2.2) ∧ es.length ≤ 80 * i + (j + 1)) := fun hno => ⟨s4, hln4, as, es, hM4, pr4, fun e => by
            rw [me4 e, tk]
            constructor
            · rintro (h | ⟨n', hn', h'⟩)
              · exact .inl h
              · exact .inr ⟨n', List.mem_append_left _ hn', h'⟩
            · rintro (h | ⟨n', hn', r', h1', h2', h3', h4'⟩)
              · exact .inl h
              · rcases List.mem_append.mp hn' with z | z
                · exact .inr ⟨n', z, r', h1', h2', h3', h4'⟩
                · rw [List.mem_singleton] at z
                  subst z
                  rw [hr0] at h1'
                  cases h1'
                  exact absurd ⟨h2', h3'⟩ hno, by omega⟩
        cases e0 : look t r.2.1 with
        | some z =>
          obtain ⟨k1, k2, k3⟩ := same1 (fun h => by rw [e0] at h; cases h.1)
          exact iteF (iteF ⟨k1, k2, k3, _, _, _, _, _, rfl⟩)
        | none =>
          refine iteT ?_
          refine ⟨_, rfl, _, rfl, _, rfl, m, M, wl, n, ff, r, rfl, ⟨d, D4⟩, hr0, _, rfl, ?_⟩
          by_cases hne : M.fault r.2.1 = some ff
          · rw [decide_eq_true hne]
            obtain ⟨k1, k2, k3⟩ := same1 (fun h => h.2 hne)
            exact iteF ⟨k1, k2, k3, _, _, _, _, _, rfl⟩
          · rw [decide_eq_false hne]
            refine iteT ?_
            have hsp4 := s4 _ _ hsp
            have hix : i + 1 < sp.length := by omega
            refine ⟨_, rfl, a, rfl, ⟨_, SqT.of hsp4⟩, fun Nm nN => ?_⟩
            refine lc_it walk_tup (fun i' H' => Same H5 H' ∧ H' Nm = some (.lst (List.replicate i' (.int (-1))))) ⟨same_new nN, upd_same⟩ (fun i' H' _ h => SqT.of (h.1 _ _ hsp4)) ?_ ?_
            · rintro i' v H6 H7 hi' ⟨s6, hN⟩ ⟨rfl, _⟩
              refine ⟨rfl, ?_⟩
              rw [List.length_map] at hi'
              refine ⟨1, rfl, _, hN, by rw [List.length_replicate]; omega, same_mut s6 nN, ?_⟩
              rw [upd_same, List.replicate_succ']
            rintro H6 ⟨s6, hN⟩
            rw [List.length_map] at hN
            refine ⟨_, rfl, _, rfl, _, rfl, _, _, rfl, rfl, Nm, _, _, i + 1, rfl, rfl, hN, ixN_nat (j := i + 1) (by rw [List.length_replicate]; exact hix), ?_⟩
            have s7 : Same H5 (upd H6 Nm (.lst ((List.replicate sp.length (V.int (-1))).set (i + 1) (natV n)))) := same_mut s6 nN
            have hN7 : (upd H6 Nm (.lst ((List.replicate sp.length (V.int (-1))).set (i + 1) (natV n)))) Nm = some _ := upd_same
            have lsm : (sp.map V.int).length = sp.length := List.length_map _
            refine ⟨_, rfl, _, rfl, _, _, rfl, rfl, _, rfl, a, _, rfl, SqT.of (s7 _ _ hsp4), ?_, fun p1 np1 => ?_⟩
            · rintro ⟨_, z⟩
              have z2 : HT.sIx (sp.map V.int).length (sp.map V.int).length (some ((i + 1 : Nat) : Int)) = (sp.map V.int).length := z
              rw [HT.sIx_nat, lsm] at z2
              omega
            have sp1 := same_new (o := .tup (cutV (sp.map V.int) none (some ((i : Int) + 1)))) np1
            refine ⟨_, rfl, ta, _, _, _, rfl, rfl, SqT.of (sp1 _ _ (s7 _ _ (s4 _ _ hRow))), atI_nat (j := 2) rfl, by show 1 ≤ sizeLine; decide, fun p2 np2 => ?_⟩
            have sp2 := same_new (o := .tup [V.int r.2.2]) np2
            have lc1 := cut_len (sp := sp) (k := i) hix
            refine ⟨p1, p2, _, _, rfl, rfl, SqT.of (sp2 _ _ upd_same), SqT.of upd_same, (fun z => by rw [z] at lc1; cases lc1), Nat.le_trans (Nat.le_of_eq (congrArg (· + 1) lc1)) (by show i + 1 + 1 ≤ sizeLine; omega), (fun z => nomatch z), fun _ p3 np3 => ?_⟩
            have sp3 := same_new (o := .tup (cutV (sp.map V.int) none (some ((i : Int) + 1)) ++ [V.int r.2.2])) np3
            have s73 := (sp1.trans sp2).trans sp3
            have hsp7 := s73 _ _ (s7 _ _ hsp4)
            refine ⟨_, rfl, _, rfl, _, _, rfl, rfl, _, rfl, a, _, rfl, SqT.of hsp7, ?_, fun p4 np4 => ?_⟩
            · rintro ⟨z, _⟩
              have z2 : HT.sIx (sp.map V.int).length 0 (some ((i + 2 : Nat) : Int)) = 0 := z
              rw [HT.sIx_nat, lsm] at z2
              omega
            have sp4 := same_new (o := .tup (cutV (sp.map V.int) (some ((i : Int) + 2)) none)) np4
            have ecut := cut_set (sp := sp) (k := i) (x := r.2.2) (by omega)
            have hp3' := sp4 _ _ (upd_same (a := p3) (o := .tup (cutV (sp.map V.int) none (some ((i : Int) + 1)) ++ [V.int r.2.2])))
            have hM6 := s73 _ _ (s7 _ _ hM4)
            have hN6 := s73 _ _ hN7
            have st8 : Same H5 _ := (s7.trans s73).trans sp4
            have hM8 := sp4 _ _ hM6
            have hN8 := sp4 _ _ hN6
            refine ⟨p3, p4, _, _, rfl, rfl, SqT.of hp3', SqT.of upd_same, (fun z => by simp at z), ?_, fun z => ?_, fun _ p5 np5 => ?_⟩
            · have e9 := congrArg List.length ecut
              rw [List.length_append, List.length_map, List.length_set] at e9
              refine Nat.le_trans (Nat.le_of_eq e9) ?_
              omega
            · have hp3 : SpotAt _ p3 (sp.set (i + 1) r.2.2) := hp3'.trans (by
                have z2 : cutV (sp.map V.int) (some ((i : Int) + 2)) none = [] := z
                rw [z2, List.append_nil] at ecut
                rw [ecut])
              refine ⟨_, rfl, .inl ⟨rfl, _, SqL.of hM8⟩, _, rfl, Nm, _, rfl, .inl ⟨SqL.of hN8, fun b nb => ⟨_, rfl, by show 2 ≤ sizeLine; decide, fun c nc => ?_⟩⟩⟩
              have sb := same_new (o := .tup ((List.replicate sp.length (V.int (-1))).set (i + 1) (natV n))) nb
              have sc := same_new (o := .tup [V.ref b, V.ref p3]) nc
              have hMc := sc _ _ (sb _ _ hM8)
              refine ⟨Mv, _, _, rfl, rfl, hMc, by rw [List.length_map, Paired.length pr4]; omega, ?_⟩
              have tp := (Tups.of (st8.trans (sb.trans sc))).trans (Tups.put hMc (u := .lst (as.map V.ref ++ [V.ref c])) (fun _ z => nomatch z))
              have nbM : b ≠ Mv := Ne.symm (ne_new hM8 nb)
              have ncM : c ≠ Mv := Ne.symm (ne_new (sb _ _ hM8) nc)
              have npM : p3 ≠ Mv := ne_of hp3 hM8 (by intro z; cases z)
              refine ⟨same_mut (s4.trans (st8.trans (sb.trans sc))) nMv0, up_ne ((st8.trans (sb.trans sc)) _ _ hln4) nlM, ⟨as ++ [c], es ++ [sp.set (i + 1) r.2.2], by rw [upd_same, List.map_append]; rfl, Paired.snoc (Paired.mapP pr4 fun _ _ z => z.tups tp) ⟨b, p3, (List.replicate sp.length (-1)).set (i + 1) (n : Int), up_ne upd_same ncM, up_ne (sc _ _ (by rw [upd_same, ← List.map_replicate, List.map_set])) nbM, up_ne ((sb.trans sc) _ _ hp3) npM⟩, fun e => ?_, by rw [List.length_append, List.length_singleton]; omega⟩, _, _, _, _, _, rfl⟩
              rw [List.mem_append, List.mem_singleton, me4 e, tk]
              constructor
              · rintro ((h | ⟨n', hn', r', h'⟩) | h)
                · exact .inl h
                · exact .inr ⟨n', List.mem_append_left _ hn', r', h'⟩
                · exact .inr ⟨n, List.mem_append_right _ (by simp), r, hr0, e0, hne, h⟩
              · rintro (h | ⟨n', hn', r', h1', h2', h3', h4'⟩)
                · exact .inl (.inl h)
                · rcases List.mem_append.mp hn' with z | z
                  · exact .inl (.inr ⟨n', z, r', h1', h2', h3', h4'⟩)
                  · rw [List.mem_singleton] at z
                    subst z
                    rw [hr0] at h1'
                    cases h1'
                    exact .inr h4'
            · have sp5 := same_new (o := .tup ((cutV (sp.map V.int) none (some ((i : Int) + 1)) ++ [V.int r.2.2]) ++ cutV (sp.map V.int) (some ((i : Int) + 2)) none)) np5
              have st9 := st8.trans sp5
              have hM9 := sp5 _ _ hM8
              have hN9 := sp5 _ _ hN8
              have hp5 : SpotAt _ p5 (sp.set (i + 1) r.2.2) := (new_at np5 (o := .tup ((cutV (sp.map V.int) none (some ((i : Int) + 1)) ++ [V.int r.2.2]) ++ cutV (sp.map V.int) (some ((i : Int) + 2)) none))).trans (by rw [ecut])
              refine ⟨_, rfl, .inl ⟨rfl, _, SqL.of hM9⟩, _, rfl, Nm, _, rfl, .inl ⟨SqL.of hN9, fun b nb => ⟨_, rfl, by show 2 ≤ sizeLine; decide, fun c nc => ?_⟩⟩⟩
              have sb := same_new (o := .tup ((List.replicate sp.length (V.int (-1))).set (i + 1) (natV n))) nb
              have sc := same_new (o := .tup [V.ref b, V.ref p5]) nc
              have hMc := sc _ _ (sb _ _ hM9)
              refine ⟨Mv, _, _, rfl, rfl, hMc, by rw [List.length_map, Paired.length pr4]; omega, ?_⟩
              have tp := (Tups.of (st9.trans (sb.trans sc))).trans (Tups.put hMc (u := .lst (as.map V.ref ++ [V.ref c])) (fun _ z => nomatch z))
              have nbM : b ≠ Mv := Ne.symm (ne_new hM9 nb)
              have ncM : c ≠ Mv := Ne.symm (ne_new (sb _ _ hM9) nc)
              have npM : p5 ≠ Mv := ne_of hp5 hM9 (by intro z; cases z)
              refine ⟨same_mut (s4.trans (st9.trans (sb.trans sc))) nMv0, up_ne ((st9.trans (sb.trans sc)) _ _ hln4) nlM, ⟨as ++ [c], es ++ [sp.set (i + 1) r.2.2], by rw [upd_same, List.map_append]; rfl, Paired.snoc (Paired.mapP pr4 fun _ _ z => z.tups tp) ⟨b, p5, (List.replicate sp.length (-1)).set (i + 1) (n : Int), up_ne upd_same ncM, up_ne (sc _ _ (by rw [upd_same, ← List.map_replicate, List.map_set])) nbM, up_ne ((sb.trans sc) _ _ hp5) npM⟩, fun e => ?_, by rw [List.length_append, List.length_singleton]; omega⟩, _, _, _, _, _, rfl⟩
              rw [List.mem_append, List.mem_singleton, me4 e, tk]
              constructor
              · rintro ((h | ⟨n', hn', r', h'⟩) | h)
                · exact .inl h
                · exact .inr ⟨n', List.mem_append_left _ hn', r', h'⟩
                · exact .inr ⟨n, List.mem_append_right _ (by simp), r, hr0, e0, hne, h⟩
              · rintro (h | ⟨n', hn', r', h1', h2', h3', h4'⟩)
                · exact .inl (.inl h)
                · rcases List.mem_append.mp hn' with z | z
                  · exact .inl (.inr ⟨n', z, r', h1', h2', h3', h4'⟩)
                  · rw [List.mem_singleton] at z
                    subst z
                    rw [hr0] at h1'
                    cases h1'
                    exact .inr h4'
      · rintro σ H4 ⟨s4, _, ⟨as, es, hM4, pr4, me4, le4⟩, y3, y4, y5, y6, y7, rfl⟩
        rw [List.length_map] at me4 le4
        rw [List.take_length] at me4
        have ln80 := nums_le M.rows y
        refine ⟨s4, ⟨as, es, hM4, pr4, fun e => ?_, by omega⟩, _, _, _, _, _, _, _, rfl⟩
        rw [me4 e]
        constructor
        · rintro (⟨k, hk, h⟩ | ⟨n, hn, r, h1, h2, h3, h4⟩)
          · exact ⟨k, by omega, h⟩
          · obtain ⟨r', h1', h5⟩ := mem_nums.mp hn
            rw [h1] at h1'
            cases h1'
            exact ⟨i, by omega, t, y, r, ht, hy, List.mem_of_getElem? h1, h5, h2, h3, h4⟩
        · rintro ⟨k, hk, h⟩
          by_cases hki : k = i
          · subst hki
            obtain ⟨t', y', r, h1, h2, h3, h4, h5, h6, h7⟩ := h
            rw [ht] at h1
            cases h1
            rw [hy] at h2
            cases h2
            obtain ⟨n, hn⟩ := List.mem_iff_getElem?.mp h3
            exact .inr ⟨n, mem_nums.mpr ⟨r, hn, h4⟩, r, hn, h5, h6, h7⟩
          · exact .inl ⟨k, by omega, h⟩
    · rintro σ H1 ⟨s1, ⟨as, es, hM, pr, me, le⟩, x1, x2, x3, x4, x5, x6, x7, rfl⟩
      rw [lw] at me le
      refine ⟨_, rfl, q _ Mv as es s1 nMv hM pr (fun e => ?_) (by omega)⟩
      rw [me e, side_iff]
      constructor
      · rintro ⟨k, _, h⟩
        exact ⟨k, h⟩
      · rintro ⟨k, h⟩
        obtain ⟨t, y, r, h1, _⟩ := id h
        exact ⟨k, (List.getElem?_eq_some_iff.mp h1).1, h⟩
end
end Kn

end
section
set_option maxHeartbeats 4000000
/-! answers_to, main_moves. -/
namespace Kn
open PySem PySem.Spec PyProof.Rows L2
theorem sc_MainMoves : FnScope ["machine", "rows", "fault", "spot", "moves", "number", "row", "built", "at", "watch", "state", "choices", "wider", "numbers", "ends", "choice", "end"] ["machine", "rows", "fault", "spot"] (defScope sMainMoves) := ⟨rfl, rfl, rfl, by decide +kernel, rfl, by decide +kernel, by decide +kernel⟩
def optV (z : Option Str) : V := (z.map V.str).getD .non
def AnsC (M : Mach) (f : Str) (t : Tab) (z : Option Str) (y c : Int) : Prop :=
  match z with
  | none => c = -1
  | some s => ∃ (n : Nat) (r : Row), c = (n : Int) ∧ M.rows[n]? = some r ∧ r.1 = y ∧ look t r.2.1 = some s ∧ M.fault r.2.1 ≠ some f
def xof (M : Mach) (y c : Int) : Int := if 0 ≤ c then ((M.rows[c.toNat]?).map fun r => r.2.2).getD 0 else y
theorem xof_iff {M : Mach} {f : Str} {t : Tab} {z : Option Str} {y x : Int} : (∃ c, AnsC M f t z y c ∧ x = xof M y c) ↔ Ans M f t z y x := by
  cases z with
  | none =>
    constructor
    · rintro ⟨c, rfl, rfl⟩
      rfl
    · rintro rfl
      exact ⟨-1, rfl, rfl⟩
  | some s =>
    constructor
    · rintro ⟨c, ⟨n, r, rfl, h1, h2, h3, h4⟩, rfl⟩
      refine ⟨r, List.mem_of_getElem? h1, h2, h3, h4, ?_⟩
      unfold xof
      rw [if_pos (by omega), Int.toNat_natCast, h1]
      rfl
    · rintro ⟨r, hr, h2, h3, h4, rfl⟩
      obtain ⟨n, hn⟩ := List.mem_iff_getElem?.mp hr
      refine ⟨(n : Int), ⟨n, r, rfl, hn, h2, h3, h4⟩, ?_⟩
      unfold xof
      rw [if_pos (by omega), Int.toNat_natCast, hn]
      rfl
theorem paired_append {α β : Type} {F : α → β → Prop} : ∀ {a a' : List α} {b b' : List β}, Paired F a b → Paired F a' b' → Paired F (a ++ a') (b ++ b')
  | _, _, _, _, .nil, h => h
  | _, _, _, _, .cons x t, h => .cons x (paired_append t h)
theorem paired_mapR {α β γ : Type} {F : α → β → Prop} {G : α → γ → Prop} {g : β → γ} (i : ∀ a b, F a b → G a (g b)) : ∀ {a : List α} {b : List β}, Paired F a b → Paired G a (b.map g)
  | _, _, .nil => .nil
  | _, _, .cons x t => .cons (i _ _ x) (paired_mapR i t)
theorem allAns_snoc {M : Mach} {f w : Str} : ∀ {ts : List Tab} {t : Tab} {ys : List Int} {y : Int} {es' : List Int}, ys.length = ts.length → (AllAns M f w (ts ++ [t]) (ys ++ [y]) es' ↔ ∃ es x, es' = es ++ [x] ∧ AllAns M f w ts ys es ∧ Ans M f t (look t w) y x)
  | [], t, [], y, es', _ => by
    constructor
    · intro h
      match es', h with
      | [x], h => exact ⟨[], x, rfl, trivial, h.1⟩
    · rintro ⟨es, x, rfl, h1, h2⟩
      match es, h1 with
      | [], _ => exact ⟨h2, trivial⟩
  | t0 :: ts, t, y0 :: ys, y, es', hl => by
    have hl2 : ys.length = ts.length := Nat.succ.inj hl
    constructor
    · intro h
      match es', h with
      | e0 :: es', h =>
        obtain ⟨h1, h2⟩ := (show Ans M f t0 (look t0 w) y0 e0 ∧ AllAns M f w (ts ++ [t]) (ys ++ [y]) es' from h)
        obtain ⟨es, x, rfl, h3, h4⟩ := (allAns_snoc hl2).mp h2
        exact ⟨e0 :: es, x, rfl, ⟨h1, h3⟩, h4⟩
    · rintro ⟨es, x, rfl, h1, h2⟩
      match es, h1 with
      | e0 :: es, h1 =>
        obtain ⟨h3, h4⟩ := (show Ans M f t0 (look t0 w) y0 e0 ∧ AllAns M f w ts ys es from h1)
        exact ⟨h3, (allAns_snoc hl2).mpr ⟨es, x, rfl, h4, h2⟩⟩
def MMvAt (H : Hp) (n : Nat) (a : Addr) (e : List Int) : Prop := ∃ b c ns, H a = some (.tup [.ref b, .ref c]) ∧ H b = some (.tup (natV n :: List.map V.int ns)) ∧ SpotAt H c e ∧ ns.length + 1 = e.length
theorem MMvAt.tups {H H' : Hp} (s : Tups H H') {n : Nat} {a : Addr} {e : List Int} (h : MMvAt H n a e) : MMvAt H' n a e := let ⟨b, c, ns, h1, h2, h3, h4⟩ := h; ⟨b, c, ns, s _ _ h1, s _ _ h2, s _ _ h3, h4⟩
def MainN (M : Mach) (ws : List Tab) (f : Str) (sp : List Int) (n : Nat) (e : List Int) : Prop := ∃ r ys es, M.rows[n]? = some r ∧ sp = r.1 :: ys ∧ AllAns M f r.2.1 ws ys es ∧ e = r.2.2 :: es
theorem main_iff {M : Mach} {ws : List Tab} {f : Str} {sp e : List Int} {c : Bool} : Main M ws f c sp e ↔ ∃ n r, MainN M ws f sp n e ∧ M.rows[n]? = some r ∧ c = decide (M.fault r.2.1 = some f) := by
  constructor
  · rintro ⟨r, hr, ys, es, h1, h2, h3, h4⟩
    obtain ⟨n, hn⟩ := List.mem_iff_getElem?.mp hr
    exact ⟨n, r, ⟨r, ys, es, hn, h1, h3, h4⟩, hn, h2⟩
  · rintro ⟨n, r, ⟨r', ys, es, hn, h1, h3, h4⟩, hn', h2⟩
    rw [hn] at hn'
    cases hn'
    exact ⟨_, List.mem_of_getElem? hn, ys, es, h1, h2, h3, h4⟩
section
variable {P : Program} {w : World} {K : PySem.W.Frag} {mg : Str → Option Value} {base : Heap} {C CW : Addr}
def spAnswersTo (C CW : Addr) : Sp := fun vs H Q _ => ∃ m M wl a t f y z, vs = [.ref m, .ref a, .str f, .int y, optV z] ∧ MachAt C H m M wl ∧ WatchAt CW H a t ∧ M.rows.length ≤ 80 ∧ (∀ s, (nums M.rows s).length ≤ 8) ∧
  ∀ (H' : Hp) (L : Addr) (cs : List Int), Same H H' → H L = none → H' L = some (.lst (cs.map V.int)) → (∀ c, c ∈ cs ↔ AnsC M f t z y c) → cs.length ≤ 8 → Q (.ref L) H'
theorem ok_AnswersTo {f : Addr} {fd : FuncData} (F : FnP K "answers_to" "answers_to" sAnswersTo [] f fd) (T : Tx K mg) (TM : TxM K mg C) (C_steps_from : Cal P w K mg base 1 "steps_from" ["machine", "state"] (spStepsFrom C)) (C_sight_of : Cal P w K mg base 1 "sight_of" ["watch", "word"] (spSightOf CW))
    (C_is_fault_step : Cal P w K mg base 1 "is_fault_step" ["machine", "number", "fault"] (spIsFaultStep C)) : FnOk P w K mg base CX0 2 f fd ["machine", "watch", "fault", "state", "sight"] (spAnswersTo C CW) := by
  refine mk_fn F sc_AnswersTo (fun vs H Q E h => ?_) (fun cdv A outer s H vs Q E hr h => ?_)
  · obtain ⟨m, M, wl, a, t, f, y, z, rfl, _⟩ := h
    rfl
  · obtain ⟨m, M, wl, a, t, ff, y, z, rfl, ⟨d, D⟩, hW, r80, nf, q⟩ := h
    have sl : (1000 : Nat) < sizeLine := by decide
    refine ⟨_, (pss_cons (ps_if (pt_cmpR op_isN (pv 4) pe_non (nomark _)) (pss_one (ps_ret (pe_lst (pa_cons (pe_un un_neg pe_int) pa_nil)))) pss_nil)
        (pss_cons (ps_set (i := 5) sc_AnswersTo.nd rfl (Or.inl rfl) (pe_lst pa_nil))
        (pss_cons (ps_for PassesOwn.never rfl (pi_list (pc C_steps_from hr (pa_cons (pv 0) (pa_cons (pv 3) pa_nil)))) (pg_name (i := 6) sc_AnswersTo.nd rfl (Or.inl rfl))
        (pss_one (ps_if (PW.pt (pw_and (pt_cmpR op_eq (pc C_sight_of hr (pa_cons (pv 1) (pa_cons (pe_ix ix_tup (pe_ix ix_list (pe_fld (pv 0) rfl) (pv 6) (fun _ _ => rfl)) pe_int (fun _ _ => rfl)) pa_nil))) (pv 4) (nomark _)) (pw_and1 (pt_not (pt_val (pc C_is_fault_step hr (pa_cons (pv 0) (pa_cons (pv 6) (pa_cons (pv 2) pa_nil))))))))) (pss_one (ps_expr (pe_bm PySem.F.plainAttrs_list PySem.F.slot_list_append PySem.F.type_list_append mt_append (pv 5) (pa_cons (pv 6) pa_nil)))) pss_nil)))
        (pss_one (ps_ret (pv 5)))))), ?_⟩
    cases z with
    | none =>
      refine ⟨_, rfl, rfl, _, rfl, iteT ?_⟩
      refine ⟨1, rfl, by show 1 ≤ sizeLine; decide, fun L nL => ?_⟩
      exact q _ L [-1] (same_new nL) nL upd_same (fun c => List.mem_singleton) (by decide)
    | some s0 =>
      refine ⟨_, rfl, rfl, _, rfl, iteF ?_⟩
      refine ⟨Nat.zero_le _, fun L nL => ?_⟩
      have s1 := same_new (o := .lst []) nL
      refine ⟨_, rfl, _, rfl, m, M, wl, y, rfl, ⟨d, D.same s1⟩, fun H2 ln s2 nln hln => ?_⟩
      have nlL : ln ≠ L := fun z => by rw [z, upd_same] at nln; cases nln
      refine ⟨ln, rfl, ⟨_, SqL.of hln⟩, ?_⟩
      refine for_it walk_list (fun j σ H' => Same H H' ∧ H' ln = some (.lst ((nums M.rows y).map natV)) ∧ (∃ cs : List Int, H' L = some (.lst (cs.map V.int)) ∧ (∀ c, c ∈ cs ↔ ∃ (n : Nat) (r : Row), n ∈ (nums M.rows y).take j ∧ c = (n : Int) ∧ M.rows[n]? = some r ∧ look t r.2.1 = some s0 ∧ M.fault r.2.1 ≠ some ff) ∧ cs.length ≤ j) ∧
          ∃ x, σ = [some (.ref m), some (.ref a), some (.str ff), some (.int y), some (.str s0), some (.ref L), x])
        ⟨s1.trans s2, hln, ⟨[], s2 _ _ upd_same, fun c => by simp, Nat.le_refl _⟩, _, rfl⟩ (fun j σ H' _ h => SqL.of h.2.1) ?_ ?_
      · rintro j v σ H4 H5 hj ⟨s4, hln4, ⟨cs, hL4, me, le⟩, x, rfl⟩ ⟨rfl, e1⟩
        obtain ⟨n, hn, rfl⟩ := map_nat e1
        obtain ⟨r, hr0, hr1⟩ := mem_nums.mp (List.mem_of_getElem? hn)
        obtain ⟨ta, hta, hRow⟩ := D.at hr0
        have D4 := D.same s4
        have tk := take_snoc hn
        have jl : j < 80 := by
          have h1 := (List.getElem?_eq_some_iff.mp hn).1
          have h2 := nums_le M.rows y
          omega
        refine ⟨_, rfl, _, rfl, m, C, d.dx, d.fs, _, rfl, D4.ob, TM.x.cl, TM.n2, D4.f2, _, rfl, d.ar, _, _, .ref ta, rfl, rfl, SqL.of D4.rows, atI_nat (by rw [List.getElem?_map, hta]; rfl), ?_⟩
        refine ⟨ta, _, _, _, rfl, rfl, SqT.of (s4 _ _ hRow), atI_nat (j := 1) rfl, a, t, r.2.1, rfl, hW.same s4, _, rfl, ?_⟩
        have same1 : ¬ (look t r.2.1 = some s0 ∧ M.fault r.2.1 ≠ some ff) → ∀ c, c ∈ cs ↔ ∃ (n : Nat) (r : Row), n ∈ (nums M.rows y).take (j + 1) ∧ c = (n : Int) ∧ M.rows[n]? = some r ∧ look t r.2.1 = some s0 ∧ M.fault r.2.1 ≠ some ff := fun hno c => by
          rw [me c, tk]
          constructor
          · rintro ⟨n', r', hn', h'⟩
            exact ⟨n', r', List.mem_append_left _ hn', h'⟩
          · rintro ⟨n', r', hn', h1', h2', h3', h4'⟩
            rcases List.mem_append.mp hn' with z | z
            · exact ⟨n', r', z, h1', h2', h3', h4'⟩
            · rw [List.mem_singleton] at z
              subst z
              rw [hr0] at h2'
              cases h2'
              exact absurd ⟨h3', h4'⟩ hno
        by_cases hs : look t r.2.1 = some s0
        · rw [hs]
          refine ⟨rfl, _, rfl, ?_⟩
          have ee : decide (V.str s0 = V.str s0) = true := decide_eq_true rfl
          rw [show ((Option.map V.str (some s0)).getD V.non) = V.str s0 from rfl, ee]
          refine iteT ?_
          refine ⟨_, rfl, _, rfl, _, rfl, m, M, wl, n, ff, r, rfl, ⟨d, D4⟩, hr0, _, rfl, ?_⟩
          by_cases hne : M.fault r.2.1 = some ff
          · rw [decide_eq_true hne]
            exact iteF ⟨s4, hln4, ⟨cs, hL4, same1 (fun h => h.2 hne), by omega⟩, _, rfl⟩
          · rw [decide_eq_false hne]
            refine iteT ⟨_, rfl, .inl ⟨rfl, _, SqL.of hL4⟩, _, rfl, L, _, _, rfl, rfl, hL4, by rw [List.length_map]; omega, ?_⟩
            refine ⟨same_mut s4 nL, up_ne hln4 nlL, ⟨cs ++ [(n : Int)], by rw [upd_same, List.map_append]; rfl, fun c => ?_, by rw [List.length_append, List.length_singleton]; omega⟩, _, rfl⟩
            rw [List.mem_append, List.mem_singleton, me c, tk]
            constructor
            · rintro (⟨n', r', hn', h'⟩ | h)
              · exact ⟨n', r', List.mem_append_left _ hn', h'⟩
              · exact ⟨n, r, List.mem_append_right _ (by simp), h, hr0, hs, hne⟩
            · rintro ⟨n', r', hn', h1', h2', h3', h4'⟩
              rcases List.mem_append.mp hn' with z | z
              · exact .inl ⟨n', r', z, h1', h2', h3', h4'⟩
              · rw [List.mem_singleton] at z
                subst z
                exact .inr h1'
        · have fin := same1 (fun h => hs h.1)
          have sc : scal (optV (look t r.2.1)) (V.str s0) = true ∧ decide (optV (look t r.2.1) = V.str s0) = false := by
            cases e : look t r.2.1 with
            | none => exact ⟨rfl, rfl⟩
            | some z => exact ⟨rfl, decide_eq_false fun q => by cases q; exact hs e⟩
          refine ⟨sc.1, _, rfl, ?_⟩
          have e2 : decide ((Option.map V.str (look t r.2.1)).getD V.non = V.str s0) = false := sc.2
          rw [e2]
          exact iteF (iteF ⟨s4, hln4, ⟨cs, hL4, fin, by omega⟩, _, rfl⟩)
      · rintro σ H4 ⟨s4, _, ⟨cs, hL4, me, le⟩, x, rfl⟩
        rw [List.length_map] at me le
        rw [List.take_length] at me
        have ln80 := nf y
        refine ⟨_, rfl, q _ L cs s4 nL hL4 (fun c => ?_) (by omega)⟩
        rw [me c]
        constructor
        · rintro ⟨n, r, hn, h1, h2, h3, h4⟩
          obtain ⟨r', h2', h5⟩ := mem_nums.mp hn
          rw [h2] at h2'
          cases h2'
          exact ⟨n, r, h1, h2, h5, h3, h4⟩
        · rintro ⟨n, r, h1, h2, h5, h3, h4⟩
          exact ⟨n, r, mem_nums.mpr ⟨r, h2, h5⟩, h1, h2, h3, h4⟩
def spMainMoves (C CW : Addr) : Sp := fun vs H Q _ => ∃ m M wl l ws f a sp, vs = [.ref m, .ref l, .str f, .ref a] ∧ MachAt C H m M wl ∧ WsAt CW H l ws ∧ SpotAt H a sp ∧ sp.length = ws.length + 1 ∧ M.rows.length ≤ 80 ∧ (∀ s, (nums M.rows s).length ≤ 8) ∧ ws.length ≤ 2 ∧
  ∀ (H' : Hp) (L : Addr) (as : List Addr) (mv : List (Nat × List Int)), Same H H' → H L = none → H' L = some (.lst (as.map V.ref)) → Paired (fun a ne => MMvAt H' ne.1 a ne.2) as mv → (∀ n e, (n, e) ∈ mv ↔ MainN M ws f sp n e) → mv.length ≤ 512 → Q (.ref L) H'
theorem ok_MainMoves {f : Addr} {fd : FuncData} (F : FnP K "main_moves" "main_moves" sMainMoves [] f fd) (T : Tx K mg) (TM : TxM K mg C) (C_steps_from : Cal P w K mg base 2 "steps_from" ["machine", "state"] (spStepsFrom C)) (C_sight_of : Cal P w K mg base 2 "sight_of" ["watch", "word"] (spSightOf CW))
    (C_answers_to : Cal P w K mg base 2 "answers_to" ["machine", "watch", "fault", "state", "sight"] (spAnswersTo C CW)) : FnOk P w K mg base CX0 3 f fd ["machine", "rows", "fault", "spot"] (spMainMoves C CW) := by
  refine mk_fn F sc_MainMoves (fun vs H Q E h => ?_) (fun cdv A outer s H vs Q E hr h => ?_)
  · obtain ⟨m, M, wl, l, ws, f, a, sp, rfl, _⟩ := h
    rfl
  · obtain ⟨m, M, wl, l, ws, ff, a, sp, rfl, ⟨d, D⟩, ⟨was, hl, prW⟩, hsp, lsp, r80, nf, w2, q⟩ := h
    have sl : (1000000 : Nat) < sizeLine := by decide
    refine ⟨_, (pss_cons (ps_set (i := 4) sc_MainMoves.nd rfl (Or.inl rfl) (pe_lst pa_nil))
        (pss_cons (ps_for PassesOwn.never rfl (pi_list (pc C_steps_from hr (pa_cons (pv 0) (pa_cons (pe_ix ix_tup (pv 3) pe_int (fun _ _ => rfl)) pa_nil)))) (pg_name (i := 5) sc_MainMoves.nd rfl (Or.inl rfl))
        (pss_cons (ps_set (i := 6) sc_MainMoves.nd rfl (Or.inl rfl) (pe_ix ix_list (pe_fld (pv 0) rfl) (pv 5) (fun _ _ => rfl)))
        (pss_cons (ps_set (i := 7) sc_MainMoves.nd rfl (Or.inl rfl) (pe_lst (pa_cons (pe_tup (pa_cons (pe_tup (pa_cons (pv 5) pa_nil)) (pa_cons (pe_tup (pa_cons (pe_ix ix_tup (pv 6) pe_int (fun _ _ => rfl)) pa_nil)) pa_nil))) pa_nil)))
        (pss_cons (ps_for PassesOwn.never rfl (pi_enum rfl T.enumerate (pa_cons (pv 1) pa_nil)) (pg_tup (n := 2) rfl (pgs_cons (pg_name (i := 8) sc_MainMoves.nd rfl (Or.inl rfl)) (pgs_cons (pg_name (i := 9) sc_MainMoves.nd rfl (Or.inl rfl)) pgs_nil)))
        (pss_cons (ps_set (i := 10) sc_MainMoves.nd rfl (Or.inl rfl) (pe_ix ix_tup (pv 3) (pe_op op_add (pv 8) pe_int) (fun _ _ => rfl)))
        (pss_cons (ps_set (i := 11) sc_MainMoves.nd rfl (Or.inl rfl) (pc C_answers_to hr (pa_cons (pv 0) (pa_cons (pv 9) (pa_cons (pv 2) (pa_cons (pv 10) (pa_cons (pc C_sight_of hr (pa_cons (pv 9) (pa_cons (pe_ix ix_tup (pv 6) pe_int (fun _ _ => rfl)) pa_nil))) pa_nil)))))))
        (pss_cons (ps_set (i := 12) sc_MainMoves.nd rfl (Or.inl rfl) (pe_lst pa_nil))
        (pss_cons (ps_for PassesOwn.never rfl (pi_list (pv 7)) (pg_tup (n := 2) rfl (pgs_cons (pg_name (i := 13) sc_MainMoves.nd rfl (Or.inl rfl)) (pgs_cons (pg_name (i := 14) sc_MainMoves.nd rfl (Or.inl rfl)) pgs_nil)))
        (pss_one (ps_for PassesOwn.never rfl (pi_list (pv 11)) (pg_name (i := 15) sc_MainMoves.nd rfl (Or.inl rfl))
        (pss_cons (ps_set (i := 16) sc_MainMoves.nd rfl (Or.inl rfl) (pv 10))
        (pss_cons (ps_if (pt_cmpR op_ge (pv 15) pe_int (nomark _)) (pss_one (ps_set (i := 16) sc_MainMoves.nd rfl (Or.inl rfl) (pe_ix ix_tup (pe_ix ix_list (pe_fld (pv 0) rfl) (pv 15) (fun _ _ => rfl)) pe_int (fun _ _ => rfl)))) pss_nil)
        (pss_one (ps_expr (pe_bm PySem.F.plainAttrs_list PySem.F.slot_list_append PySem.F.type_list_append mt_append (pv 12) (pa_cons (pe_tup (pa_cons (pe_op op_catT (pv 13) (pe_tup (pa_cons (pv 15) pa_nil))) (pa_cons (pe_op op_catT (pv 14) (pe_tup (pa_cons (pv 16) pa_nil))) pa_nil))) pa_nil)))))))))
        (pss_one (ps_set (i := 7) sc_MainMoves.nd rfl (Or.inl rfl) (pv 12))))))))
        (pss_one (ps_expr (pe_bm PySem.F.plainAttrs_list PySem.F.slot_list_extend PySem.F.type_list_extend mt_extend (pv 4) (pa_cons (pv 7) pa_nil))))))))
        (pss_one (ps_ret (pv 4))))), ?_⟩
    obtain ⟨y0, ys, rfl⟩ : ∃ y0 ys, sp = y0 :: ys := by
      cases sp with
      | nil => simp at lsp
      | cons y0 ys => exact ⟨y0, ys, rfl⟩
    have lys : ys.length = ws.length := Nat.succ.inj lsp
    refine ⟨Nat.zero_le _, fun Mv nMv => ?_⟩
    have s1 := same_new (o := .lst []) nMv
    refine ⟨_, rfl, _, rfl, a, _, _, .int y0, rfl, rfl, SqT.of (s1 _ _ hsp), atI_nat (j := 0) rfl, m, M, wl, y0, rfl, ⟨d, D.same s1⟩, fun H2 ln s2 nln hln => ?_⟩
    have nlM : ln ≠ Mv := fun z => by rw [z, upd_same] at nln; cases nln
    have lw : (was.map V.ref).length = ws.length := by rw [List.length_map]; exact Paired.length prW
    have n80 := nf y0
    refine ⟨ln, rfl, ⟨_, SqL.of hln⟩, ?_⟩
    refine for_it walk_list (fun i σ H' => Same H H' ∧ H' ln = some (.lst ((nums M.rows y0).map natV)) ∧ (∃ (as : List Addr) (mv : List (Nat × List Int)), H' Mv = some (.lst (as.map V.ref)) ∧ Paired (fun a ne => MMvAt H' ne.1 a ne.2) as mv ∧ (∀ n e, (n, e) ∈ mv ↔ n ∈ (nums M.rows y0).take i ∧ MainN M ws ff (y0 :: ys) n e) ∧ mv.length ≤ 64 * i) ∧
        ∃ x1 x2 x3 x4 x5 x6 x7 x8 x9 xa xb xc, σ = [some (.ref m), some (.ref l), some (.str ff), some (.ref a), some (.ref Mv), x1, x2, x3, x4, x5, x6, x7, x8, x9, xa, xb, xc])
      ⟨s1.trans s2, hln, ⟨[], [], s2 _ _ upd_same, .nil, fun n e => ⟨(fun h => nomatch h), fun h => nomatch h.1⟩, Nat.le_refl _⟩, _, _, _, _, _, _, _, _, _, _, _, _, rfl⟩ (fun i σ H' _ h => SqL.of h.2.1) ?_ ?_
    · rintro i v σ H3 H4 hi ⟨s3, hln3, ⟨as, mv, hM3, pr3, me3, le3⟩, x1, x2, x3, x4, x5, x6, x7, x8, x9, xa, xb, xc, rfl⟩ ⟨rfl, e1⟩
      obtain ⟨n, hn, rfl⟩ := map_nat e1
      obtain ⟨r, hr0, hr1⟩ := mem_nums.mp (List.mem_of_getElem? hn)
      obtain ⟨ta, hta, hRow⟩ := D.at hr0
      have D4 := D.same s3
      have hRow4 := s3 _ _ hRow
      have il : i < 8 := by
        have h1 := (List.getElem?_eq_some_iff.mp hn).1
        omega
      refine ⟨_, rfl, m, C, d.dx, d.fs, _, rfl, D4.ob, TM.x.cl, TM.n2, D4.f2, _, rfl, d.ar, _, _, .ref ta, rfl, rfl, SqL.of D4.rows, atI_nat (by rw [List.getElem?_map, hta]; rfl), ?_⟩
      refine ⟨_, rfl, by show 1 ≤ sizeLine; decide, fun p1 np1 => ?_⟩
      have sp1 := same_new (o := .tup [natV n]) np1
      refine ⟨_, rfl, ta, _, _, _, rfl, rfl, SqT.of (sp1 _ _ hRow4), atI_nat (j := 2) rfl, by show 1 ≤ sizeLine; decide, fun p2 np2 => ?_⟩
      have sp2 := same_new (o := .tup [V.int r.2.2]) np2
      refine ⟨by show 2 ≤ sizeLine; decide, fun p3 np3 => ?_⟩
      have sp3 := same_new (o := .tup [V.ref p1, V.ref p2]) np3
      refine ⟨by show 1 ≤ sizeLine; decide, fun B0 nB0 => ?_⟩
      have sB0 := same_new (o := .lst [V.ref p3]) nB0
      have s4 := ((sp1.trans sp2).trans sp3).trans sB0
      have m0 : MMvAt (upd (upd (upd (upd H4 p1 (.tup [natV n])) p2 (.tup [V.int r.2.2])) p3 (.tup [V.ref p1, V.ref p2])) B0 (.lst [V.ref p3])) n p3 [r.2.2] :=
        ⟨p1, p2, [], sB0 _ _ upd_same, sB0 _ _ (sp3 _ _ (sp2 _ _ upd_same)), sB0 _ _ (sp3 _ _ upd_same), rfl⟩
      have hB0 := new_at nB0 (o := .lst [V.ref p3])
      refine ⟨_, rfl, l, was.map V.ref, rfl, SqL.of (s4 _ _ (s3 _ _ hl)), ?_⟩
      refine for_it walk_enum (fun k σ H' => Same H4 H' ∧ (∃ (B : Addr) (bas : List Addr) (bs : List (List Int)), H' B = some (.lst (bas.map V.ref)) ∧ Paired (MMvAt H' n) bas bs ∧ (∀ e, e ∈ bs ↔ ∃ es, e = r.2.2 :: es ∧ AllAns M ff r.2.1 (ws.take k) (ys.take k) es) ∧ bs.length ≤ 8 ^ k ∧ B ≠ Mv ∧
          ∃ x4 x5 x6 x7 x8 x9 xa xb xc, σ = [some (.ref m), some (.ref l), some (.str ff), some (.ref a), some (.ref Mv), some (natV n), some (.ref ta), some (.ref B), x4, x5, x6, x7, x8, x9, xa, xb, xc]))
        ⟨s4, B0, [p3], [[r.2.2]], hB0, .cons m0 .nil, fun e => ⟨fun h => ⟨[], List.mem_singleton.mp h, trivial⟩, fun ⟨es, h1, h2⟩ => by
          match es, h2 with
          | [], _ => exact List.mem_singleton.mpr h1⟩, Nat.le_refl _, Ne.symm (ne_new (((sp1.trans sp2).trans sp3) _ _ hM3) nB0), _, _, _, _, _, _, _, _, _, rfl⟩ (fun k σ H' _ h => SqL.of (h.1 _ _ (s3 _ _ hl))) ?_ ?_
      · rintro k v σ H5 H6 hk ⟨s5, B, bas, bs, hB, prB, meB, leB, nBM, x4, x5, x6, x7, x8, x9, xa, xb, xc, rfl⟩ ⟨Tp, u1, u2, rfl, nT, rfl, h1, h2⟩
        obtain ⟨wa, hwa, rfl⟩ := map_ref h2
        cases h1
        obtain ⟨t, ht, hW⟩ := L2.paired_get prW hwa
        have hkl : k < ws.length := (List.getElem?_eq_some_iff.mp ht).1
        obtain ⟨y, hy⟩ := getElem?_lt_some (l := ys) (k := k) (by omega)
        have sT := same_new (o := .tup [.int (k : Nat), .ref wa]) nT
        have s6 := s5.trans sT
        have sH6 := s3.trans s6
        have hB6 := sT _ _ hB
        have prB6 : Paired (MMvAt (upd H5 Tp (.tup [.int (k : Nat), .ref wa])) n) bas bs := Paired.mapP prB fun _ _ z => z.tups (.of sT)
        have hTp := new_at nT (o := .tup [.int (k : Nat), .ref wa])
        generalize upd H5 Tp (.tup [.int (k : Nat), .ref wa]) = H6 at sT s6 sH6 hB6 prB6 hTp
        refine ⟨Tp, _, rfl, SqT.of hTp, rfl, _, _, rfl, _, _, rfl, rfl, ?_⟩
        refine ⟨_, rfl, _, rfl, _, _, rfl, rfl, a, _, _, .int y, rfl, rfl, SqT.of (sH6 _ _ hsp), atI_nat (j := k + 1) (by show ((y0 :: ys).map V.int)[k + 1]? = _; rw [List.getElem?_map, List.getElem?_cons_succ, hy]; rfl), ?_⟩
        refine ⟨_, rfl, _, rfl, _, rfl, _, rfl, _, rfl, _, rfl, ta, _, _, _, rfl, rfl, SqT.of (sH6 _ _ hRow), atI_nat (j := 1) rfl, wa, t, r.2.1, rfl, hW.same sH6, m, M, wl, wa, t, ff, y, look t r.2.1, rfl, ⟨d, D.same sH6⟩, hW.same sH6, r80, nf, fun H7 Cl cs s7 nCl hCl mec lec => ?_⟩
        refine ⟨Nat.zero_le _, fun Wd nWd => ?_⟩
        have sWd := same_new (o := .lst []) nWd
        have sH7 := sH6.trans s7
        have hB7 := s7 _ _ hB6
        have s47 := s6.trans s7
        have prB7 : Paired (MMvAt H7 n) bas bs := Paired.mapP prB6 fun _ _ z => z.tups (.of s7)
        have nWB : B ≠ Wd := ne_new hB7 nWd
        have nWC : Cl ≠ Wd := ne_new hCl nWd
        have lbs : bs.length ≤ 8 := by
          have : k = 0 ∨ k = 1 := by omega
          rcases this with rfl | rfl <;> omega
        refine ⟨_, rfl, B, rfl, ⟨_, SqL.of (sWd _ _ hB7)⟩, ?_⟩
        refine for_it walk_list (fun u σ H' => Same H7 H' ∧ (∃ (wds : List Addr), H' Wd = some (.lst (wds.map V.ref)) ∧ Paired (MMvAt H' n) wds ((bs.take u).flatMap fun e => cs.map fun c => e ++ [xof M y c])) ∧
            ∃ x9 xa xb xc, σ = [some (.ref m), some (.ref l), some (.str ff), some (.ref a), some (.ref Mv), some (natV n), some (.ref ta), some (.ref B), some (natV k), some (.ref wa), some (.int y), some (.ref Cl), some (.ref Wd), x9, xa, xb, xc])
          ⟨sWd, ⟨[], upd_same, .nil⟩, _, _, _, _, rfl⟩ (fun u σ H' _ h => SqL.of (h.1 _ _ hB7)) ?_ ?_
        · rintro u v σ H8 H9 hu ⟨s8, ⟨wds, hWd, prWd⟩, x9, xa, xb, xc, rfl⟩ ⟨rfl, e1⟩
          obtain ⟨ba, hba, rfl⟩ := map_ref e1
          obtain ⟨e, he, b1, b2, ns, q1, q2, q3, q4⟩ := L2.paired_get prB7 hba
          have hem := List.mem_of_getElem? he
          refine ⟨ba, _, rfl, SqT.of (s8 _ _ q1), rfl, _, _, rfl, _, _, rfl, rfl, ?_⟩
          refine ⟨_, rfl, Cl, rfl, ⟨_, SqL.of (s8 _ _ hCl)⟩, ?_⟩
          refine for_it walk_list (fun j σ H' => Same H7 H' ∧ (∃ (wds : List Addr), H' Wd = some (.lst (wds.map V.ref)) ∧ Paired (MMvAt H' n) wds (((bs.take u).flatMap fun e => cs.map fun c => e ++ [xof M y c]) ++ (cs.take j).map fun c => e ++ [xof M y c])) ∧
              ∃ xb xc, σ = [some (.ref m), some (.ref l), some (.str ff), some (.ref a), some (.ref Mv), some (natV n), some (.ref ta), some (.ref B), some (natV k), some (.ref wa), some (.int y), some (.ref Cl), some (.ref Wd), some (.ref b1), some (.ref b2), xb, xc])
            ⟨s8, ⟨wds, hWd, by rw [List.take_zero, List.map_nil, List.append_nil]; exact prWd⟩, _, _, rfl⟩ (fun j σ H' _ h => SqL.of (h.1 _ _ hCl)) ?_ ?_
          · rintro j v σ HA HB hj ⟨sA, ⟨wds, hWd, prWd⟩, xb, xc, rfl⟩ ⟨rfl, e1⟩
            rw [List.getElem?_map] at e1
            obtain ⟨c, hc0, rfl⟩ : ∃ c, cs[j]? = some c ∧ v = .int c := by
              cases e : cs[j]? with
              | none => rw [e] at e1; exact nomatch (show (none : Option V) = some v from e1)
              | some t => rw [e] at e1; exact ⟨t, rfl, (Option.some.inj (show some (V.int t) = some v from e1)).symm⟩
            have hcm := (mec c).mp (List.mem_of_getElem? hc0)
            have le : e.length ≤ 3 := by
              obtain ⟨es, e1, e2⟩ := (meB e).mp hem
              have l2 := (AllAns.lens e2).2
              rw [List.length_take] at l2
              rw [e1, List.length_cons]
              omega
            have lwd : (((bs.take u).flatMap fun e => cs.map fun c => e ++ [xof M y c]) ++ (cs.take j).map fun c => e ++ [xof M y c]).length ≤ 72 := by
              have h1 : ∀ l : List (List Int), (l.flatMap fun e => cs.map fun c => e ++ [xof M y c]).length = l.length * cs.length := fun l => by
                induction l with
                | nil => simp
                | cons x l ih => rw [List.flatMap_cons, List.length_append, List.length_map, ih, List.length_cons, Nat.succ_mul, Nat.add_comm]
              rw [List.length_append, h1, List.length_map, List.length_take, List.length_take]
              have h2 : min u bs.length * cs.length ≤ 8 * 8 := Nat.mul_le_mul (by omega) lec
              omega
            refine ⟨_, rfl, _, rfl, _, _, rfl, rfl, _, rfl, ?_⟩
            refine ite2 (fun e0 => ?_) (fun e0 => ?_)
            · have c0 : 0 ≤ c := of_decide_eq_true e0
              obtain ⟨n', r', hn', hr'⟩ : ∃ (n' : Nat) (r' : Row), c = (n' : Int) ∧ M.rows[n']? = some r' := by
                cases ez : look t r.2.1 with
                | none =>
                  rw [ez] at hcm
                  have z : c = -1 := hcm
                  omega
                | some s0 =>
                  rw [ez] at hcm
                  obtain ⟨n', r', h1, h2, _⟩ := hcm
                  exact ⟨n', r', h1, h2⟩
              obtain ⟨tc, htc, hRc⟩ := D.at hr'
              have DA := D.same (sH7.trans sA)
              have ex : xof M y c = r'.2.2 := by
                unfold xof
                rw [if_pos c0, hn', Int.toNat_natCast, hr']
                rfl
              refine ⟨_, rfl, m, C, d.dx, d.fs, _, rfl, DA.ob, TM.x.cl, TM.n2, DA.f2, _, rfl, d.ar, _, _, .ref tc, rfl, rfl, SqL.of DA.rows, by rw [hn']; exact atI_nat (by rw [List.getElem?_map, htc]; rfl), ?_⟩
              refine ⟨tc, _, _, _, rfl, rfl, SqT.of ((sH7.trans sA) _ _ hRc), atI_nat (j := 2) rfl, ?_⟩
              refine ⟨_, rfl, .inl ⟨rfl, _, SqL.of hWd⟩, _, rfl, _, rfl, by show 1 ≤ sizeLine; decide, fun t1 nt1 => ?_⟩
              have st1 := same_new (o := .tup [V.int c]) nt1
              refine ⟨b1, t1, _, _, rfl, rfl, SqT.of (st1 _ _ (sA _ _ q2)), SqT.of upd_same, (fun z => nomatch z), by show (natV n :: ns.map V.int).length + 1 ≤ _; rw [List.length_cons, List.length_map]; omega, (fun z => nomatch z), fun _ t2 nt2 => ?_⟩
              have st2 := same_new (o := .tup ((natV n :: ns.map V.int) ++ [V.int c])) nt2
              refine ⟨_, rfl, _, rfl, by show 1 ≤ sizeLine; decide, fun t3 nt3 => ?_⟩
              have st3 := same_new (o := .tup [V.int r'.2.2]) nt3
              have st13 := (st1.trans st2).trans st3
              refine ⟨b2, t3, _, _, rfl, rfl, SqT.of (st13 _ _ (sA _ _ q3)), SqT.of upd_same, (fun z => by rw [List.map_eq_nil_iff] at z; rw [z] at q4; simp at q4), by show (e.map V.int).length + 1 ≤ _; rw [List.length_map]; omega, (fun z => nomatch z), fun _ t4 nt4 => ?_⟩
              have st4 := same_new (o := .tup (e.map V.int ++ [V.int r'.2.2])) nt4
              refine ⟨by show 2 ≤ sizeLine; decide, fun t5 nt5 => ?_⟩
              have st5 := same_new (o := .tup [V.ref t2, V.ref t4]) nt5
              have st := (st13.trans st4).trans st5
              have hWd5 := st _ _ hWd
              refine ⟨Wd, _, _, rfl, rfl, hWd5, by rw [List.length_map, Paired.length prWd]; omega, ?_⟩
              have tp := (Tups.of st).trans (Tups.put hWd5 (u := .lst (wds.map V.ref ++ [V.ref t5])) (fun _ z => nomatch z))
              have n2 : t2 ≠ Wd := Ne.symm (ne_new (st1 _ _ hWd) nt2)
              have n4 : t4 ≠ Wd := Ne.symm (ne_new (st13 _ _ hWd) nt4)
              have n5 : t5 ≠ Wd := Ne.symm (ne_new ((st13.trans st4) _ _ hWd) nt5)
              refine ⟨same_mut (sA.trans st) nWd, ⟨wds ++ [t5], by rw [upd_same, List.map_append]; rfl, ?_⟩, _, _, rfl⟩
              rw [take_snoc hc0, List.map_append, ← List.append_assoc]
              refine Paired.snoc (Paired.mapP prWd fun _ _ z => z.tups tp) ⟨t2, t4, ns ++ [c], up_ne upd_same n5, up_ne (st5 _ _ (st4 _ _ (st3 _ _ (by rw [upd_same, List.map_append]; rfl)))) n2, up_ne (st5 _ _ ?_) n4, by rw [List.length_append, List.length_append, ← q4]; rfl⟩
              refine upd_same.trans ?_
              show some (HO.tup (e.map V.int ++ [V.int (r'.2.2)])) = some (HO.tup ((e ++ [xof M y c]).map V.int))
              rw [ex, List.map_append]
              rfl
            · have ex : xof M y c = y := by
                unfold xof
                rw [if_neg (fun z => e0 (decide_eq_true z))]
              refine ⟨_, rfl, .inl ⟨rfl, _, SqL.of hWd⟩, _, rfl, _, rfl, by show 1 ≤ sizeLine; decide, fun t1 nt1 => ?_⟩
              have st1 := same_new (o := .tup [V.int c]) nt1
              refine ⟨b1, t1, _, _, rfl, rfl, SqT.of (st1 _ _ (sA _ _ q2)), SqT.of upd_same, (fun z => nomatch z), by show (natV n :: ns.map V.int).length + 1 ≤ _; rw [List.length_cons, List.length_map]; omega, (fun z => nomatch z), fun _ t2 nt2 => ?_⟩
              have st2 := same_new (o := .tup ((natV n :: ns.map V.int) ++ [V.int c])) nt2
              refine ⟨_, rfl, _, rfl, by show 1 ≤ sizeLine; decide, fun t3 nt3 => ?_⟩
              have st3 := same_new (o := .tup [V.int y]) nt3
              have st13 := (st1.trans st2).trans st3
              refine ⟨b2, t3, _, _, rfl, rfl, SqT.of (st13 _ _ (sA _ _ q3)), SqT.of upd_same, (fun z => by rw [List.map_eq_nil_iff] at z; rw [z] at q4; simp at q4), by show (e.map V.int).length + 1 ≤ _; rw [List.length_map]; omega, (fun z => nomatch z), fun _ t4 nt4 => ?_⟩
              have st4 := same_new (o := .tup (e.map V.int ++ [V.int y])) nt4
              refine ⟨by show 2 ≤ sizeLine; decide, fun t5 nt5 => ?_⟩
              have st5 := same_new (o := .tup [V.ref t2, V.ref t4]) nt5
              have st := (st13.trans st4).trans st5
              have hWd5 := st _ _ hWd
              refine ⟨Wd, _, _, rfl, rfl, hWd5, by rw [List.length_map, Paired.length prWd]; omega, ?_⟩
              have tp := (Tups.of st).trans (Tups.put hWd5 (u := .lst (wds.map V.ref ++ [V.ref t5])) (fun _ z => nomatch z))
              have n2 : t2 ≠ Wd := Ne.symm (ne_new (st1 _ _ hWd) nt2)
              have n4 : t4 ≠ Wd := Ne.symm (ne_new (st13 _ _ hWd) nt4)
              have n5 : t5 ≠ Wd := Ne.symm (ne_new ((st13.trans st4) _ _ hWd) nt5)
              refine ⟨same_mut (sA.trans st) nWd, ⟨wds ++ [t5], by rw [upd_same, List.map_append]; rfl, ?_⟩, _, _, rfl⟩
              rw [take_snoc hc0, List.map_append, ← List.append_assoc]
              refine Paired.snoc (Paired.mapP prWd fun _ _ z => z.tups tp) ⟨t2, t4, ns ++ [c], up_ne upd_same n5, up_ne (st5 _ _ (st4 _ _ (st3 _ _ (by rw [upd_same, List.map_append]; rfl)))) n2, up_ne (st5 _ _ ?_) n4, by rw [List.length_append, List.length_append, ← q4]; rfl⟩
              refine upd_same.trans ?_
              show some (HO.tup (e.map V.int ++ [V.int (y)])) = some (HO.tup ((e ++ [xof M y c]).map V.int))
              rw [ex, List.map_append]
              rfl
          · rintro σ HA ⟨sA, ⟨wds, hWd, prWd⟩, xb, xc, rfl⟩
            rw [List.length_map, List.take_length] at prWd
            refine ⟨sA, ⟨wds, hWd, ?_⟩, _, _, _, _, rfl⟩
            rw [take_snoc he, List.flatMap_append, List.flatMap_singleton]
            exact prWd
        · rintro σ H8 ⟨s8, ⟨wds, hWd, prWd⟩, x9, xa, xb, xc, rfl⟩
          have elb : (bas.map V.ref).length = bs.length := by rw [List.length_map]; exact Paired.length prB7
          rw [elb, List.take_length] at prWd
          refine ⟨_, rfl, s47.trans s8, Wd, wds, _, hWd, prWd, fun e' => ?_, ?_, Ne.symm (ne_new (s47 _ _ hM3) nWd), _, _, _, _, _, _, _, _, _, rfl⟩
          · rw [take_snoc ht, take_snoc hy, List.mem_flatMap]
            have lts : (ys.take k).length = (ws.take k).length := by rw [List.length_take, List.length_take]; omega
            constructor
            · rintro ⟨e, he, h⟩
              obtain ⟨c, hc, rfl⟩ := List.mem_map.mp h
              obtain ⟨es, rfl, ha⟩ := (meB e).mp he
              exact ⟨es ++ [xof M y c], rfl, (allAns_snoc lts).mpr ⟨es, _, rfl, ha, xof_iff.mp ⟨c, (mec c).mp hc, rfl⟩⟩⟩
            · rintro ⟨es', rfl, ha⟩
              obtain ⟨es, x, rfl, h1, h2⟩ := (allAns_snoc lts).mp ha
              obtain ⟨c, hc, rfl⟩ := xof_iff.mpr h2
              exact ⟨r.2.2 :: es, (meB _).mpr ⟨es, rfl, h1⟩, List.mem_map.mpr ⟨c, (mec c).mpr hc, rfl⟩⟩
          · have h1 : ∀ l : List (List Int), (l.flatMap fun e => cs.map fun c => e ++ [xof M y c]).length = l.length * cs.length := fun l => by
              induction l with
              | nil => simp
              | cons x l ih => rw [List.flatMap_cons, List.length_append, List.length_map, ih, List.length_cons, Nat.succ_mul, Nat.add_comm]
            rw [h1, Nat.pow_succ]
            exact Nat.mul_le_mul leB lec
      · rintro σ H5 ⟨s5, B, bas, bs, hB, prB, meB, leB, nBM, x4, x5, x6, x7, x8, x9, xa, xb, xc, rfl⟩
        rw [lw] at meB leB
        rw [List.take_length, ← lys, List.take_length] at meB
        have hM5 := s5 _ _ hM3
        have leB2 : bs.length ≤ 64 := by
          have : ws.length = 0 ∨ ws.length = 1 ∨ ws.length = 2 := by omega
          rcases this with h | h | h <;> rw [h] at leB <;> omega
        have lmv := Paired.length pr3
        have lbas := Paired.length prB
        refine ⟨_, rfl, .inl ⟨rfl, _, SqL.of hM5⟩, _, rfl, Mv, B, _, _, rfl, rfl, hM5, hB, by rw [List.length_map, List.length_map]; omega, ?_⟩
        have tp : Tups H4 (upd H5 Mv (.lst (as.map V.ref ++ bas.map V.ref))) := (Tups.of s5).trans (Tups.put hM5 (fun _ z => nomatch z))
        have tp5 : Tups H5 (upd H5 Mv (.lst (as.map V.ref ++ bas.map V.ref))) := Tups.put hM5 (fun _ z => nomatch z)
        refine ⟨same_mut (s3.trans s5) nMv, up_ne (s5 _ _ hln3) nlM, ⟨as ++ bas, mv ++ bs.map fun e => (n, e), by rw [upd_same, List.map_append], ?_, fun n' e => ?_, by rw [List.length_append, List.length_map]; omega⟩, _, _, _, _, _, _, _, _, _, _, _, _, rfl⟩
        · exact paired_append (Paired.mapP pr3 fun _ _ z => z.tups tp) (paired_mapR (F := MMvAt H5 n) (G := fun a (ne : Nat × List Int) => MMvAt _ ne.1 a ne.2) (g := fun e => (n, e)) (fun a b z => z.tups tp5) prB)
        · rw [List.mem_append, me3, take_snoc hn]
          constructor
          · rintro (⟨h1, h2⟩ | h)
            · exact ⟨List.mem_append_left _ h1, h2⟩
            · obtain ⟨e2, he2, e3⟩ := List.mem_map.mp h
              cases e3
              obtain ⟨es, rfl, ha⟩ := (meB _).mp he2
              exact ⟨List.mem_append_right _ (by simp), r, ys, es, hr0, by rw [hr1], ha, rfl⟩
          · rintro ⟨h1, h2⟩
            rcases List.mem_append.mp h1 with z | z
            · exact .inl ⟨z, h2⟩
            · rw [List.mem_singleton] at z
              subst z
              obtain ⟨r', ys', es, e1, e2, e3, e4⟩ := h2
              rw [hr0] at e1
              cases e1
              injection e2 with e5 e6
              subst e6
              exact .inr (List.mem_map.mpr ⟨e, (meB e).mpr ⟨es, e4, e3⟩, rfl⟩)
    · rintro σ H3 ⟨s3, _, ⟨as, mv, hM3, pr3, me3, le3⟩, x1, x2, x3, x4, x5, x6, x7, x8, x9, xa, xb, xc, rfl⟩
      rw [List.length_map] at me3 le3
      rw [List.take_length] at me3
      refine ⟨_, rfl, q _ Mv as mv s3 nMv hM3 pr3 (fun n e => ?_) (by omega)⟩
      rw [me3]
      constructor
      · exact fun h => h.2
      · intro h
        obtain ⟨r, ys', es, e1, e2, e3, e4⟩ := id h
        injection e2 with e5 e6
        exact ⟨mem_nums.mpr ⟨r, e1, e5.symm⟩, h⟩
end
end Kn

end
section
set_option maxHeartbeats 4000000
/-! met_keys, met_tuples. -/
namespace Kn
open PySem PySem.Spec PyProof.Rows L2
theorem sc_MetKeys : FnScope ["machine", "rows", "fault", "first", "met", "current", "later", "key", "numbers", "end", "new", "side", "info"] ["machine", "rows", "fault"] (defScope sMetKeys) := ⟨rfl, rfl, rfl, by decide +kernel, rfl, by decide +kernel, by decide +kernel⟩
theorem sc_MetTuples : FnScope ["machine", "rows", "fault", "ahead", "behind", "key", "info"] ["machine", "rows", "fault"] (defScope sMetTuples) := ⟨rfl, rfl, rfl, by decide +kernel, rfl, by decide +kernel, by decide +kernel⟩
abbrev BS := Bool × List Int
def b2i (c : Bool) : Int := if c = true then 1 else 0
theorem b2i_inj {a b : Bool} (h : b2i a = b2i b) : a = b := by
  cases a <;> cases b <;> first | rfl | exact absurd h (by decide)
def kk (p : BS) : NestedKey := sdk (b2i p.1) p.2
theorem kk_inj {a b : BS} (h : kk a = kk b) : a = b := by
  obtain ⟨a1, a2⟩ := a
  obtain ⟨b1, b2⟩ := b
  obtain ⟨h1, h2⟩ := sdk_inj h
  have h1' := b2i_inj h1
  simp only at h1' h2
  rw [h1', h2]
theorem mem_kk {l : List BS} {p : BS} : kk p ∈ l.map kk ↔ p ∈ l := by
  rw [List.mem_map]
  exact ⟨fun ⟨x, hx, e⟩ => kk_inj e ▸ hx, fun h => ⟨p, h, rfl⟩⟩
theorem key_new {H : Hp} {t ec : Addr} {c : Bool} {e : List Int} {B : Int} (nt : H t = none) (h : SpotAt H ec e) (eB : b2i c = B) : KeyA (upd H t (.tup [.int B, .ref ec])) (kk (c, e)) t := by
  subst eB
  exact keyA_side (new_at nt) (same_new nt _ _ h)
def allSp (S : List Int) : Nat → List (List Int)
  | 0 => [[]]
  | n + 1 => S.flatMap fun x => (allSp S n).map fun t => x :: t
theorem allSp_len (S : List Int) : ∀ n, (allSp S n).length = S.length ^ n
  | 0 => rfl
  | n + 1 => by
    have h : ∀ l : List Int, (l.flatMap fun x => (allSp S n).map fun t => x :: t).length = l.length * S.length ^ n := fun l => by
      induction l with
      | nil => simp
      | cons x l ih => rw [List.flatMap_cons, List.length_append, List.length_map, ih, allSp_len S n, List.length_cons, Nat.succ_mul, Nat.add_comm]
    show (S.flatMap fun x => (allSp S n).map fun t => x :: t).length = _
    rw [h, Nat.pow_succ, Nat.mul_comm]
theorem mem_allSp {S : List Int} : ∀ {n : Nat} {t : List Int}, t.length = n → (∀ x ∈ t, x ∈ S) → t ∈ allSp S n
  | 0, [], _, _ => List.mem_singleton.mpr rfl
  | n + 1, x :: t, h, hs => List.mem_flatMap.mpr ⟨x, hs x List.mem_cons_self, List.mem_map.mpr ⟨t, mem_allSp (Nat.succ.inj h) (fun y hy => hs y (List.mem_cons_of_mem _ hy)), rfl⟩⟩
/-- the states of a machine: few -/
structure Sts (M : Mach) (S : List Int) : Prop where
  len : S.length ≤ 9
  st : M.start ∈ S
  cl : ∀ r ∈ M.rows, r.2.2 ∈ S
  few : ∀ s, (nums M.rows s).length ≤ 8
theorem ans_in {M : Mach} {S : List Int} (FS : Sts M S) {f w : Str} : ∀ {ts : List Tab} {ys es : List Int}, AllAns M f w ts ys es → (∀ y ∈ ys, y ∈ S) → ∀ e ∈ es, e ∈ S
  | [], [], [], _, _ => fun _ h => nomatch h
  | t :: ts, y :: ys, e :: es, h, hy => fun x hx => by
    obtain ⟨h1, h2⟩ := (show Ans M f t (look t w) y e ∧ AllAns M f w ts ys es from h)
    rcases List.mem_cons.mp hx with z | z
    · subst z
      cases ez : look t w with
      | none =>
        rw [ez] at h1
        have q : x = y := h1
        rw [q]
        exact hy y List.mem_cons_self
      | some s =>
        rw [ez] at h1
        obtain ⟨r, hr, _, _, _, e1⟩ := h1
        rw [e1]
        exact FS.cl r hr
    · exact ans_in FS h2 (fun y' hy' => hy y' (List.mem_cons_of_mem _ hy')) x z
theorem reach_in {M : Mach} {ws : List Tab} {f : Str} {S : List Int} (FS : Sts M S) {b : Bool} {sp : List Int} (h : Reach M ws f b sp) : ∀ y ∈ sp, y ∈ S := by
  induction h with
  | start =>
    intro y hy
    rw [(List.mem_replicate.mp hy).2]
    exact FS.st
  | side _ s ih =>
    obtain ⟨k, t, y, r, _, _, hr, _, _, _, rfl⟩ := s
    intro z hz
    rcases List.mem_or_eq_of_mem_set hz with q | q
    · exact ih z q
    · rw [q]
      exact FS.cl r hr
  | main _ s ih =>
    obtain ⟨r, hr, ys, es, rfl, _, ha, rfl⟩ := s
    intro z hz
    rcases List.mem_cons.mp hz with q | q
    · rw [q]
      exact FS.cl r hr
    · exact ans_in FS ha (fun y hy => ih y (List.mem_cons_of_mem _ hy)) z q
theorem reach_le {M : Mach} {ws : List Tab} {f : Str} {S : List Int} (FS : Sts M S) (w2 : ws.length ≤ 2) {l : List BS} (nd : l.Nodup) (h : ∀ p ∈ l, Reach M ws f p.1 p.2) : l.length ≤ 1458 := by
  have h1 := len_sub (b := [false, true].flatMap fun b => (allSp S (ws.length + 1)).map fun t => ((b, t) : BS)) nd fun p hp => by
    refine List.mem_flatMap.mpr ⟨p.1, by cases p.1 <;> simp, List.mem_map.mpr ⟨p.2, mem_allSp (h p hp).len (reach_in FS (h p hp)), rfl⟩⟩
  have e : ([false, true].flatMap fun b => (allSp S (ws.length + 1)).map fun t => ((b, t) : BS)).length = 2 * S.length ^ (ws.length + 1) := by
    simp only [List.flatMap_cons, List.flatMap_nil, List.length_append, List.length_map, List.length_nil, allSp_len]
    omega
  rw [e] at h1
  have h2 : S.length ^ (ws.length + 1) ≤ 9 ^ (ws.length + 1) := Nat.pow_le_pow_left FS.len _
  have h3 : 9 ^ (ws.length + 1) ≤ 9 ^ 3 := Nat.pow_le_pow_right (by decide) (by omega)
  have h4 : (9 : Nat) ^ 3 = 729 := by decide
  omega
def ClP (M : Mach) (ws : List Tab) (f : Str) (met lat : List BS) (p : BS) : Prop := (∀ e, Side M ws f p.2 e → (p.1, e) ∈ met) ∧ ∀ b e, Main M ws f b p.2 e → (p.1 || b, e) ∈ met ∨ (p.1 || b, e) ∈ lat
theorem ClP.mono {M : Mach} {ws : List Tab} {f : Str} {met lat met' lat' : List BS} {p : BS} (h : ClP M ws f met lat p) (h1 : ∀ x ∈ met, x ∈ met') (h2 : ∀ x ∈ lat, x ∈ met' ∨ x ∈ lat') : ClP M ws f met' lat' p :=
  ⟨fun e s => h1 _ (h.1 e s), fun b e s => (h.2 b e s).elim (fun z => .inl (h1 _ z)) fun z => h2 _ z⟩
/-- the dict at d has the keys l -/
def DK (P : Program) (w : World) (H : Hp) (d : Addr) (l : List BS) : Prop := ∃ es ep, H d = some (DX P w d es ep) ∧ KO H es ∧ es.map (·.1) = l.map kk
structure MkS (M : Mach) (ws : List Tab) (f : Str) (met cur lat : List BS) : Prop where
  rm : ∀ p ∈ met, Reach M ws f p.1 p.2
  rl : ∀ p ∈ lat, Reach M ws f p.1 p.2
  cm : ∀ p ∈ cur, p ∈ met
  nm : met.Nodup
  nl : lat.Nodup
  st : (false, List.replicate (ws.length + 1) M.start) ∈ met
  cl : cur.length ≤ met.length
theorem nodup_snoc {α : Type} {l : List α} {x : α} (h : l.Nodup) (n : ¬ x ∈ l) : (l ++ [x]).Nodup := List.nodup_append.mpr ⟨h, by simp, fun a ha b hb q => n (by rw [List.mem_singleton.mp hb] at q; rw [← q]; exact ha)⟩
theorem MkS.meet {M : Mach} {ws : List Tab} {f : Str} {met cur lat : List BS} (h : MkS M ws f met cur lat) {p : BS} (hr : Reach M ws f p.1 p.2) (hn : ¬ p ∈ met) : MkS M ws f (met ++ [p]) (cur ++ [p]) lat where
  rm := fun q hq => (List.mem_append.mp hq).elim (h.rm q) fun z => by rw [List.mem_singleton.mp z]; exact hr
  rl := h.rl
  cm := fun q hq => (List.mem_append.mp hq).elim (fun z => List.mem_append_left _ (h.cm q z)) fun z => List.mem_append_right _ z
  nm := nodup_snoc h.nm hn
  nl := h.nl
  st := List.mem_append_left _ h.st
  cl := by rw [List.length_append, List.length_append]; exact Nat.succ_le_succ h.cl
theorem MkS.late {M : Mach} {ws : List Tab} {f : Str} {met cur lat : List BS} (h : MkS M ws f met cur lat) {p : BS} (hr : Reach M ws f p.1 p.2) (hn : ¬ p ∈ lat) : MkS M ws f met cur (lat ++ [p]) where
  rm := h.rm
  rl := fun q hq => (List.mem_append.mp hq).elim (h.rl q) fun z => by rw [List.mem_singleton.mp z]; exact hr
  cm := h.cm
  nm := h.nm
  nl := nodup_snoc h.nl hn
  st := h.st
  cl := h.cl
section
variable {P : Program} {w : World} {K : PySem.W.Frag} {mg : Str → Option Value} {base : Heap} {C CW : Addr}
theorem DK.tups {H H' : Hp} {d : Addr} {l : List BS} (h : DK P w H d l) (e : H' d = H d) (s : Tups H H') : DK P w H' d l := let ⟨es, ep, h1, h2, h3⟩ := h; ⟨es, ep, e.trans h1, h2.tups s, h3⟩
theorem DK.same {H H' : Hp} {d : Addr} {l : List BS} (h : DK P w H d l) (s : Same H H') : DK P w H' d l := let ⟨es, ep, h1, h2, h3⟩ := h; ⟨es, ep, s _ _ h1, h2.tups (.of s), h3⟩
def MkI (P : Program) (w : World) (H : Hp) (M : Mach) (ws : List Tab) (f : Str) (m l Md Cd : Addr) (n : Nat) (σ : L2.St) (H' : Hp) : Prop := ∃ (met cur lat : List BS) (Ld : Addr) (cas : List Addr), n = 2 * (1458 - met.length) + cur.length ∧ Same H H' ∧ DK P w H' Md met ∧ H' Cd = some (.lst (cas.map V.ref)) ∧ Paired (fun a p => KeyA H' (kk p) a) cas cur ∧ DK P w H' Ld lat ∧
  H Ld = none ∧ Ld ≠ Md ∧ Ld ≠ Cd ∧ MkS M ws f met cur lat ∧ (∀ p ∈ met, p ∈ cur ∨ ClP M ws f met lat p) ∧ (cur = [] → lat = []) ∧
  ∃ x3 x7 x8 x9 xa xb xc, σ = [some (.ref m), some (.ref l), some (.str f), x3, some (.ref Md), some (.ref Cd), some (.ref Ld), x7, x8, x9, xa, xb, xc]
def spMetKeys (P : Program) (w : World) (C CW : Addr) : Sp := fun vs H Q _ => ∃ m M wl l ws f S, vs = [.ref m, .ref l, .str f] ∧ MachAt C H m M wl ∧ WsAt CW H l ws ∧ M.rows.length ≤ 80 ∧ ws.length ≤ 2 ∧ Sts M S ∧
  ∀ (H' : Hp) (d : Addr) (met : List BS), Same H H' → H d = none → DK P w H' d met → met.Nodup → (∀ p, p ∈ met ↔ Reach M ws f p.1 p.2) → met.length ≤ 1458 → Q (.ref d) H'
theorem ok_MetKeys {f : Addr} {fd : FuncData} (F : FnP K "met_keys" "met_keys" sMetKeys [] f fd) (T : Tx K mg) (C_first_tuple : Cal P w K mg base 3 "first_tuple" ["machine", "rows"] (spFirstTuple C CW)) (C_side_moves : Cal P w K mg base 3 "side_moves" ["machine", "rows", "fault", "spot"] (spSideMoves C CW))
    (C_main_moves : Cal P w K mg base 3 "main_moves" ["machine", "rows", "fault", "spot"] (spMainMoves C CW)) (C_is_fault_step : Cal P w K mg base 3 "is_fault_step" ["machine", "number", "fault"] (spIsFaultStep C)) : FnOk P w K mg base CX0 4 f fd ["machine", "rows", "fault"] (spMetKeys P w C CW) := by
  refine mk_fn F sc_MetKeys (fun vs H Q E h => ?_) (fun cdv A outer s H vs Q E hr h => ?_)
  · obtain ⟨m, M, wl, l, ws, f, S, rfl, _⟩ := h
    rfl
  · obtain ⟨m, M, wl, l, ws, ff, S, rfl, hMa, hWs, r80, w2, FS, q⟩ := h
    have hu := hu_of hr
    have sl : (1000000 : Nat) < sizeLine := by decide
    refine ⟨_, (pss_cons (ps_set (i := 3) sc_MetKeys.nd rfl (Or.inl rfl) (pe_tup (pa_cons (pgi T.AHEAD) (pa_cons (pc C_first_tuple hr (pa_cons (pv 0) (pa_cons (pv 1) pa_nil))) pa_nil))))
        (pss_cons (ps_set (i := 4) sc_MetKeys.nd rfl (Or.inl rfl) (pe_dx1 hr (pv 3) pe_non))
        (pss_cons (ps_set (i := 5) sc_MetKeys.nd rfl (Or.inl rfl) (pe_lst (pa_cons (pv 3) pa_nil)))
        (pss_cons (ps_set (i := 6) sc_MetKeys.nd rfl (Or.inl rfl) (pe_dx0))
        (pss_cons (ps_while PassesOwn.never (pt_truth (pv 5) (fun _ => rfl))
        (pss_cons (ps_set (i := 7) sc_MetKeys.nd rfl (Or.inl rfl) (pe_bm0 PySem.F.plainAttrs_list PySem.F.slot_list_pop PySem.F.type_list_pop mt_pop (pv 5)))
        (pss_cons (ps_for PassesOwn.never rfl (pi_list (pc C_side_moves hr (pa_cons (pv 0) (pa_cons (pv 1) (pa_cons (pv 2) (pa_cons (pe_ix ix_tup (pv 7) pe_int (fun _ _ => rfl)) pa_nil)))))) (pg_tup (n := 2) rfl (pgs_cons (pg_name (i := 8) sc_MetKeys.nd rfl (Or.inl rfl)) (pgs_cons (pg_name (i := 9) sc_MetKeys.nd rfl (Or.inl rfl)) pgs_nil)))
        (pss_cons (ps_set (i := 10) sc_MetKeys.nd rfl (Or.inl rfl) (pe_tup (pa_cons (pe_ix ix_tup (pv 7) pe_int (fun _ _ => rfl)) (pa_cons (pv 9) pa_nil))))
        (pss_one (ps_if (pt_cmpR (op_dxNotIn hr) (pv 10) (pv 4) rfl) (pss_cons (ps_asg (pe_tup (pa_cons (pv 7) (pa_cons (pv 8) pa_nil))) (pg_sub (pv 4) (pv 10) (set_dx hr)))
        (pss_one (ps_expr (pe_bm PySem.F.plainAttrs_list PySem.F.slot_list_append PySem.F.type_list_append mt_append (pv 5) (pa_cons (pv 10) pa_nil))))) pss_nil))))
        (pss_cons (ps_for PassesOwn.never rfl (pi_list (pc C_main_moves hr (pa_cons (pv 0) (pa_cons (pv 1) (pa_cons (pv 2) (pa_cons (pe_ix ix_tup (pv 7) pe_int (fun _ _ => rfl)) pa_nil)))))) (pg_tup (n := 2) rfl (pgs_cons (pg_name (i := 8) sc_MetKeys.nd rfl (Or.inl rfl)) (pgs_cons (pg_name (i := 9) sc_MetKeys.nd rfl (Or.inl rfl)) pgs_nil)))
        (pss_cons (ps_set (i := 11) sc_MetKeys.nd rfl (Or.inl rfl) (pe_ix ix_tup (pv 7) pe_int (fun _ _ => rfl)))
        (pss_cons (ps_if (pt_val (pc C_is_fault_step hr (pa_cons (pv 0) (pa_cons (pe_ix ix_tup (pv 8) pe_int (fun _ _ => rfl)) (pa_cons (pv 2) pa_nil))))) (pss_one (ps_set (i := 11) sc_MetKeys.nd rfl (Or.inl rfl) (pgi T.BEHIND))) pss_nil)
        (pss_one (ps_if (PW.pt (pw_and (pt_cmpR (op_dxNotIn hr) (pe_tup (pa_cons (pv 11) (pa_cons (pv 9) pa_nil))) (pv 4) rfl) (pw_and1 (pt_cmpR (op_dxNotIn hr) (pe_tup (pa_cons (pv 11) (pa_cons (pv 9) pa_nil))) (pv 6) rfl)))) (pss_one (ps_asg (pe_tup (pa_cons (pv 7) (pa_cons (pv 8) pa_nil))) (pg_sub (pv 6) (pe_tup (pa_cons (pv 11) (pa_cons (pv 9) pa_nil))) (set_dx hr)))) pss_nil)))))
        (pss_cons (ps_if (pt_not (pt_truth (pv 5) (fun _ => rfl))) (pss_cons (ps_for PassesOwn.never rfl (pi_dxi (pv 6)) (pg_tup (n := 2) rfl (pgs_cons (pg_name (i := 10) sc_MetKeys.nd rfl (Or.inl rfl)) (pgs_cons (pg_name (i := 12) sc_MetKeys.nd rfl (Or.inl rfl)) pgs_nil)))
        (pss_one (ps_if (pt_cmpR (op_dxNotIn hr) (pv 10) (pv 4) rfl) (pss_cons (ps_asg (pv 12) (pg_sub (pv 4) (pv 10) (set_dx hr)))
        (pss_one (ps_expr (pe_bm PySem.F.plainAttrs_list PySem.F.slot_list_append PySem.F.type_list_append mt_append (pv 5) (pa_cons (pv 10) pa_nil))))) pss_nil)))
        (pss_one (ps_set (i := 6) sc_MetKeys.nd rfl (Or.inl rfl) (pe_dx0)))) pss_nil)
        (pss_one (ps_if (PW.pt (pw_or (pt_cmpR op_gt (pe_callB call_len_dx (by rfl) T.len PySem.boot_len (pa_cons (pv 4) pa_nil)) (pgi T.MOST_TUPLES) (nomark _)) (pw_or1 (pt_cmpR op_gt (pe_callB call_len_dx (by rfl) T.len PySem.boot_len (pa_cons (pv 6) pa_nil)) (pgi T.MOST_TUPLES) (nomark _))))) pss_never pss_nil)))))))
        (pss_one (ps_ret (pv 4)))))))), ?_⟩
    refine ⟨_, rfl, _, rfl, m, M, wl, l, ws, rfl, hMa, hWs, by omega, fun H1 a1 s1 na1 ha1 => ⟨by show 2 ≤ sizeLine; decide, fun a2 na2 => ?_⟩⟩
    have s2 := same_new (o := .tup [V.int 0, V.ref a1]) na2
    have kA : KeyA (upd H1 a2 (.tup [V.int 0, V.ref a1])) (kk (false, List.replicate (ws.length + 1) M.start)) a2 := keyA_side (b := 0) (new_at na2) (s2 _ _ ha1)
    have sH2 := s1.trans s2
    generalize upd H1 a2 (.tup [V.int 0, V.ref a1]) = H2 at s2 kA sH2
    intro Md nMd
    have s3 : Same H2 (upd H2 Md (DX P w Md [] 0)) := same_new nMd
    refine ⟨_, rfl, upd_same, a2, kk (false, List.replicate (ws.length + 1) M.start), rfl, kA.tups (.of s3), fun ep => ?_⟩
    have nMd0 := sH2.free nMd
    have s4 : Same H2 (upd (upd H2 Md (DX P w Md [] 0)) Md (DX P w Md [(kk (false, List.replicate (ws.length + 1) M.start), a2, V.non)] ep)) := same_mut s3 nMd
    have hM4 : (upd (upd H2 Md (DX P w Md [] 0)) Md (DX P w Md [(kk (false, List.replicate (ws.length + 1) M.start), a2, V.non)] ep)) Md = some _ := upd_same
    refine ⟨_, rfl, by show 1 ≤ sizeLine; decide, fun Cd nCd => ?_⟩
    have s5 := same_new (o := .lst [V.ref a2]) nCd
    have hC5 := new_at nCd (o := .lst [V.ref a2])
    have nCM : Md ≠ Cd := ne_new hM4 nCd
    intro Ld ep2 nLd
    have s6 : Same _ (upd _ Ld (DX P w Ld [] ep2)) := same_new nLd
    have nLM : Ld ≠ Md := Ne.symm (ne_new (s5 _ _ hM4) nLd)
    have nLC : Ld ≠ Cd := Ne.symm (ne_new hC5 nLd)
    have nCd0 : H Cd = none := (sH2.trans s4).free nCd
    have sAll := ((sH2.trans s4).trans s5).trans s6
    refine ⟨MkI P w H M ws ff m l Md Cd, ⟨_, [(false, List.replicate (ws.length + 1) M.start)], [(false, List.replicate (ws.length + 1) M.start)], [], Ld, [a2], rfl, sAll, ⟨_, ep, s6 _ _ (s5 _ _ hM4), fun x hx => ?_, rfl⟩, s6 _ _ hC5, .cons (kA.tups (.of ((s4.trans s5).trans s6))) .nil, ⟨[], ep2, upd_same, KO.nil, rfl⟩, ((sH2.trans s4).trans s5).free nLd, nLM, nLC, ⟨fun p hp => ?_, (fun p hp => nomatch hp), fun p hp => hp, by simp, List.nodup_nil, by simp, Nat.le_refl _⟩, fun p hp => .inl hp, (fun z => nomatch z), _, _, _, _, _, _, _, rfl⟩, ?_⟩
    · rw [List.mem_singleton.mp hx]
      exact kA.tups (.of ((s4.trans s5).trans s6))
    · rw [List.mem_singleton.mp hp]
      exact .start
    clear sAll s6 nLC nLM hC5 s5 nLd hM4 s4 s3 kA s2
    rintro n σ H3 ⟨met, cur, lat, Ld, cas, rfl, sH, hMd, hCd, prC, hLd, nLd, nLM, nLC, S0, inv, cl0, x3, x7, x8, x9, xa, xb, xc, rfl⟩
    refine ⟨_, rfl, !(cas.map V.ref).isEmpty, .inl ⟨_, SqL.of hCd, rfl⟩, ?_⟩
    have lca := Paired.length prC
    rcases List.eq_nil_or_concat cur with rfl | ⟨cur1, p, rfl⟩
    · have ec : cas = [] := List.length_eq_zero_iff.mp lca
      subst ec
      refine iteF ⟨_, rfl, ?_⟩
      have el := cl0 rfl
      subst el
      refine q _ Md met sH nMd0 hMd S0.nm (fun p => ⟨S0.rm p, fun hR => ?_⟩) (reach_le FS w2 S0.nm S0.rm)
      have inv2 : ∀ p ∈ met, ClP M ws ff met [] p := fun p hp => (inv p hp).resolve_left fun z => nomatch z
      obtain ⟨b, sp⟩ := p
      have hR' : Reach M ws ff b sp := hR
      clear hR
      induction hR' with
      | start => exact S0.st
      | side _ hs ih => exact (inv2 _ ih).1 _ hs
      | main _ hs ih => exact ((inv2 _ ih).2 _ _ hs).resolve_right fun z => nomatch z
    · rw [List.concat_eq_append] at prC S0 inv cl0 lca ⊢
      have lmet := reach_le FS w2 S0.nm S0.rm
      have lcur := S0.cl
      rw [List.length_append, List.length_singleton] at lca lcur
      obtain ⟨cas1, ka, rfl, prC1, hka⟩ : ∃ cas1 ka, cas = cas1 ++ [ka] ∧ Paired (fun a p => KeyA H3 (kk p) a) cas1 cur1 ∧ KeyA H3 (kk p) ka := by
        rcases List.eq_nil_or_concat cas with rfl | ⟨cas1, ka, rfl⟩
        · simp at lca
        · rw [List.concat_eq_append] at prC lca
          rw [List.length_append, List.length_singleton] at lca
          refine ⟨cas1, ka, List.concat_eq_append, ?_⟩
          clear S0 inv cl0 hCd lcur
          have gen : ∀ {x : List Addr} {y : List BS}, x.length = y.length → Paired (fun a p => KeyA H3 (kk p) a) (x ++ [ka]) (y ++ [p]) → Paired (fun a p => KeyA H3 (kk p) a) x y ∧ KeyA H3 (kk p) ka := by
            intro x
            induction x with
            | nil =>
              intro y hl h
              have : y = [] := List.length_eq_zero_iff.mp hl.symm
              subst this
              cases h with
              | cons h1 h2 => exact ⟨.nil, h1⟩
            | cons a x ih =>
              intro y hl h
              cases y with
              | nil => simp at hl
              | cons b y =>
                cases h with
                | cons h1 h2 =>
                  obtain ⟨i1, i2⟩ := ih (Nat.succ.inj hl) h2
                  exact ⟨.cons h1 i1, i2⟩
          exact gen (by omega) prC
      obtain ⟨c, sp⟩ := p
      obtain ⟨spa, hk1, hk2⟩ := sideAt_of (b := b2i c) (sp := sp) hka
      have hRp : Reach M ws ff c sp := S0.rm _ (S0.cm (c, sp) (by simp))
      have lsp := hRp.len
      have et : (!((cas1 ++ [ka]).map V.ref).isEmpty) = true := by rw [List.map_append]; simp
      rw [et]
      refine iteT ⟨fun σ' H' => ∃ m', m' < 2 * (1458 - met.length) + (cur1 ++ [(c, sp)]).length ∧ MkI P w H M ws ff m l Md Cd m' σ' H', fun σ' H' h => h, ?_⟩
      have ew : ((cas1 ++ [ka]).map V.ref)[((cas1 ++ [ka]).map V.ref).length - 1]? = some (.ref ka) := by rw [List.map_append]; simp
      refine ⟨_, rfl, .inl ⟨rfl, _, SqL.of hCd⟩, Cd, _, .ref ka, rfl, rfl, hCd, ew, ?_⟩
      have ed : ((cas1 ++ [ka]).map V.ref).dropLast = cas1.map V.ref := by rw [List.map_append]; simp
      rw [ed]
      have sH4 : Same H (upd H3 Cd (.lst (cas1.map V.ref))) := same_mut sH nCd0
      have tp4 : Tups H3 (upd H3 Cd (.lst (cas1.map V.ref))) := Tups.put hCd (fun _ z => nomatch z)
      have hMd4 : DK P w (upd H3 Cd (.lst (cas1.map V.ref))) Md met := hMd.tups (upd_ne nCM) tp4
      have hLd4 : DK P w (upd H3 Cd (.lst (cas1.map V.ref))) Ld lat := hLd.tups (upd_ne nLC) tp4
      have hC4 : (upd H3 Cd (.lst (cas1.map V.ref))) Cd = some (.lst (cas1.map V.ref)) := upd_same
      have prC4 : Paired (fun a p => KeyA (upd H3 Cd (.lst (cas1.map V.ref))) (kk p) a) cas1 cur1 := Paired.mapP prC1 fun _ _ z => z.tups tp4
      have hk1' := tp4 _ _ hk1
      have hk2' : SpotAt _ spa sp := tp4 _ _ hk2
      generalize upd H3 Cd (.lst (cas1.map V.ref)) = H4 at sH4 tp4 hMd4 hLd4 hC4 prC4 hk1' hk2'
      refine ⟨_, rfl, _, rfl, _, rfl, _, rfl, ka, _, _, .ref spa, rfl, rfl, SqT.of hk1', atI_nat (j := 1) rfl, m, M, wl, l, ws, ff, spa, sp, rfl, hMa.same sH4, hWs.same sH4, hk2', lsp, r80, by omega, fun H5 L as es5 s5 nL hL prS meS leS => ?_⟩
      have nLMd : L ≠ Md := fun z => by obtain ⟨_, _, h, _⟩ := hMd4; rw [z, h] at nL; cases nL
      have nLCd : L ≠ Cd := fun z => by rw [z, hC4] at nL; cases nL
      refine ⟨L, rfl, ⟨_, SqL.of hL⟩, ?_⟩
      have M0 : ∀ {met2 cur2 : List BS}, MkS M ws ff met2 cur2 lat → met2.length ≤ 1458 := fun h => reach_le FS w2 h.nm h.rm
      refine for_it walk_list (fun j σ H' => Same H H' ∧ Tups H5 H' ∧ H' L = some (.lst (as.map V.ref)) ∧ (∃ (met2 cur2 : List BS) (cas2 : List Addr), 2 * (1458 - met2.length) + cur2.length < 2 * (1458 - met.length) + (cur1 ++ [(c, sp)]).length ∧ DK P w H' Md met2 ∧ H' Cd = some (.lst (cas2.map V.ref)) ∧ Paired (fun a p => KeyA H' (kk p) a) cas2 cur2 ∧ DK P w H' Ld lat ∧
            MkS M ws ff met2 cur2 lat ∧ (∀ p ∈ met2, p ∈ cur2 ∨ p = (c, sp) ∨ ClP M ws ff met2 lat p) ∧ (∀ e ∈ es5.take j, (c, e) ∈ met2)) ∧
          ∃ x3 x8 x9 xa xb xc, σ = [some (.ref m), some (.ref l), some (.str ff), x3, some (.ref Md), some (.ref Cd), some (.ref Ld), some (.ref ka), x8, x9, xa, xb, xc])
        ⟨sH4.trans s5, Tups.refl _, hL, ⟨met, cur1, cas1, by rw [List.length_append, List.length_singleton]; omega, hMd4.same s5, s5 _ _ hC4, Paired.mapP prC4 fun _ _ z => z.tups (.of s5), hLd4.same s5, ⟨S0.rm, S0.rl, fun p hp => S0.cm p (List.mem_append_left _ hp), S0.nm, S0.nl, S0.st, by omega⟩, fun p hp => (inv p hp).elim (fun z => (List.mem_append.mp z).elim .inl fun y => .inr (.inl (List.mem_singleton.mp y))) fun z => .inr (.inr z), fun e he => nomatch he⟩, _, _, _, _, _, _, rfl⟩ (fun j σ H' _ h => SqL.of h.2.2.1) ?_ ?_
      · rintro j v σ H6 H7 hj ⟨s6, tp6, hL6, ⟨met2, cur2, cas2, mz, hMd6, hC6, prC6, hLd6, S6, inv6, done6⟩, x3, x8, x9, xa, xb, xc, rfl⟩ ⟨rfl, e1⟩
        obtain ⟨a0, ha0, rfl⟩ := map_ref e1
        obtain ⟨e, he, b0, ec, ns, q1, q2, q3⟩ := L2.paired_get prS ha0
        have hee := List.mem_of_getElem? he
        have hSide := (meS e).mp hee
        have hRe : Reach M ws ff c e := .side hRp hSide
        have hk6 := (Tups.of s5).trans tp6
        refine ⟨a0, _, rfl, SqT.of (tp6 _ _ q1), rfl, _, _, rfl, _, _, rfl, rfl, ?_⟩
        refine ⟨_, rfl, ka, _, _, _, rfl, rfl, SqT.of (hk6 _ _ hk1'), atI_nat (j := 0) rfl, _, rfl, by show 2 ≤ sizeLine; decide, fun nt nnt => ?_⟩
        have s7 := same_new (o := .tup [V.int (b2i c), V.ref ec]) nnt
        have kN : KeyA (upd H7 nt (.tup [V.int (b2i c), V.ref ec])) (kk (c, e)) nt := keyA_side (new_at nnt) (s7 _ _ (tp6 _ _ q3))
        obtain ⟨es6, ep6, hM6, ko6, ek6⟩ := id (hMd6.same s7)
        have hC7 := s7 _ _ hC6
        refine ⟨_, rfl, _, rfl, nt, Md, kk (c, e), es6, ep6, rfl, rfl, hM6, ko6, kN, _, rfl, ?_⟩
        rw [ek6]
        have l6 := M0 S6
        have les : es6.length = met2.length := by
          have z := congrArg List.length ek6
          rw [List.length_map, List.length_map] at z
          exact z
        have lcs := Paired.length prC6
        have lcm := S6.cl
        by_cases hin : (c, e) ∈ met2
        · rw [decide_eq_true (mem_kk.mpr hin)]
          refine iteF ⟨s6.trans s7, tp6.trans (.of s7), s7 _ _ hL6, ⟨met2, cur2, cas2, mz, hMd6.same s7, hC7, Paired.mapP prC6 fun _ _ z => z.tups (.of s7), hLd6.same s7, S6, inv6, fun e' he' => ?_⟩, _, _, _, _, _, _, rfl⟩
          rw [take_snoc he] at he'
          rcases List.mem_append.mp he' with z | z
          · exact done6 e' z
          · rw [List.mem_singleton.mp z]
            exact hin
        · rw [decide_eq_false (fun z => hin (mem_kk.mp z))]
          refine iteT ⟨_, rfl, _, rfl, by show 2 ≤ sizeLine; decide, fun it nit => ?_⟩
          have s8 := same_new (o := .tup [V.ref ka, V.ref b0]) nit
          have S7 := S6.meet (p := (c, e)) hRe hin
          have l7 := M0 S7
          rw [List.length_append, List.length_singleton] at l7
          refine ⟨_, rfl, _, rfl, Md, nt, kk (c, e), es6, ep6, rfl, rfl, s8 _ _ hM6, ko6.tups (.of s8), kN.tups (.of s8), by rw [ek6]; exact fun z => hin (mem_kk.mp z), by omega, fun ep7 => ?_⟩
          have tp9 := (Tups.of s8).trans (Tups.put (s8 _ _ hM6) (u := DX P w Md (es6 ++ [(kk (c, e), nt, V.ref it)]) ep7) (fun _ z => nomatch z))
          have hC9 := up_ne (u := DX P w Md (es6 ++ [(kk (c, e), nt, V.ref it)]) ep7) (s8 _ _ hC7) (Ne.symm nCM)
          refine ⟨_, rfl, .inl ⟨rfl, _, SqL.of hC9⟩, _, rfl, Cd, _, _, rfl, rfl, hC9, by rw [List.length_map]; omega, ?_⟩
          have tpA := tp9.trans (Tups.put hC9 (u := .lst (cas2.map V.ref ++ [V.ref nt])) (fun _ z => nomatch z))
          have tpB := (Tups.of s7).trans tpA
          refine ⟨same_mut (same_mut ((s6.trans s7).trans s8) nMd0) nCd0, tp6.trans tpB, up_ne (up_ne ((s7.trans s8) _ _ hL6) nLMd) nLCd, ⟨met2 ++ [(c, e)], cur2 ++ [(c, e)], cas2 ++ [nt], ?_, ⟨_, ep7, up_ne upd_same nCM, (ko6.tups tpA).snoc (kN.tups tpA), by rw [List.map_append, List.map_append, ek6]; rfl⟩, by rw [upd_same, List.map_append]; rfl, Paired.snoc (Paired.mapP prC6 fun _ _ z => z.tups tpB) (kN.tups tpA), (hLd6.same (s7.trans s8)).tups (by rw [upd_ne nLC, upd_ne nLM]) ((Tups.put (s8 _ _ hM6) (fun _ z => nomatch z)).trans (Tups.put hC9 (fun _ z => nomatch z))), S7, fun p hp => ?_, fun e' he' => ?_⟩, _, _, _, _, _, _, rfl⟩
          · rw [List.length_append, List.length_singleton, List.length_append, List.length_singleton]
            omega
          · rcases List.mem_append.mp hp with z | z
            · rcases inv6 p z with y | y | y
              · exact .inl (List.mem_append_left _ y)
              · exact .inr (.inl y)
              · exact .inr (.inr (y.mono (fun x hx => List.mem_append_left _ hx) fun x hx => .inr hx))
            · exact .inl (List.mem_append_right _ z)
          · rw [take_snoc he] at he'
            rcases List.mem_append.mp he' with z | z
            · exact List.mem_append_left _ (done6 e' z)
            · rw [List.mem_singleton.mp z]
              simp
      rintro σ H6 ⟨s6, tp6, hL6, ⟨met2, cur2, cas2, mz, hMd6, hC6, prC6, hLd6, S6, inv6, done6⟩, x3, x8, x9, xa, xb, xc, rfl⟩
      have elS : (as.map V.ref).length = es5.length := by rw [List.length_map]; exact Paired.length prS
      rw [elS, List.take_length] at done6
      have hk1'' := tp6 _ _ ((Tups.of s5) _ _ hk1')
      have hk2'' : SpotAt H6 spa sp := tp6 _ _ ((Tups.of s5) _ _ hk2')
      refine ⟨_, rfl, _, rfl, _, rfl, _, rfl, ka, _, _, .ref spa, rfl, rfl, SqT.of hk1'', atI_nat (j := 1) rfl, m, M, wl, l, ws, ff, spa, sp, rfl, hMa.same s6, hWs.same s6, hk2'', lsp, r80, FS.few, w2, fun H7 L2' as7 mv s7 nL7 hL7 prM meM leM => ?_⟩
      have nL7M : L2' ≠ Md := fun z => by obtain ⟨_, _, h, _⟩ := hMd6; rw [z, h] at nL7; cases nL7
      have nL7L : L2' ≠ Ld := fun z => by obtain ⟨_, _, h, _⟩ := hLd6; rw [z, h] at nL7; cases nL7
      refine ⟨L2', rfl, ⟨_, SqL.of hL7⟩, ?_⟩
      refine for_it walk_list (fun j σ H' => Same H H' ∧ Tups H7 H' ∧ H' L2' = some (.lst (as7.map V.ref)) ∧ (∃ lat2 : List BS, DK P w H' Md met2 ∧ H' Cd = some (.lst (cas2.map V.ref)) ∧ DK P w H' Ld lat2 ∧ MkS M ws ff met2 cur2 lat2 ∧ (∀ p ∈ lat, p ∈ lat2) ∧
            (∀ ne ∈ mv.take j, ∀ r, M.rows[ne.1]? = some r → ((c || decide (M.fault r.2.1 = some ff), ne.2) : BS) ∈ met2 ∨ ((c || decide (M.fault r.2.1 = some ff), ne.2) : BS) ∈ lat2)) ∧
          ∃ x3 x8 x9 xa xb xc, σ = [some (.ref m), some (.ref l), some (.str ff), x3, some (.ref Md), some (.ref Cd), some (.ref Ld), some (.ref ka), x8, x9, xa, xb, xc])
        ⟨s6.trans s7, Tups.refl _, hL7, ⟨lat, hMd6.same s7, s7 _ _ hC6, hLd6.same s7, S6, fun p hp => hp, fun ne h => nomatch h⟩, _, _, _, _, _, _, rfl⟩ (fun j σ H' _ h => SqL.of h.2.2.1) ?_ ?_
      · rintro j v σ H8 H9 hj ⟨s8, tp8, hL8, ⟨lat2, hMd8, hC8, hLd8, S8, lsub, done8⟩, x3, x8, x9, xa, xb, xc, rfl⟩ ⟨rfl, e1⟩
        obtain ⟨a0, ha0, rfl⟩ := map_ref e1
        obtain ⟨⟨n, e⟩, he, b0, ec, ns, q1, q2, q3, _⟩ := L2.paired_get prM ha0
        have hMN := (meM n e).mp (List.mem_of_getElem? he)
        obtain ⟨r, ys, es, hr0, esp, haa, ee⟩ := id hMN
        have hMain : Main M ws ff (decide (M.fault r.2.1 = some ff)) sp e := main_iff.mpr ⟨n, r, hMN, hr0, rfl⟩
        have hRe := Reach.main hRp hMain
        have hk8 := (Tups.of s7).trans tp8
        refine ⟨a0, _, rfl, SqT.of (tp8 _ _ q1), rfl, _, _, rfl, _, _, rfl, rfl, ?_⟩
        refine ⟨_, rfl, ka, _, _, _, rfl, rfl, SqT.of (hk8 _ _ hk1''), atI_nat (j := 0) rfl, ?_⟩
        refine ⟨_, rfl, _, rfl, b0, _, _, _, rfl, rfl, SqT.of (tp8 _ _ q2), atI_nat (j := 0) rfl, _, rfl, m, M, wl, n, ff, r, rfl, hMa.same s8, hr0, _, rfl, ?_⟩
        obtain ⟨c2, hc2⟩ : ∃ c2, c2 = (c || decide (M.fault r.2.1 = some ff)) := ⟨_, rfl⟩
        rw [← hc2] at hRe
        have ext : ∀ {lat3 : List BS}, ((c2, e) ∈ met2 ∨ (c2, e) ∈ lat3) → (∀ x ∈ lat2, x ∈ lat3) → ∀ ne ∈ mv.take (j + 1), ∀ r, M.rows[ne.1]? = some r → ((c || decide (M.fault r.2.1 = some ff), ne.2) : BS) ∈ met2 ∨ ((c || decide (M.fault r.2.1 = some ff), ne.2) : BS) ∈ lat3 := fun h1 h2 ne hne r' hr' => by
          rw [take_snoc he] at hne
          rcases List.mem_append.mp hne with z | z
          · exact (done8 ne z r' hr').imp id (h2 _)
          · rw [List.mem_singleton.mp z] at hr' ⊢
            rw [hr0] at hr'
            cases hr'
            rw [← hc2]
            exact h1
        by_cases hf : M.fault r.2.1 = some ff
        · have eB : b2i c2 = 1 := by rw [hc2, decide_eq_true hf]; cases c <;> rfl
          rw [decide_eq_true hf]
          refine iteT ?_
          refine ⟨_, rfl, _, rfl, by show 2 ≤ sizeLine; decide, fun t1 nt1 => ?_⟩
          have sA := same_new (o := .tup [V.int (1), V.ref ec]) nt1
          have kA := key_new (c := c2) (e := e) nt1 (tp8 _ _ q3) eB
          obtain ⟨esA, epA, hMA, koA, ekA⟩ := id (hMd8.same sA)
          refine ⟨_, rfl, t1, Md, kk (c2, e), esA, epA, rfl, rfl, hMA, koA, kA, _, rfl, ?_⟩
          rw [ekA]
          by_cases hin : (c2, e) ∈ met2
          · rw [decide_eq_true (mem_kk.mpr hin)]
            exact iteF (iteF ⟨s8.trans sA, tp8.trans (.of sA), sA _ _ hL8, ⟨lat2, hMd8.same sA, sA _ _ hC8, hLd8.same sA, S8, lsub, ext (.inl hin) (fun x hx => hx)⟩, _, _, _, _, _, _, rfl⟩)
          · rw [decide_eq_false (fun z => hin (mem_kk.mp z))]
            refine iteT ⟨_, rfl, _, rfl, by show 2 ≤ sizeLine; decide, fun t2 nt2 => ?_⟩
            have sB := same_new (o := .tup [V.int (1), V.ref ec]) nt2
            have sAB := sA.trans sB
            have kB := key_new (c := c2) (e := e) nt2 (sA _ _ (tp8 _ _ q3)) eB
            obtain ⟨esB, epB, hLB, koB, ekB⟩ := id (hLd8.same sAB)
            refine ⟨_, rfl, t2, Ld, kk (c2, e), esB, epB, rfl, rfl, hLB, koB, kB, _, rfl, ?_⟩
            rw [ekB]
            by_cases hin2 : (c2, e) ∈ lat2
            · rw [decide_eq_true (mem_kk.mpr hin2)]
              exact iteF ⟨s8.trans sAB, tp8.trans (.of sAB), sAB _ _ hL8, ⟨lat2, hMd8.same sAB, sAB _ _ hC8, hLd8.same sAB, S8, lsub, ext (.inr hin2) (fun x hx => hx)⟩, _, _, _, _, _, _, rfl⟩
            · rw [decide_eq_false (fun z => hin2 (mem_kk.mp z))]
              refine iteT ⟨_, rfl, _, rfl, by show 2 ≤ sizeLine; decide, fun it nit => ⟨_, rfl, _, rfl, _, rfl, by show 2 ≤ sizeLine; decide, fun t3 nt3 => ?_⟩⟩
              have sC := same_new (o := .tup [V.ref ka, V.ref b0]) nit
              have sD := same_new (o := .tup [V.int (1), V.ref ec]) nt3
              have sAD := (sAB.trans sC).trans sD
              have kD := key_new (c := c2) (e := e) nt3 ((sAB.trans sC) _ _ (tp8 _ _ q3)) eB
              have S9 := S8.late (p := (c2, e)) hRe hin2
              have l9 := reach_le FS w2 S9.nl S9.rl
              rw [List.length_append, List.length_singleton] at l9
              have lesB : esB.length = lat2.length := by
                have z := congrArg List.length ekB
                rw [List.length_map, List.length_map] at z
                exact z
              have hLD := (sC.trans sD) _ _ hLB
              refine ⟨Ld, t3, kk (c2, e), esB, epB, rfl, rfl, hLD, koB.tups (.of (sC.trans sD)), kD, by rw [ekB]; exact fun z => hin2 (mem_kk.mp z), by omega, fun ep9 => ?_⟩
              have tpE := Tups.put hLD (u := DX P w Ld (esB ++ [(kk (c2, e), t3, V.ref it)]) ep9) (fun _ z => nomatch z)
              have tpF := (Tups.of sAD).trans tpE
              refine ⟨same_mut (s8.trans sAD) nLd, tp8.trans tpF, up_ne (sAD _ _ hL8) nL7L, ⟨lat2 ++ [(c2, e)], (hMd8.same sAD).tups (upd_ne (Ne.symm nLM)) tpE, up_ne (sAD _ _ hC8) (Ne.symm nLC), ⟨_, ep9, upd_same, (koB.tups ((Tups.of (sC.trans sD)).trans tpE)).snoc (kD.tups tpE), by rw [List.map_append, List.map_append, ekB]; rfl⟩, S9, fun p hp => List.mem_append_left _ (lsub p hp), ext (.inr (by simp)) (fun x hx => List.mem_append_left _ hx)⟩, _, _, _, _, _, _, rfl⟩
        · have eB : b2i c2 = b2i c := by rw [hc2, decide_eq_false hf, Bool.or_false]
          rw [decide_eq_false hf]
          refine iteF ?_
          refine ⟨_, rfl, _, rfl, by show 2 ≤ sizeLine; decide, fun t1 nt1 => ?_⟩
          have sA := same_new (o := .tup [V.int (b2i c), V.ref ec]) nt1
          have kA := key_new (c := c2) (e := e) nt1 (tp8 _ _ q3) eB
          obtain ⟨esA, epA, hMA, koA, ekA⟩ := id (hMd8.same sA)
          refine ⟨_, rfl, t1, Md, kk (c2, e), esA, epA, rfl, rfl, hMA, koA, kA, _, rfl, ?_⟩
          rw [ekA]
          by_cases hin : (c2, e) ∈ met2
          · rw [decide_eq_true (mem_kk.mpr hin)]
            exact iteF (iteF ⟨s8.trans sA, tp8.trans (.of sA), sA _ _ hL8, ⟨lat2, hMd8.same sA, sA _ _ hC8, hLd8.same sA, S8, lsub, ext (.inl hin) (fun x hx => hx)⟩, _, _, _, _, _, _, rfl⟩)
          · rw [decide_eq_false (fun z => hin (mem_kk.mp z))]
            refine iteT ⟨_, rfl, _, rfl, by show 2 ≤ sizeLine; decide, fun t2 nt2 => ?_⟩
            have sB := same_new (o := .tup [V.int (b2i c), V.ref ec]) nt2
            have sAB := sA.trans sB
            have kB := key_new (c := c2) (e := e) nt2 (sA _ _ (tp8 _ _ q3)) eB
            obtain ⟨esB, epB, hLB, koB, ekB⟩ := id (hLd8.same sAB)
            refine ⟨_, rfl, t2, Ld, kk (c2, e), esB, epB, rfl, rfl, hLB, koB, kB, _, rfl, ?_⟩
            rw [ekB]
            by_cases hin2 : (c2, e) ∈ lat2
            · rw [decide_eq_true (mem_kk.mpr hin2)]
              exact iteF ⟨s8.trans sAB, tp8.trans (.of sAB), sAB _ _ hL8, ⟨lat2, hMd8.same sAB, sAB _ _ hC8, hLd8.same sAB, S8, lsub, ext (.inr hin2) (fun x hx => hx)⟩, _, _, _, _, _, _, rfl⟩
            · rw [decide_eq_false (fun z => hin2 (mem_kk.mp z))]
              refine iteT ⟨_, rfl, _, rfl, by show 2 ≤ sizeLine; decide, fun it nit => ⟨_, rfl, _, rfl, _, rfl, by show 2 ≤ sizeLine; decide, fun t3 nt3 => ?_⟩⟩
              have sC := same_new (o := .tup [V.ref ka, V.ref b0]) nit
              have sD := same_new (o := .tup [V.int (b2i c), V.ref ec]) nt3
              have sAD := (sAB.trans sC).trans sD
              have kD := key_new (c := c2) (e := e) nt3 ((sAB.trans sC) _ _ (tp8 _ _ q3)) eB
              have S9 := S8.late (p := (c2, e)) hRe hin2
              have l9 := reach_le FS w2 S9.nl S9.rl
              rw [List.length_append, List.length_singleton] at l9
              have lesB : esB.length = lat2.length := by
                have z := congrArg List.length ekB
                rw [List.length_map, List.length_map] at z
                exact z
              have hLD := (sC.trans sD) _ _ hLB
              refine ⟨Ld, t3, kk (c2, e), esB, epB, rfl, rfl, hLD, koB.tups (.of (sC.trans sD)), kD, by rw [ekB]; exact fun z => hin2 (mem_kk.mp z), by omega, fun ep9 => ?_⟩
              have tpE := Tups.put hLD (u := DX P w Ld (esB ++ [(kk (c2, e), t3, V.ref it)]) ep9) (fun _ z => nomatch z)
              have tpF := (Tups.of sAD).trans tpE
              refine ⟨same_mut (s8.trans sAD) nLd, tp8.trans tpF, up_ne (sAD _ _ hL8) nL7L, ⟨lat2 ++ [(c2, e)], (hMd8.same sAD).tups (upd_ne (Ne.symm nLM)) tpE, up_ne (sAD _ _ hC8) (Ne.symm nLC), ⟨_, ep9, upd_same, (koB.tups ((Tups.of (sC.trans sD)).trans tpE)).snoc (kD.tups tpE), by rw [List.map_append, List.map_append, ekB]; rfl⟩, S9, fun p hp => List.mem_append_left _ (lsub p hp), ext (.inr (by simp)) (fun x hx => List.mem_append_left _ hx)⟩, _, _, _, _, _, _, rfl⟩
      rintro σ H8 ⟨s8, tp8, _, ⟨lat2, hMd8, hC8, hLd8, S8, lsub, done8⟩, x3, x8, x9, xa, xb, xc, rfl⟩
      have elM : (as7.map V.ref).length = mv.length := by rw [List.length_map]; exact Paired.length prM
      rw [elM, List.take_length] at done8
      have tp68 := (Tups.of s7).trans tp8
      have prC8 : Paired (fun a p => KeyA H8 (kk p) a) cas2 cur2 := Paired.mapP prC6 fun _ _ z => z.tups tp68
      have clp : ClP M ws ff met2 lat2 (c, sp) := ⟨fun e hs => done6 e ((meS e).mpr hs), fun b e hm => by
        obtain ⟨n, r, h1, h2, rfl⟩ := main_iff.mp hm
        exact done8 (n, e) ((meM n e).mpr h1) r h2⟩
      have inv8 : ∀ p ∈ met2, p ∈ cur2 ∨ ClP M ws ff met2 lat2 p := fun p hp => by
        rcases inv6 p hp with z | z | z
        · exact .inl z
        · rw [z]
          exact .inr clp
        · exact .inr (z.mono (fun x hx => hx) fun x hx => .inr (lsub x hx))
      have lcs2 := Paired.length prC8
      refine ⟨_, rfl, !(cas2.map V.ref).isEmpty, .inl ⟨_, SqL.of hC8, rfl⟩, ?_⟩
      rcases List.eq_nil_or_concat cur2 with rfl | ⟨cur3, p3, rfl⟩
      · have ec : cas2 = [] := List.length_eq_zero_iff.mp lcs2
        subst ec
        refine iteT ?_
        obtain ⟨ls, epl, hL8', koL, ekL⟩ := id hLd8
        refine ⟨_, rfl, Ld, ls, epl, rfl, hL8', ?_⟩
        have lls : ls.length = lat2.length := by
          have z := congrArg List.length ekL
          rw [List.length_map, List.length_map] at z
          exact z
        refine for_it walk_dxi (fun i σ H' => Same H H' ∧ Tups H8 H' ∧ H' Ld = some (DX P w Ld ls epl) ∧ (∃ (met3 cur3 : List BS) (cas3 : List Addr), 2 * (1458 - met3.length) + cur3.length < 2 * (1458 - met.length) + (cur1 ++ [(c, sp)]).length ∧ DK P w H' Md met3 ∧ H' Cd = some (.lst (cas3.map V.ref)) ∧ Paired (fun a p => KeyA H' (kk p) a) cas3 cur3 ∧
              MkS M ws ff met3 cur3 lat2 ∧ (∀ x ∈ met2, x ∈ met3) ∧ (∀ x ∈ met3, x ∈ cur3 ∨ x ∈ met2) ∧ (∀ x ∈ lat2.take i, x ∈ met3)) ∧
            ∃ x3 x8 x9 xa xb xc, σ = [some (.ref m), some (.ref l), some (.str ff), x3, some (.ref Md), some (.ref Cd), some (.ref Ld), some (.ref ka), x8, x9, xa, xb, xc])
          ⟨s8, Tups.refl _, hL8', ⟨met2, [], [], mz, hMd8, hC8, .nil, S8, fun x hx => hx, fun x hx => .inr hx, fun x hx => nomatch hx⟩, _, _, _, _, _, _, rfl⟩ (fun i σ H' _ h => h.2.2.1) ?_ ?_
        · rintro i v σ H9 HA hi ⟨s9, tp9, hL9, ⟨met3, cur3, cas3, mz3, hMd9, hC9, prC9, S9, sub3, new3, done3⟩, x3, x8, x9, xa, xb, xc, rfl⟩ ⟨Tp, k9, a9, v9, e9, rfl, nTp, rfl⟩
          have hkk : ∃ p9, lat2[i]? = some p9 ∧ k9 = kk p9 := by
            have z := congrArg (fun l : List NestedKey => l[i]?) ekL
            simp only [List.getElem?_map, e9, Option.map_some] at z
            cases e : lat2[i]? with
            | none => rw [e] at z; exact nomatch (show some k9 = none from z)
            | some p9 => rw [e] at z; exact ⟨p9, rfl, Option.some.inj (show some k9 = some (kk p9) from z)⟩
          obtain ⟨p9, hp9, rfl⟩ := hkk
          have kA9 : KeyA H9 (kk p9) a9 := (koL _ (List.mem_of_getElem? e9)).tups tp9
          have sT := same_new (o := .tup [V.ref a9, v9]) nTp
          have hTp := new_at nTp (o := .tup [V.ref a9, v9])
          have hMdA := hMd9.same sT
          obtain ⟨esB, epB, hMB, koB, ekB⟩ := id hMdA
          have tpT := Tups.of sT
          have hCA := sT _ _ hC9
          refine ⟨Tp, _, rfl, SqT.of hTp, rfl, _, _, rfl, _, _, rfl, rfl, ?_⟩
          refine ⟨_, rfl, _, rfl, a9, Md, kk p9, esB, epB, rfl, rfl, hMB, koB, kA9.tups tpT, _, rfl, ?_⟩
          rw [ekB]
          have l9 := reach_le FS w2 S9.nm S9.rm
          have lesB : esB.length = met3.length := by
            have z := congrArg List.length ekB
            rw [List.length_map, List.length_map] at z
            exact z
          have lcs3 := Paired.length prC9
          have lcm3 := S9.cl
          by_cases hin : p9 ∈ met3
          · rw [decide_eq_true (mem_kk.mpr hin)]
            refine iteF ⟨s9.trans sT, tp9.trans tpT, sT _ _ hL9, ⟨met3, cur3, cas3, mz3, hMdA, hCA, Paired.mapP prC9 fun _ _ z => z.tups tpT, S9, sub3, new3, fun x hx => ?_⟩, _, _, _, _, _, _, rfl⟩
            rw [take_snoc hp9] at hx
            rcases List.mem_append.mp hx with z | z
            · exact done3 x z
            · rw [List.mem_singleton.mp z]
              exact hin
          · rw [decide_eq_false (fun z => hin (mem_kk.mp z))]
            have SA := S9.meet (p := p9) (S8.rl p9 (List.mem_of_getElem? hp9)) hin
            have lA := reach_le FS w2 SA.nm SA.rm
            rw [List.length_append, List.length_singleton] at lA
            refine iteT ⟨_, rfl, _, rfl, _, rfl, Md, a9, kk p9, esB, epB, rfl, rfl, hMB, koB, kA9.tups tpT, by rw [ekB]; exact fun z => hin (mem_kk.mp z), by omega, fun epC => ?_⟩
            have tpC := Tups.put hMB (u := DX P w Md (esB ++ [(kk p9, a9, v9)]) epC) (fun _ z => nomatch z)
            have hCC := up_ne (u := DX P w Md (esB ++ [(kk p9, a9, v9)]) epC) hCA (Ne.symm nCM)
            refine ⟨_, rfl, .inl ⟨rfl, _, SqL.of hCC⟩, _, rfl, Cd, _, _, rfl, rfl, hCC, by rw [List.length_map]; omega, ?_⟩
            have tpD := tpC.trans (Tups.put hCC (u := .lst (cas3.map V.ref ++ [V.ref a9])) (fun _ z => nomatch z))
            have tpE := tpT.trans tpD
            refine ⟨same_mut (same_mut (s9.trans sT) nMd0) nCd0, tp9.trans tpE, up_ne (up_ne (sT _ _ hL9) nLM) nLC, ⟨met3 ++ [p9], cur3 ++ [p9], cas3 ++ [a9], ?_, ⟨_, epC, up_ne upd_same nCM, (koB.tups tpD).snoc (kA9.tups tpE), by rw [List.map_append, List.map_append, ekB]; rfl⟩, by rw [upd_same, List.map_append]; rfl, Paired.snoc (Paired.mapP prC9 fun _ _ z => z.tups tpE) (kA9.tups tpE), SA, fun x hx => List.mem_append_left _ (sub3 x hx), fun x hx => ?_, fun x hx => ?_⟩, _, _, _, _, _, _, rfl⟩
            · rw [List.length_append, List.length_singleton, List.length_append, List.length_singleton]
              omega
            · rcases List.mem_append.mp hx with z | z
              · exact (new3 x z).imp (List.mem_append_left _) id
              · exact .inl (List.mem_append_right _ z)
            · rw [take_snoc hp9] at hx
              rcases List.mem_append.mp hx with z | z
              · exact List.mem_append_left _ (done3 x z)
              · exact List.mem_append_right _ z
        rintro σ H9 ⟨s9, tp9, hL9, ⟨met3, cur3, cas3, mz3, hMd9, hC9, prC9, S9, sub3, new3, done3⟩, x3, x8, x9, xa, xb, xc, rfl⟩
        rw [lls, List.take_length] at done3
        intro Ln epn nLn
        have sN : Same H9 (upd H9 Ln (DX P w Ln [] epn)) := same_new nLn
        have nLnM : Ln ≠ Md := fun z => by obtain ⟨_, _, h, _⟩ := hMd9; rw [z, h] at nLn; cases nLn
        have nLnC : Ln ≠ Cd := fun z => by rw [z, hC9] at nLn; cases nLn
        have hLn : DK P w (upd H9 Ln (DX P w Ln [] epn)) Ln [] := ⟨[], epn, upd_same, KO.nil, rfl⟩
        have SN : MkS M ws ff met3 cur3 [] := ⟨S9.rm, (fun p hp => nomatch hp), S9.cm, S9.nm, List.nodup_nil, S9.st, S9.cl⟩
        have invN : ∀ p ∈ met3, p ∈ cur3 ∨ ClP M ws ff met3 [] p := fun p hp => by
          rcases new3 p hp with z | z
          · exact .inl z
          · rcases inv8 p z with y | y
            · exact nomatch y
            · exact .inr (y.mono sub3 fun x hx => .inl (done3 x hx))
        obtain ⟨esX, epX, hX, koX, ekX⟩ := id (hMd9.same sN)
        obtain ⟨esY, epY, hY, koY, ekY⟩ := id (hLn)
        have lX : esX.length ≤ 1458 := by
          have z := congrArg List.length ekX
          rw [List.length_map, List.length_map] at z
          have := reach_le FS w2 (SN).nm (SN).rm
          omega
        have lY : esY.length ≤ 1458 := by
          have z := congrArg List.length ekY
          rw [List.length_map, List.length_map] at z
          have := reach_le FS w2 (SN).nl (SN).rl
          omega
        refine ⟨_, rfl, Md, esX, epX, rfl, hX, koX, _, _, rfl, rfl, _, rfl, ?_⟩
        rw [decide_eq_false (show ¬ (5000 : Int) < ((esX.length : Nat) : Int) by omega)]
        refine iteF ⟨_, rfl, Ln, esY, epY, rfl, hY, koY, _, _, rfl, rfl, _, rfl, ?_⟩
        rw [decide_eq_false (show ¬ (5000 : Int) < ((esY.length : Nat) : Int) by omega)]
        refine iteF ⟨_, mz3, met3, cur3, [], Ln, cas3, rfl, s9.trans sN, hMd9.same sN, sN _ _ hC9, Paired.mapP prC9 fun _ _ z => z.tups (.of sN), hLn, s9.free nLn, nLnM, nLnC, SN, invN, fun _ => rfl, _, _, _, _, _, _, _, rfl⟩
      · have e2 : (!(cas2.map V.ref).isEmpty) = true := by
          cases cas2 with
          | nil => simp at lcs2
          | cons _ _ => rfl
        rw [e2]
        refine iteF ?_
        have ne : ∀ x : Prop, (cur3.concat p3 = [] → x) := fun x z => by simp at z
        obtain ⟨esX, epX, hX, koX, ekX⟩ := id (hMd8)
        obtain ⟨esY, epY, hY, koY, ekY⟩ := id (hLd8)
        have lX : esX.length ≤ 1458 := by
          have z := congrArg List.length ekX
          rw [List.length_map, List.length_map] at z
          have := reach_le FS w2 (S8).nm (S8).rm
          omega
        have lY : esY.length ≤ 1458 := by
          have z := congrArg List.length ekY
          rw [List.length_map, List.length_map] at z
          have := reach_le FS w2 (S8).nl (S8).rl
          omega
        refine ⟨_, rfl, Md, esX, epX, rfl, hX, koX, _, _, rfl, rfl, _, rfl, ?_⟩
        rw [decide_eq_false (show ¬ (5000 : Int) < ((esX.length : Nat) : Int) by omega)]
        refine iteF ⟨_, rfl, Ld, esY, epY, rfl, hY, koY, _, _, rfl, rfl, _, rfl, ?_⟩
        rw [decide_eq_false (show ¬ (5000 : Int) < ((esY.length : Nat) : Int) by omega)]
        refine iteF ⟨_, mz, met2, cur3.concat p3, lat2, Ld, cas2, rfl, s8, hMd8, hC8, prC8, hLd8, nLd, nLM, nLC, S8, inv8, ne _, _, _, _, _, _, _, _, rfl⟩
end
end Kn

end
section
set_option maxHeartbeats 4000000
/-! met_tuples, behind_moves. -/
namespace Kn
open PySem PySem.Spec PyProof.Rows L2
theorem pg_tupK {X : Cx} {K : PySem.W.Frag} {es : List Expr} {k : Nat} {pos : Pos} {t : TGs} {n : Nat} (hc : X.calm = true) (h : PGs X es t)
    (hn : (assignEach es X.env).length = n := by rfl) (hst : (assignEach es X.env).findIdx? (·.1) = none := by rfl) (hK : X.K = K := by rfl) : PG X (.Tuple es k pos) (gTup K n t) := hK ▸ pg_tup hc h hn hst
theorem sc_BehindMoves : FnScope ["machine", "rows", "fault", "behind", "table", "spot", "moves", "numbers", "end"] ["machine", "rows", "fault", "behind"] (defScope sBehindMoves) := ⟨rfl, rfl, rfl, by decide +kernel, rfl, by decide +kernel, by decide +kernel⟩
/-- the dict at d has the spots l as its keys -/
def SK (P : Program) (w : World) (H : Hp) (d : Addr) (l : List (List Int)) : Prop := ∃ es ep, H d = some (DX P w d es ep) ∧ KO H es ∧ es.map (·.1) = l.map spk
def sideL (b : Bool) (l : List BS) : List (List Int) := (l.filter fun p => p.1 == b).map (·.2)
theorem mem_sideL {b : Bool} {l : List BS} {sp : List Int} : sp ∈ sideL b l ↔ (b, sp) ∈ l := by
  unfold sideL
  rw [List.mem_map]
  constructor
  · rintro ⟨⟨b', s'⟩, h, rfl⟩
    rw [List.mem_filter] at h
    have e : b' = b := eq_of_beq h.2
    subst e
    exact h.1
  · intro h
    exact ⟨(b, sp), List.mem_filter.mpr ⟨h, beq_self_eq_true b⟩, rfl⟩
theorem sideL_snoc {b : Bool} {l : List BS} {p : BS} : sideL b (l ++ [p]) = sideL b l ++ (if p.1 = b then [p.2] else []) := by
  unfold sideL
  rw [List.filter_append, List.map_append, List.filter_cons]
  by_cases e : p.1 = b
  · rw [if_pos e, if_pos (by rw [e]; exact beq_self_eq_true b)]
    rfl
  · rw [if_neg e, if_neg (by simpa using e)]
    rfl
theorem sideL_nodup {b : Bool} {l : List BS} (h : l.Nodup) : (sideL b l).Nodup := by
  unfold sideL
  refine nodup_map (h.filter _) fun x hx y hy e => ?_
  rw [List.mem_filter] at hx hy
  have e1 : x.1 = b := eq_of_beq hx.2
  have e2 : y.1 = b := eq_of_beq hy.2
  exact Prod.ext (e1.trans e2.symm) e
theorem mem_spk {l : List (List Int)} {p : List Int} : spk p ∈ l.map spk ↔ p ∈ l := by
  rw [List.mem_map]
  exact ⟨fun ⟨x, hx, e⟩ => spk_inj e ▸ hx, fun h => ⟨p, h, rfl⟩⟩
section
variable {P : Program} {w : World} {K : PySem.W.Frag} {mg : Str → Option Value} {base : Heap} {C CW : Addr}
theorem SK.same {H H' : Hp} {d : Addr} {l : List (List Int)} (h : SK P w H d l) (s : Same H H') : SK P w H' d l := let ⟨es, ep, h1, h2, h3⟩ := h; ⟨es, ep, s _ _ h1, h2.tups (.of s), h3⟩
theorem SK.tups {H H' : Hp} {d : Addr} {l : List (List Int)} (h : SK P w H d l) (e : H' d = H d) (s : Tups H H') : SK P w H' d l := let ⟨es, ep, h1, h2, h3⟩ := h; ⟨es, ep, e.trans h1, h2.tups s, h3⟩
def spMetTuples (P : Program) (w : World) (C CW : Addr) : Sp := fun vs H Q _ => ∃ m M wl l ws f S, vs = [.ref m, .ref l, .str f] ∧ MachAt C H m M wl ∧ WsAt CW H l ws ∧ M.rows.length ≤ 80 ∧ ws.length ≤ 2 ∧ Sts M S ∧
  ∀ (H' : Hp) (t da db : Addr) (met : List BS), Same H H' → H' t = some (.tup [.ref da, .ref db]) → SK P w H' da (sideL false met) → SK P w H' db (sideL true met) → met.Nodup → (∀ p, p ∈ met ↔ Reach M ws f p.1 p.2) → met.length ≤ 1458 → Q (.ref t) H'
theorem ok_MetTuples {f : Addr} {fd : FuncData} (F : FnP K "met_tuples" "met_tuples" sMetTuples [] f fd) (T : Tx K mg) (C_met_keys : Cal P w K mg base 4 "met_keys" ["machine", "rows", "fault"] (spMetKeys P w C CW)) : FnOk P w K mg base CX0 5 f fd ["machine", "rows", "fault"] (spMetTuples P w C CW) := by
  refine mk_fn F sc_MetTuples (fun vs H Q E h => ?_) (fun cdv A outer s H vs Q E hr h => ?_)
  · obtain ⟨m, M, wl, l, ws, f, S, rfl, _⟩ := h
    rfl
  · obtain ⟨m, M, wl, l, ws, ff, S, rfl, hMa, hWs, r80, w2, FS, q⟩ := h
    have sl : (1000000 : Nat) < sizeLine := by decide
    refine ⟨_, (pss_cons (ps_set (i := 3) sc_MetTuples.nd rfl (Or.inl rfl) (pe_dx0))
        (pss_cons (ps_set (i := 4) sc_MetTuples.nd rfl (Or.inl rfl) (pe_dx0))
        (pss_cons (ps_for PassesOwn.never rfl (pi_dxi (pc C_met_keys hr (pa_cons (pv 0) (pa_cons (pv 1) (pa_cons (pv 2) pa_nil))))) (pg_tup (n := 2) rfl (pgs_cons (pg_name (i := 5) sc_MetTuples.nd rfl (Or.inl rfl)) (pgs_cons (pg_name (i := 6) sc_MetTuples.nd rfl (Or.inl rfl)) pgs_nil)))
        (pss_one (ps_if (pt_cmpR op_eq (pe_ix ix_tup (pv 5) pe_int (fun _ _ => rfl)) (pgi T.AHEAD) (nomark _)) (pss_one (ps_asg (pv 6) (pg_sub (pv 3) (pe_ix ix_tup (pv 5) pe_int (fun _ _ => rfl)) (set_dx hr)))) (pss_one (ps_asg (pv 6) (pg_sub (pv 4) (pe_ix ix_tup (pv 5) pe_int (fun _ _ => rfl)) (set_dx hr)))))))
        (pss_one (ps_ret (pe_tup (pa_cons (pv 3) (pa_cons (pv 4) pa_nil)))))))), ?_⟩
    intro da epa nda
    have s1 : Same H (upd H da (DX P w da [] epa)) := same_new nda
    intro db epb ndb
    have s2 : Same _ (upd (upd H da (DX P w da [] epa)) db (DX P w db [] epb)) := same_new ndb
    have nab : da ≠ db := ne_new (upd_same (H := H) (o := DX P w da [] epa)) ndb
    have sH2 := s1.trans s2
    have hda2 : SK P w (upd (upd H da (DX P w da [] epa)) db (DX P w db [] epb)) da [] := ⟨[], epa, s2 _ _ upd_same, KO.nil, rfl⟩
    have hdb2 : SK P w (upd (upd H da (DX P w da [] epa)) db (DX P w db [] epb)) db [] := ⟨[], epb, upd_same, KO.nil, rfl⟩
    have ndb0 : H db = none := s1.free ndb
    refine ⟨_, rfl, _, rfl, _, rfl, m, M, wl, l, ws, ff, S, rfl, hMa.same sH2, hWs.same sH2, r80, w2, FS, fun H3 d met s3 nd hD ndm mem le => ?_⟩
    obtain ⟨es, ep, hd, ko, ek⟩ := hD
    have hda3 := hda2.same s3
    have hdb3 := hdb2.same s3
    have nda' : d ≠ da := by obtain ⟨_, _, h, _⟩ := hda2; exact Ne.symm (ne_new h nd)
    have ndb' : d ≠ db := by obtain ⟨_, _, h, _⟩ := hdb2; exact Ne.symm (ne_new h nd)
    refine ⟨d, es, ep, rfl, hd, ?_⟩
    have les : es.length = met.length := by
      have z := congrArg List.length ek
      rw [List.length_map, List.length_map] at z
      exact z
    refine for_it walk_dxi (fun i σ H' => Same H H' ∧ Tups H3 H' ∧ H' d = some (DX P w d es ep) ∧ SK P w H' da (sideL false (met.take i)) ∧ SK P w H' db (sideL true (met.take i)) ∧ ∃ x y, σ = [some (.ref m), some (.ref l), some (.str ff), some (.ref da), some (.ref db), x, y])
      ⟨sH2.trans s3, Tups.refl _, hd, hda3, hdb3, _, _, rfl⟩ (fun i σ H' _ h => h.2.2.1) ?_ ?_
    · rintro i v σ H4 H5 hi ⟨s4, tp4, hd4, hA4, hB4, x, y, rfl⟩ ⟨Tp, k9, a9, v9, e9, rfl, nTp, rfl⟩
      have hkk : ∃ p9, met[i]? = some p9 ∧ k9 = kk p9 := by
        have z := congrArg (fun l : List NestedKey => l[i]?) ek
        simp only [List.getElem?_map, e9, Option.map_some] at z
        cases e : met[i]? with
        | none => rw [e] at z; exact nomatch (show some k9 = none from z)
        | some p9 => rw [e] at z; exact ⟨p9, rfl, Option.some.inj (show some k9 = some (kk p9) from z)⟩
      obtain ⟨⟨b9, sp9⟩, hp9, rfl⟩ := hkk
      have kA9 : KeyA H4 (kk (b9, sp9)) a9 := (ko _ (List.mem_of_getElem? e9)).tups tp4
      have sT := same_new (o := .tup [V.ref a9, v9]) nTp
      obtain ⟨spa, k1, k2⟩ := sideAt_of (b := b2i b9) (sp := sp9) (kA9.tups (.of sT))
      have tpT := tp4.trans (.of sT)
      have hd5 := sT _ _ hd4
      have hnot : ¬ (b9, sp9) ∈ met.take i := fun z => by
        obtain ⟨j, hj, ej⟩ := List.getElem_of_mem z
        rw [List.length_take] at hj
        rw [List.getElem_take] at ej
        have e2 : met[j]? = met[i]? := by rw [hp9, ← ej, List.getElem?_eq_getElem]
        have := (List.getElem?_inj (by omega) ndm).mp e2
        omega
      refine ⟨Tp, _, rfl, SqT.of (new_at nTp), rfl, _, _, rfl, _, _, rfl, rfl, ?_⟩
      refine ⟨_, rfl, a9, _, _, _, rfl, rfl, SqT.of k1, atI_nat (j := 0) rfl, rfl, _, rfl, ?_⟩
      have hil : i < met.length := (List.getElem?_eq_some_iff.mp hp9).1
      have lside : ∀ b, (sideL b (met.take i)).length ≤ i := fun b => by
        unfold sideL
        rw [List.length_map]
        refine Nat.le_trans (List.length_filter_le _ _) ?_
        rw [List.length_take]
        omega
      cases b9 with
      | false =>
        obtain ⟨esA, epA, hA, koA, ekA⟩ := id (hA4.same sT)
        have lesA : esA.length = (sideL false (met.take i)).length := by
          have z := congrArg List.length ekA
          rw [List.length_map, List.length_map] at z
          exact z
        have := lside false
        refine iteT ⟨_, rfl, _, rfl, _, rfl, a9, _, _, _, rfl, rfl, SqT.of k1, atI_nat (j := 1) rfl, da, spa, spk sp9, esA, epA, rfl, rfl, hA, koA, keyA_spot k2, by rw [ekA]; exact fun z => hnot (mem_sideL.mp (mem_spk.mp z)), by omega, fun ep7 => ?_⟩
        have tpP := Tups.put hA (u := DX P w da (esA ++ [(spk sp9, spa, v9)]) ep7) (fun _ z => nomatch z)
        refine ⟨same_mut (s4.trans sT) nda, tpT.trans tpP, up_ne hd5 nda', ⟨_, ep7, upd_same, (koA.tups tpP).snoc ((keyA_spot k2).tups tpP), ?_⟩, ?_, _, _, rfl⟩
        · rw [List.map_append, ekA, take_snoc hp9, sideL_snoc, if_pos rfl, List.map_append]
          rfl
        · rw [take_snoc hp9, sideL_snoc, if_neg (by intro z; cases z), List.append_nil]
          exact (hB4.same sT).tups (upd_ne (Ne.symm nab)) tpP
      | true =>
        obtain ⟨esA, epA, hA, koA, ekA⟩ := id (hB4.same sT)
        have lesA : esA.length = (sideL true (met.take i)).length := by
          have z := congrArg List.length ekA
          rw [List.length_map, List.length_map] at z
          exact z
        have := lside true
        refine iteF ⟨_, rfl, _, rfl, _, rfl, a9, _, _, _, rfl, rfl, SqT.of k1, atI_nat (j := 1) rfl, db, spa, spk sp9, esA, epA, rfl, rfl, hA, koA, keyA_spot k2, by rw [ekA]; exact fun z => hnot (mem_sideL.mp (mem_spk.mp z)), by omega, fun ep7 => ?_⟩
        have tpP := Tups.put hA (u := DX P w db (esA ++ [(spk sp9, spa, v9)]) ep7) (fun _ z => nomatch z)
        refine ⟨same_mut (s4.trans sT) ndb0, tpT.trans tpP, up_ne hd5 ndb', ?_, ⟨_, ep7, upd_same, (koA.tups tpP).snoc ((keyA_spot k2).tups tpP), ?_⟩, _, _, rfl⟩
        · rw [take_snoc hp9, sideL_snoc, if_neg (by intro z; cases z), List.append_nil]
          exact (hA4.same sT).tups (upd_ne nab) tpP
        · rw [List.map_append, ekA, take_snoc hp9, sideL_snoc, if_pos rfl, List.map_append]
          rfl
    · rintro σ H4 ⟨s4, tp4, hd4, hA4, hB4, x, y, rfl⟩
      rw [les, List.take_length] at hA4 hB4
      refine ⟨_, rfl, _, rfl, by show 2 ≤ sizeLine; decide, fun t nt => ?_⟩
      have st := same_new (o := .tup [V.ref da, V.ref db]) nt
      exact q _ t da db met (s4.trans st) (new_at nt) (hA4.same st) (hB4.same st) ndm mem le
abbrev Gr := List (List Int × List (Int × List Int))
def TMvAt (H : Hp) (a : Addr) (ke : Int × List Int) : Prop := ∃ b c, H a = some (.tup [.int ke.1, .ref b, .ref c]) ∧ SpotAt H c ke.2
theorem TMvAt.tups {H H' : Hp} (s : Tups H H') {a : Addr} {ke : Int × List Int} (h : TMvAt H a ke) : TMvAt H' a ke := let ⟨b, c, h1, h2⟩ := h; ⟨b, c, s _ _ h1, s _ _ h2⟩
def EntG (H : Hp) (x : Ent) (ge : List Int × List (Int × List Int)) : Prop := x.1 = spk ge.1 ∧ ∃ ml as, x.2.2 = .ref ml ∧ H ml = some (.lst (as.map V.ref)) ∧ Paired (TMvAt H) as ge.2
theorem EntG.same {H H' : Hp} (s : Same H H') {x : Ent} {ge : List Int × List (Int × List Int)} (h : EntG H x ge) : EntG H' x ge := let ⟨h1, ml, as, h2, h3, h4⟩ := h; ⟨h1, ml, as, h2, s _ _ h3, Paired.mapP h4 fun _ _ z => z.tups (.of s)⟩
theorem EntG.put {H : Hp} {d : Addr} {es : List Ent} {ep : Nat} {u : HO} (hd : H d = some (DX P w d es ep)) {x : Ent} {ge : List Int × List (Int × List Int)} (h : EntG H x ge) : EntG (upd H d u) x ge :=
  let ⟨h1, ml, as, h2, h3, h4⟩ := h
  ⟨h1, ml, as, h2, up_ne h3 (ne_of h3 hd (by intro z; cases z)), Paired.mapP h4 fun _ _ z => z.tups (Tups.put hd (fun _ z => nomatch z))⟩
/-- the table at d -/
def TabAt (P : Program) (w : World) (H : Hp) (d : Addr) (g : Gr) : Prop := ∃ es ep, H d = some (DX P w d es ep) ∧ KO H es ∧ Paired (EntG H) es g
theorem TabAt.same {H H' : Hp} (s : Same H H') {d : Addr} {g : Gr} (h : TabAt P w H d g) : TabAt P w H' d g := let ⟨es, ep, h1, h2, h3⟩ := h; ⟨es, ep, s _ _ h1, h2.tups (.of s), Paired.mapP h3 fun _ _ z => z.same s⟩
theorem entG_keys {H : Hp} : ∀ {es : List Ent} {g : Gr}, Paired (EntG H) es g → es.map (·.1) = (g.map (·.1)).map spk
  | _, _, .nil => rfl
  | _, _, .cons h t => by rw [List.map_cons, List.map_cons, List.map_cons, h.1, entG_keys t]
def spBehindMoves (P : Program) (w : World) (C CW : Addr) : Sp := fun vs H Q _ => ∃ m M wl l ws f db lb, vs = [.ref m, .ref l, .str f, .ref db] ∧ MachAt C H m M wl ∧ WsAt CW H l ws ∧ M.rows.length ≤ 80 ∧ (∀ s, (nums M.rows s).length ≤ 8) ∧ ws.length ≤ 2 ∧ SK P w H db lb ∧ lb.Nodup ∧ lb.length ≤ 1458 ∧ (∀ sp ∈ lb, sp.length = ws.length + 1) ∧
  ∀ (H' : Hp) (d : Addr) (g : Gr), Same H H' → H d = none → TabAt P w H' d g → g.map (·.1) = lb → (∀ ge ∈ g, (∀ k e, (k, e) ∈ ge.2 ↔ (k = 0 ∧ Side M ws f ge.1 e) ∨ (k = 1 ∧ ∃ c, Main M ws f c ge.1 e)) ∧ ge.2.length ≤ 1000) → Q (.ref d) H'
theorem ok_BehindMoves {f : Addr} {fd : FuncData} (F : FnP K "behind_moves" "behind_moves" sBehindMoves [] f fd) (T : Tx K mg) (C_side_moves : Cal P w K mg base 3 "side_moves" ["machine", "rows", "fault", "spot"] (spSideMoves C CW)) (C_main_moves : Cal P w K mg base 3 "main_moves" ["machine", "rows", "fault", "spot"] (spMainMoves C CW)) :
    FnOk P w K mg base CX0 4 f fd ["machine", "rows", "fault", "behind"] (spBehindMoves P w C CW) := by
  refine mk_fn F sc_BehindMoves (fun vs H Q E h => ?_) (fun cdv A outer s H vs Q E hr h => ?_)
  · obtain ⟨m, M, wl, l, ws, f, db, lb, rfl, _⟩ := h
    rfl
  · obtain ⟨m, M, wl, l, ws, ff, db, lb, rfl, hMa, hWs, r80, nf, w2, ⟨es, epd, hdb, ko, ek⟩, ndl, l1458, lsp, q⟩ := h
    have sl : (1000000 : Nat) < sizeLine := by decide
    refine ⟨_, (pss_cons (ps_set (i := 4) sc_BehindMoves.nd rfl (Or.inl rfl) (pe_dx0))
        (pss_cons (ps_for PassesOwn.never rfl (pi_dx (pv 3)) (pg_name (i := 5) sc_BehindMoves.nd rfl (Or.inl rfl))
        (pss_cons (ps_setLc (i := 6) rfl sc_BehindMoves.nd rfl rfl (sw_true rfl rfl rfl (by decide +kernel)) (pi_list (pc C_side_moves hr (pa_cons (pv 0) (pa_cons (pv 1) (pa_cons (pv 2) (pa_cons (pv 5) pa_nil)))))) (blkOk_by (own := [("numbers", 7), ("end", 8)]) (N := ["machine", "rows", "fault", "behind", "table", "spot", "moves", "numbers", "end"]) (sc := defScope sBehindMoves) (by decide +kernel)) (fun _ _ _ _ _ => (pg_tupK (K := K) (n := 2) rfl (pgs_cons (pg_name (i := 7) sc_BehindMoves.nd rfl (Or.inl rfl)) (pgs_cons (pg_name (i := 8) sc_BehindMoves.nd rfl (Or.inl rfl)) pgs_nil)))) (fun _ _ _ _ _ => pts_nil) (fun _ _ _ _ _ => (pe_tup (pa_cons pe_int (pa_cons (pv 7) (pa_cons (pv 8) pa_nil))))))
        (pss_cons (ps_expr (pe_bm PySem.F.plainAttrs_list PySem.F.slot_list_extend PySem.F.type_list_extend mt_extend (pv 6) (pa_cons (pe_lc rfl sc_BehindMoves.nd (pi_list (pc C_main_moves hr (pa_cons (pv 0) (pa_cons (pv 1) (pa_cons (pv 2) (pa_cons (pv 5) pa_nil)))))) (blkOk_by (own := [("numbers", 7), ("end", 8)]) (N := ["machine", "rows", "fault", "behind", "table", "spot", "moves", "numbers", "end"]) (sc := defScope sBehindMoves) (by decide +kernel)) (fun _ _ _ _ _ => (pg_tupK (K := K) (n := 2) rfl (pgs_cons (pg_name (i := 7) sc_BehindMoves.nd rfl (Or.inl rfl)) (pgs_cons (pg_name (i := 8) sc_BehindMoves.nd rfl (Or.inl rfl)) pgs_nil)))) (fun _ _ _ _ _ => pts_nil) (fun _ _ _ _ _ => (pe_tup (pa_cons pe_int (pa_cons (pv 7) (pa_cons (pv 8) pa_nil)))))) pa_nil)))
        (pss_one (ps_asg (pv 6) (pg_sub (pv 4) (pv 5) (set_dx hr)))))))
        (pss_one (ps_ret (pv 4))))), ?_⟩
    intro d epz nd
    have s1 : Same H (upd H d (DX P w d [] epz)) := same_new nd
    have les : es.length = lb.length := by
      have z := congrArg List.length ek
      rw [List.length_map, List.length_map] at z
      exact z
    refine ⟨_, rfl, db, es, epd, rfl, s1 _ _ hdb, ?_⟩
    refine for_it walk_dx (fun i σ H' => Same H H' ∧ (∃ g, TabAt P w H' d g ∧ g.map (·.1) = lb.take i ∧ (∀ ge ∈ g, (∀ k e, (k, e) ∈ ge.2 ↔ (k = 0 ∧ Side M ws ff ge.1 e) ∨ (k = 1 ∧ ∃ c, Main M ws ff c ge.1 e)) ∧ ge.2.length ≤ 1000)) ∧
        ∃ x5 x6 x7 x8, σ = [some (.ref m), some (.ref l), some (.str ff), some (.ref db), some (.ref d), x5, x6, x7, x8])
      ⟨s1, ⟨[], ⟨[], epz, upd_same, KO.nil, .nil⟩, rfl, fun ge h => nomatch h⟩, _, _, _, _, rfl⟩ (fun i σ H' _ h => h.1 _ _ hdb) ?_ ?_
    · rintro i v σ H1 H2 hi ⟨sH, ⟨g, hT, eg, hg⟩, x5, x6, x7, x8, rfl⟩ ⟨rfl, k9, a9, v9, e9, rfl⟩
      have hkk : ∃ sp, lb[i]? = some sp ∧ k9 = spk sp := by
        have z := congrArg (fun l : List NestedKey => l[i]?) ek
        simp only [List.getElem?_map, e9, Option.map_some] at z
        cases e : lb[i]? with
        | none => rw [e] at z; exact nomatch (show some k9 = none from z)
        | some p9 => rw [e] at z; exact ⟨p9, rfl, Option.some.inj (show some k9 = some (spk p9) from z)⟩
      obtain ⟨sp, hsp9, rfl⟩ := hkk
      have kA : KeyA H2 (spk sp) a9 := (ko _ (List.mem_of_getElem? e9)).tups (.of sH)
      have hspt := spotAt_of kA
      have lsp1 := lsp sp (List.mem_of_getElem? hsp9)
      refine ⟨_, rfl, _, rfl, _, rfl, _, rfl, m, M, wl, l, ws, ff, a9, sp, rfl, hMa.same sH, hWs.same sH, hspt, lsp1, r80, by omega, fun H3 L as es3 s3 nL hL prS meS leS => ?_⟩
      refine ⟨L, rfl, ⟨_, SqL.of hL⟩, fun D nD => ?_⟩
      refine lc_it walk_list (fun j H' => Same H3 H' ∧ ∃ ds : List Addr, H' D = some (.lst (ds.map V.ref)) ∧ Paired (TMvAt H') ds ((es3.take j).map fun e => ((0 : Int), e))) ⟨same_new nD, [], upd_same, .nil⟩ (fun j H' _ h => SqL.of (h.1 _ _ hL)) ?_ ?_
      · rintro j v H4 H5 hj ⟨s4, ds, hD, prD⟩ ⟨rfl, e1⟩
        obtain ⟨a0, ha0, rfl⟩ := map_ref e1
        obtain ⟨e, he, b0, ec, ns, q1, q2, q3⟩ := L2.paired_get prS ha0
        refine ⟨a0, _, rfl, SqT.of (s4 _ _ q1), rfl, _, _, rfl, _, _, rfl, rfl, rfl, ?_⟩
        refine ⟨_, rfl, _, rfl, by show 3 ≤ sizeLine; decide, fun t nt => ?_⟩
        have st := same_new (o := .tup [V.int 0, V.ref b0, V.ref ec]) nt
        have ld := Paired.length prD
        rw [List.length_map, List.length_take] at ld
        refine ⟨_, st _ _ hD, by rw [List.length_map]; omega, same_mut (s4.trans st) nD, ds ++ [t], by rw [upd_same, List.map_append]; rfl, ?_⟩
        have tp := (Tups.of st).trans (Tups.put (st _ _ hD) (u := .lst (ds.map V.ref ++ [V.ref t])) (fun _ z => nomatch z))
        have ntD : t ≠ D := Ne.symm (ne_new hD nt)
        have ncD : ec ≠ D := ne_of (s4 _ _ q3) hD (by intro z; cases z)
        rw [take_snoc he, List.map_append]
        exact Paired.snoc (Paired.mapP prD fun _ _ z => z.tups tp) ⟨b0, ec, up_ne (new_at nt) ntD, up_ne (st _ _ (s4 _ _ q3)) ncD⟩
      rintro H4 ⟨s4, ds, hD, prD⟩
      have elS : (as.map V.ref).length = es3.length := by rw [List.length_map]; exact Paired.length prS
      rw [elS, List.take_length] at prD
      have sH4 := (sH.trans s3).trans s4
      have nD0 : H D = none := (sH.trans s3).free nD
      refine ⟨_, rfl, .inl ⟨rfl, _, SqL.of hD⟩, ?_⟩
      refine ⟨_, rfl, _, rfl, _, rfl, _, rfl, m, M, wl, l, ws, ff, a9, sp, rfl, hMa.same sH4, hWs.same sH4, (s3.trans s4) _ _ hspt, lsp1, r80, nf, w2, fun H5 L5 as5 mv s5 nL5 hL5 prM meM leM => ?_⟩
      refine ⟨L5, rfl, ⟨_, SqL.of hL5⟩, fun D2 nD2 => ?_⟩
      refine lc_it walk_list (fun j H' => Same H5 H' ∧ ∃ ds2 : List Addr, H' D2 = some (.lst (ds2.map V.ref)) ∧ Paired (TMvAt H') ds2 ((mv.take j).map fun ne => ((1 : Int), ne.2))) ⟨same_new nD2, [], upd_same, .nil⟩ (fun j H' _ h => SqL.of (h.1 _ _ hL5)) ?_ ?_
      · rintro j v H6 H7 hj ⟨s6, ds2, hD2, prD2⟩ ⟨rfl, e1⟩
        obtain ⟨a0, ha0, rfl⟩ := map_ref e1
        obtain ⟨⟨n, e⟩, he, b0, ec, ns, q1, q2, q3, _⟩ := L2.paired_get prM ha0
        refine ⟨a0, _, rfl, SqT.of (s6 _ _ q1), rfl, _, _, rfl, _, _, rfl, rfl, rfl, ?_⟩
        refine ⟨_, rfl, _, rfl, by show 3 ≤ sizeLine; decide, fun t nt => ?_⟩
        have st := same_new (o := .tup [V.int 1, V.ref b0, V.ref ec]) nt
        have ld := Paired.length prD2
        rw [List.length_map, List.length_take] at ld
        refine ⟨_, st _ _ hD2, by rw [List.length_map]; omega, same_mut (s6.trans st) nD2, ds2 ++ [t], by rw [upd_same, List.map_append]; rfl, ?_⟩
        have tp := (Tups.of st).trans (Tups.put (st _ _ hD2) (u := .lst (ds2.map V.ref ++ [V.ref t])) (fun _ z => nomatch z))
        have ntD : t ≠ D2 := Ne.symm (ne_new hD2 nt)
        have ncD : ec ≠ D2 := ne_of (s6 _ _ q3) hD2 (by intro z; cases z)
        rw [take_snoc he, List.map_append]
        exact Paired.snoc (Paired.mapP prD2 fun _ _ z => z.tups tp) ⟨b0, ec, up_ne (new_at nt) ntD, up_ne (st _ _ (s6 _ _ q3)) ncD⟩
      rintro H6 ⟨s6, ds2, hD2, prD2⟩
      have elM : (as5.map V.ref).length = mv.length := by rw [List.length_map]; exact Paired.length prM
      rw [elM, List.take_length] at prD2
      have s46 := s5.trans s6
      have hD6 := s46 _ _ hD
      have l1 := Paired.length prD
      have l2 := Paired.length prD2
      rw [List.length_map] at l1 l2
      refine ⟨D, D2, _, _, rfl, rfl, hD6, hD2, by rw [List.length_map, List.length_map]; omega, ?_⟩
      have sH6 := sH4.trans s46
      have s26 := (s3.trans s4).trans s46
      obtain ⟨esT, epT, hd2, koT2, prT⟩ := hT
      have hd6 := s26 _ _ hd2
      have koT := koT2.tups (.of s26)
      have nDd : D ≠ d := ne_of hD6 hd6 (by intro z; cases z)
      have tpD : Tups H6 (upd H6 D (.lst (ds.map V.ref ++ ds2.map V.ref))) := Tups.put hD6 (fun _ z => nomatch z)
      have hd7 := up_ne (u := .lst (ds.map V.ref ++ ds2.map V.ref)) hd6 (Ne.symm nDd)
      have lT : esT.length = i := by
        rw [Paired.length prT, ← List.length_map (f := (·.1)), eg, List.length_take]
        have := (List.getElem?_eq_some_iff.mp hsp9).1
        omega
      have hnot : ¬ sp ∈ lb.take i := fun z => by
        obtain ⟨j, hj, ej⟩ := List.getElem_of_mem z
        rw [List.length_take] at hj
        rw [List.getElem_take] at ej
        have e2 : lb[j]? = lb[i]? := by rw [hsp9, ← ej, List.getElem?_eq_getElem]
        have := (List.getElem?_inj (by omega) ndl).mp e2
        omega
      have hil : i < lb.length := (List.getElem?_eq_some_iff.mp hsp9).1
      have kA7 : KeyA (upd H6 D (.lst (ds.map V.ref ++ ds2.map V.ref))) (spk sp) a9 := kA.tups ((Tups.of ((s3.trans s4).trans s46)).trans tpD)
      refine ⟨_, rfl, _, rfl, _, rfl, d, a9, spk sp, esT, epT, rfl, rfl, hd7, koT.tups tpD, kA7, by rw [entG_keys prT, eg]; exact fun z => hnot (mem_spk.mp z), by omega, fun ep8 => ?_⟩
      have prT7 : Paired (EntG (upd H6 D (.lst (ds.map V.ref ++ ds2.map V.ref)))) esT g := Paired.mapP prT fun x ge z => by
        obtain ⟨h1, ml, as, h2, h3, h4⟩ := z
        exact ⟨h1, ml, as, h2, up_ne (s26 _ _ h3) (ne_new (s3 _ _ h3) nD), Paired.mapP h4 fun _ _ z => z.tups ((Tups.of s26).trans tpD)⟩
      have tp8 := Tups.put hd7 (u := DX P w d (esT ++ [(spk sp, a9, V.ref D)]) ep8) (fun _ z => nomatch z)
      have hD7 := upd_same (H := H6) (a := D) (o := .lst (ds.map V.ref ++ ds2.map V.ref))
      refine ⟨same_mut (same_mut sH6 nD0) nd, ⟨g ++ [(sp, es3.map (fun e => ((0 : Int), e)) ++ mv.map (fun ne => ((1 : Int), ne.2)))], ⟨_, ep8, upd_same, (koT.tups (tpD.trans tp8)).snoc (kA7.tups tp8), Paired.snoc (Paired.mapP prT7 fun _ _ z => EntG.put hd7 z) ?_⟩, ?_, fun ge hge => ?_⟩, _, _, _, _, rfl⟩
      · refine ⟨rfl, D, ds ++ ds2, rfl, up_ne (by rw [hD7, List.map_append]) nDd, ?_⟩
        exact paired_append (Paired.mapP prD fun _ _ z => z.tups (((Tups.of s46).trans tpD).trans tp8)) (Paired.mapP prD2 fun _ _ z => z.tups (tpD.trans tp8))
      · rw [List.map_append, eg, take_snoc hsp9]
        rfl
      · rcases List.mem_append.mp hge with z | z
        · exact hg ge z
        · rw [List.mem_singleton.mp z]
          refine ⟨fun k e => ?_, by show (es3.map (fun e => ((0 : Int), e)) ++ mv.map (fun ne => ((1 : Int), ne.2))).length ≤ 1000; rw [List.length_append, List.length_map, List.length_map]; omega⟩
          show (k, e) ∈ es3.map (fun e => ((0 : Int), e)) ++ mv.map (fun ne => ((1 : Int), ne.2)) ↔ _
          rw [List.mem_append]
          constructor
          · rintro (h | h)
            · obtain ⟨e', he', e2⟩ := List.mem_map.mp h
              cases e2
              exact .inl ⟨rfl, (meS _).mp he'⟩
            · obtain ⟨⟨n, e'⟩, he', e2⟩ := List.mem_map.mp h
              cases e2
              obtain ⟨r, ys, es, h1, h2, h3, h4⟩ := (meM _ _).mp he'
              exact .inr ⟨rfl, _, main_iff.mpr ⟨n, r, ⟨r, ys, es, h1, h2, h3, h4⟩, h1, rfl⟩⟩
          · rintro (⟨rfl, h⟩ | ⟨rfl, c, h⟩)
            · exact .inl (List.mem_map.mpr ⟨e, (meS e).mpr h, rfl⟩)
            · obtain ⟨n, r, h1, h2, _⟩ := main_iff.mp h
              exact .inr (List.mem_map.mpr ⟨(n, e), (meM n e).mpr h1, rfl⟩)
    · rintro σ H1 ⟨sH, ⟨g, hT, eg, hg⟩, x5, x6, x7, x8, rfl⟩
      rw [les, List.take_length] at eg
      exact ⟨_, rfl, q _ d g sH nd hT eg hg⟩
end
end Kn

end
section
set_option maxHeartbeats 4000000
/-! finish_order. -/
namespace Kn
open PySem PySem.Spec PyProof.Rows L2
theorem sc_FinishOrder : FnScope ["table", "order", "done", "root", "stack", "moves", "end", "spot", "at"] ["table"] (defScope sFinishOrder) := ⟨rfl, rfl, rfl, by decide +kernel, rfl, by decide +kernel, by decide +kernel⟩
def mvG (g : Gr) (sp : List Int) : List (Int × List Int) := ((g.find? fun ge => decide (ge.1 = sp)).map (·.2)).getD []
theorem mvG_of : ∀ {g : Gr} {ge : List Int × List (Int × List Int)}, (g.map (·.1)).Nodup → ge ∈ g → mvG g ge.1 = ge.2
  | x :: g, ge, hn, h => by
    obtain ⟨h1, h2⟩ := List.nodup_cons.mp (show (x.1 :: g.map (·.1)).Nodup from hn)
    unfold mvG
    rw [List.find?_cons]
    rcases List.mem_cons.mp h with e | h
    · subst e
      rw [decide_eq_true rfl]
      rfl
    · have ne : ¬ x.1 = ge.1 := fun e => h1 (by rw [e]; exact List.mem_map.mpr ⟨_, h, rfl⟩)
      rw [decide_eq_false ne]
      exact mvG_of h2 h
def und (f : List Int → Nat) (l dn : List (List Int)) : Nat := ((l.filter fun x => !decide (x ∈ dn)).map f).sum
theorem und_add {f : List Int → Nat} {e : List Int} {dn : List (List Int)} (hd : ¬ e ∈ dn) : ∀ {l : List (List Int)}, l.Nodup → (e ∈ l → und f l dn = und f l (dn ++ [e]) + f e) ∧ (¬ e ∈ l → und f l dn = und f l (dn ++ [e]))
  | [], _ => ⟨(fun h => nomatch h), fun _ => rfl⟩
  | x :: l, hn => by
    obtain ⟨h1, h2⟩ := List.nodup_cons.mp hn
    obtain ⟨i1, i2⟩ := und_add (f := f) hd h2
    have step : ∀ dd : List (List Int), und f (x :: l) dd = (if x ∈ dd then 0 else f x) + und f l dd := fun dd => by
      unfold und
      rw [List.filter_cons]
      by_cases m : x ∈ dd
      · rw [if_pos m]
        simp [m]
      · rw [if_neg m]
        simp [m]
    rw [step, step]
    by_cases ex : x = e
    · subst ex
      have q := i2 h1
      refine ⟨fun _ => ?_, fun z => absurd List.mem_cons_self z⟩
      rw [if_neg hd, if_pos (by simp), q]
      omega
    · have hm : x ∈ dn ++ [e] ↔ x ∈ dn := by
        rw [List.mem_append, List.mem_singleton]
        exact ⟨fun z => z.resolve_right ex, .inl⟩
      refine ⟨fun z => ?_, fun z => ?_⟩
      · have q := i1 ((List.mem_cons.mp z).resolve_left (fun y => ex y.symm))
        rw [q]
        simp only [hm]
        omega
      · have q := i2 (fun y => z (List.mem_cons_of_mem _ y))
        rw [q]
        simp only [hm]
def stkW (g : Gr) (stk : List (List Int × Nat)) : Nat := (stk.map fun s => (mvG g s.1).length + 1 - s.2).sum
/-- the stack's items -/
def StkAt (H : Hp) (a : Addr) (s : List Int × Nat) : Prop := ∃ b, H a = some (.tup [.ref b, natV s.2]) ∧ SpotAt H b s.1
theorem StkAt.tups {H H' : Hp} (t : Tups H H') {a : Addr} {s : List Int × Nat} (h : StkAt H a s) : StkAt H' a s := let ⟨b, h1, h2⟩ := h; ⟨b, t _ _ h1, t _ _ h2⟩
structure FoS (g : Gr) (dn ord : List (List Int)) (stk : List (List Int × Nat)) : Prop where
  mem : ∀ x, x ∈ dn ↔ x ∈ ord ∨ x ∈ stk.map (·.1)
  nd : (ord ++ stk.map (·.1)).Nodup
  nn : dn.Nodup
  sub : ∀ x ∈ dn, x ∈ g.map (·.1)
  at_ : ∀ s ∈ stk, s.2 ≤ (mvG g s.1).length
theorem paired_last {α β : Type} {F : α → β → Prop} {as : List α} {bs : List β} {b : β} (h : Paired F as (bs ++ [b])) : ∃ as1 a, as = as1 ++ [a] ∧ Paired F as1 bs ∧ F a b := by
  induction bs generalizing as with
  | nil =>
    cases h with
    | cons h1 h2 =>
      cases h2
      exact ⟨[], _, rfl, .nil, h1⟩
  | cons x bs ih =>
    cases h with
    | cons h1 h2 =>
      obtain ⟨as1, a, rfl, h3, h4⟩ := ih h2
      exact ⟨_ :: as1, a, rfl, .cons h1 h3, h4⟩
section
variable {P : Program} {w : World} {K : PySem.W.Frag} {mg : Str → Option Value} {base : Heap} {C CW : Addr}
theorem tab_get {H : Hp} {es : List Ent} {g : Gr} (hn : (g.map (·.1)).Nodup) (h : Paired (EntG H) es g) {sp : List Int} (hs : sp ∈ g.map (·.1)) : ∃ a ml as, (spk sp, a, V.ref ml) ∈ es ∧ H ml = some (.lst (as.map V.ref)) ∧ Paired (TMvAt H) as (mvG g sp) := by
  obtain ⟨ge, hge, rfl⟩ := List.mem_map.mp hs
  rw [mvG_of hn hge]
  clear hs hn
  induction h with
  | nil => exact nomatch hge
  | @cons x y es g h t ih =>
    rcases List.mem_cons.mp hge with e | hge
    · subst e
      obtain ⟨h1, ml, as, h2, h3, h4⟩ := h
      obtain ⟨x1, x2, x3⟩ := x
      simp only at h1 h2
      subst h1 h2
      exact ⟨x2, ml, as, List.mem_cons_self, h3, h4⟩
    · obtain ⟨a, ml, as, h1, h2⟩ := ih hge
      exact ⟨a, ml, as, List.mem_cons_of_mem _ h1, h2⟩
/-- a table that is closed -/
structure TabOk (g : Gr) : Prop where
  nd : (g.map (·.1)).Nodup
  le : g.length ≤ 1458
  lens : ∀ ge ∈ g, ge.2.length ≤ 1000
  cl : ∀ ge ∈ g, ∀ ke ∈ ge.2, ke.2 ∈ g.map (·.1)
theorem TabOk.mv {g : Gr} (h : TabOk g) {sp : List Int} (hs : sp ∈ g.map (·.1)) : (mvG g sp).length ≤ 1000 ∧ ∀ ke ∈ mvG g sp, ke.2 ∈ g.map (·.1) := by
  obtain ⟨ge, hge, rfl⟩ := List.mem_map.mp hs
  rw [mvG_of h.nd hge]
  exact ⟨h.lens ge hge, h.cl ge hge⟩
def FoI (P : Program) (w : World) (H : Hp) (g : Gr) (d Od Dd Sd : Addr) (nodes : List (List Int)) (n : Nat) (σ : L2.St) (H' : Hp) : Prop := ∃ (dn ord : List (List Int)) (stk : List (List Int × Nat)) (oas sas : List Addr), n = und (fun sp => (mvG g sp).length + 1) (g.map (·.1)) dn + stkW g stk ∧ Same H H' ∧ H' Od = some (.lst (oas.map V.ref)) ∧ Paired (SpotAt H') oas ord ∧
  SK P w H' Dd dn ∧ H' Sd = some (.lst (sas.map V.ref)) ∧ Paired (StkAt H') sas stk ∧ FoS g dn ord stk ∧ (∀ x ∈ nodes, x ∈ dn) ∧ ∃ x3 x5 x6 x7 x8, σ = [some (.ref d), some (.ref Od), some (.ref Dd), x3, some (.ref Sd), x5, x6, x7, x8]
def spFinishOrder (P : Program) (w : World) : Sp := fun vs H Q _ => ∃ d g, vs = [.ref d] ∧ TabAt P w H d g ∧ TabOk g ∧
  ∀ (H' : Hp) (L : Addr) (as : List Addr) (ord : List (List Int)), Same H H' → H L = none → H' L = some (.lst (as.map V.ref)) → Paired (SpotAt H') as ord → (∀ x, x ∈ ord ↔ x ∈ g.map (·.1)) → ord.length ≤ 1458 → Q (.ref L) H'
theorem ok_FinishOrder {f : Addr} {fd : FuncData} (F : FnP K "finish_order" "finish_order" sFinishOrder [] f fd) (T : Tx K mg) : FnOk P w K mg base CX0 1 f fd ["table"] (spFinishOrder P w) := by
  refine mk_fn F sc_FinishOrder (fun vs H Q E h => ?_) (fun cdv A outer s H vs Q E hr h => ?_)
  · obtain ⟨d, g, rfl, _⟩ := h
    rfl
  · obtain ⟨d, g, rfl, ⟨es, ep, hd, ko, prT⟩, OK, q⟩ := h
    have sl : (1000000 : Nat) < sizeLine := by decide
    have ek := entG_keys prT
    have les : es.length = g.length := Paired.length prT
    refine ⟨_, (pss_cons (ps_set (i := 1) sc_FinishOrder.nd rfl (Or.inl rfl) (pe_lst pa_nil))
        (pss_cons (ps_set (i := 2) sc_FinishOrder.nd rfl (Or.inl rfl) (pe_dx0))
        (pss_cons (ps_for PassesOwn.never rfl (pi_dx (pv 0)) (pg_name (i := 3) sc_FinishOrder.nd rfl (Or.inl rfl))
        (pss_cons (ps_if (pt_cmpR (op_dxIn hr) (pv 3) (pv 2) rfl) (pss_one ps_continue) pss_nil)
        (pss_cons (ps_asg pe_bl (pg_sub (pv 2) (pv 3) (set_dx hr)))
        (pss_cons (ps_set (i := 4) sc_FinishOrder.nd rfl (Or.inl rfl) (pe_lst (pa_cons (pe_tup (pa_cons (pv 3) (pa_cons pe_int pa_nil))) pa_nil)))
        (pss_one (ps_while PassesOwn.never (pt_truth (pv 4) (fun _ => rfl))
        (pss_cons (ps_asg (pe_bm0 PySem.F.plainAttrs_list PySem.F.slot_list_pop PySem.F.type_list_pop mt_pop (pv 4)) (pg_tup (n := 2) rfl (pgs_cons (pg_name (i := 7) sc_FinishOrder.nd rfl (Or.inl rfl)) (pgs_cons (pg_name (i := 8) sc_FinishOrder.nd rfl (Or.inl rfl)) pgs_nil))))
        (pss_cons (ps_set (i := 5) sc_FinishOrder.nd rfl (Or.inl rfl) (pe_ix (ix_dx hr) (pv 0) (pv 7) (fun _ _ => rfl)))
        (pss_cons (ps_if (pt_cmpR op_eq (pv 8) (pe_callB call_len_seq (by rfl) T.len PySem.boot_len (pa_cons (pv 5) pa_nil)) (nomark _)) (pss_cons (ps_expr (pe_bm PySem.F.plainAttrs_list PySem.F.slot_list_append PySem.F.type_list_append mt_append (pv 1) (pa_cons (pv 7) pa_nil)))
        (pss_one ps_continue)) pss_nil)
        (pss_cons (ps_expr (pe_bm PySem.F.plainAttrs_list PySem.F.slot_list_append PySem.F.type_list_append mt_append (pv 4) (pa_cons (pe_tup (pa_cons (pv 7) (pa_cons (pe_op op_add (pv 8) pe_int) pa_nil))) pa_nil)))
        (pss_cons (ps_set (i := 6) sc_FinishOrder.nd rfl (Or.inl rfl) (pe_ix ix_tup (pe_ix ix_list (pv 5) (pv 8) (fun _ _ => rfl)) pe_int (fun _ _ => rfl)))
        (pss_one (ps_if (pt_cmpR (op_dxNotIn hr) (pv 6) (pv 2) rfl) (pss_cons (ps_asg pe_bl (pg_sub (pv 2) (pv 6) (set_dx hr)))
        (pss_one (ps_expr (pe_bm PySem.F.plainAttrs_list PySem.F.slot_list_append PySem.F.type_list_append mt_append (pv 4) (pa_cons (pe_tup (pa_cons (pv 6) (pa_cons pe_int pa_nil))) pa_nil))))) pss_nil)))))))))))))
        (pss_one (ps_ret (pv 1)))))), ?_⟩
    refine ⟨Nat.zero_le _, fun Od nOd => ?_⟩
    have s1 := same_new (o := .lst []) nOd
    intro Dd epd nDd
    have s2 : Same _ (upd _ Dd (DX P w Dd [] epd)) := same_new nDd
    have nOD : Od ≠ Dd := ne_new upd_same nDd
    have nDd0 : H Dd = none := s1.free nDd
    have sH2 := s1.trans s2
    refine ⟨_, rfl, d, es, ep, rfl, sH2 _ _ hd, ?_⟩
    refine for_it walk_dx (fun i σ H' => ∃ (dn ord : List (List Int)) (oas : List Addr), Same H H' ∧ H' Od = some (.lst (oas.map V.ref)) ∧ Paired (SpotAt H') oas ord ∧ SK P w H' Dd dn ∧ FoS g dn ord [] ∧ (∀ x ∈ (g.map (·.1)).take i, x ∈ dn) ∧ ∃ x3 x4 x5 x6 x7 x8, σ = [some (.ref d), some (.ref Od), some (.ref Dd), x3, x4, x5, x6, x7, x8])
      ⟨[], [], [], sH2, s2 _ _ upd_same, .nil, ⟨[], epd, upd_same, KO.nil, rfl⟩, ⟨fun x => by simp, by simp, by simp, (fun x h => nomatch h), (fun s h => nomatch h)⟩, (fun x h => nomatch h), _, _, _, _, _, _, rfl⟩ (fun i σ H' _ h => by obtain ⟨_, _, _, s, _⟩ := h; exact s _ _ hd) ?_ ?_
    · rintro i v σ H3 H4 hi ⟨dn, ord, oas, sH, hO, prO, hD, fs, dsub, x3, x4, x5, x6, x7, x8, rfl⟩ ⟨rfl, k9, a9, v9, e9, rfl⟩
      have hkk : ∃ sp, (g.map (·.1))[i]? = some sp ∧ k9 = spk sp := by
        have z := congrArg (fun l : List NestedKey => l[i]?) ek
        simp only [List.getElem?_map, e9, Option.map_some] at z
        cases e : g[i]? with
        | none => rw [e] at z; exact nomatch (show some k9 = none from z)
        | some p9 => rw [e] at z; exact ⟨p9.1, by rw [List.getElem?_map, e]; rfl, Option.some.inj (show some k9 = some (spk p9.1) from z)⟩
      obtain ⟨root, hroot, rfl⟩ := hkk
      have kA : KeyA H4 (spk root) a9 := (ko _ (List.mem_of_getElem? e9)).tups (.of sH)
      have hrn : root ∈ g.map (·.1) := List.mem_of_getElem? hroot
      obtain ⟨esD, epD, hDD, koD, ekD⟩ := id hD
      have dle : dn.length ≤ 1458 := by
        have := len_sub fs.nn fs.sub
        rw [List.length_map] at this
        have := OK.le
        omega
      have lesD : esD.length = dn.length := by
        have z := congrArg List.length ekD
        rw [List.length_map, List.length_map] at z
        exact z
      refine ⟨_, rfl, _, rfl, a9, Dd, spk root, esD, epD, rfl, rfl, hDD, koD, kA, _, rfl, ?_⟩
      rw [ekD]
      have tsub : ∀ {dn' : List (List Int)}, (∀ x ∈ dn, x ∈ dn') → root ∈ dn' → ∀ x ∈ (g.map (·.1)).take (i + 1), x ∈ dn' := fun h1 h2 x hx => by
        rw [take_snoc hroot] at hx
        rcases List.mem_append.mp hx with z | z
        · exact h1 x (dsub x z)
        · rw [List.mem_singleton.mp z]
          exact h2
      by_cases hin : root ∈ dn
      · rw [show cond false (!decide (spk root ∈ List.map spk dn)) (decide (spk root ∈ List.map spk dn)) = true from decide_eq_true (mem_spk.mpr hin)]
        exact iteT ⟨dn, ord, oas, sH, hO, prO, hD, fs, tsub (fun x h => h) hin, _, _, _, _, _, _, rfl⟩
      · rw [show cond false (!decide (spk root ∈ List.map spk dn)) (decide (spk root ∈ List.map spk dn)) = false from decide_eq_false (fun z => hin (mem_spk.mp z))]
        refine iteF ⟨_, rfl, _, rfl, Dd, a9, spk root, esD, epD, rfl, rfl, hDD, koD, kA, by rw [ekD]; exact fun z => hin (mem_spk.mp z), by omega, fun epE => ?_⟩
        have tpE := Tups.put hDD (u := DX P w Dd (esD ++ [(spk root, a9, V.bl true)]) epE) (fun _ z => nomatch z)
        have sE : Same H (upd H4 Dd (DX P w Dd (esD ++ [(spk root, a9, V.bl true)]) epE)) := same_mut sH nDd0
        have hDE : SK P w (upd H4 Dd (DX P w Dd (esD ++ [(spk root, a9, V.bl true)]) epE)) Dd (dn ++ [root]) := ⟨_, epE, upd_same, (koD.tups tpE).snoc (kA.tups tpE), by rw [List.map_append, List.map_append, ekD]; rfl⟩
        have hOE := up_ne (u := DX P w Dd (esD ++ [(spk root, a9, V.bl true)]) epE) hO nOD
        have kE := spotAt_of (kA.tups tpE)
        refine ⟨_, rfl, by show 2 ≤ sizeLine; decide, fun t1 nt1 => ⟨by show 1 ≤ sizeLine; decide, fun Sd nSd => ?_⟩⟩
        have st := same_new (o := .tup [V.ref a9, V.int 0]) nt1
        have ss := same_new (o := .lst [V.ref t1]) nSd
        have sts := st.trans ss
        have nSO : Sd ≠ Od := Ne.symm (ne_new (st _ _ hOE) nSd)
        have nSD : Sd ≠ Dd := by
          obtain ⟨_, _, z, _⟩ := hDE
          exact Ne.symm (ne_new (st _ _ z) nSd)
        have nSd0 : H Sd = none := (sE.trans st).free nSd
        have fsE : FoS g (dn ++ [root]) ord [(root, 0)] := ⟨fun x => by
            rw [List.mem_append, List.mem_singleton, fs.mem x]
            simp, by
            have z : ord.Nodup := by have := fs.nd; rw [List.map_nil, List.append_nil] at this; exact this
            exact nodup_snoc z (fun m => hin ((fs.mem root).mpr (.inl m))), nodup_snoc fs.nn hin, fun x hx => by
            rcases List.mem_append.mp hx with z | z
            · exact fs.sub x z
            · rw [List.mem_singleton.mp z]
              exact hrn, fun s hs => by rw [List.mem_singleton.mp hs]; exact Nat.zero_le _⟩
        refine ⟨FoI P w H g d Od Dd Sd ((g.map (·.1)).take (i + 1)), ⟨_, dn ++ [root], ord, [(root, 0)], oas, [t1], rfl, sE.trans sts, sts _ _ hOE, Paired.mapP prO fun _ _ z => sts _ _ (tpE _ _ z), hDE.same sts, upd_same, .cons ⟨a9, ss _ _ (new_at nt1), sts _ _ kE⟩ .nil, fsE, tsub (fun x h => List.mem_append_left _ h) (List.mem_append_right _ (by simp)), _, _, _, _, _, rfl⟩, ?_⟩
        clear fsE sts ss st kE hOE hDE sE tpE
        rintro n σ H5 ⟨dn, ord, stk, oas, sas, rfl, sH, hO, prO, hD, hS, prS, fs, nsub, x3, x5, x6, x7, x8, rfl⟩
        refine ⟨_, rfl, !(sas.map V.ref).isEmpty, .inl ⟨_, SqL.of hS, rfl⟩, ?_⟩
        have lsa := Paired.length prS
        rcases List.eq_nil_or_concat stk with rfl | ⟨stk1, sx, rfl⟩
        · have ec : sas = [] := List.length_eq_zero_iff.mp lsa
          subst ec
          exact iteF ⟨dn, ord, oas, sH, hO, prO, hD, fs, nsub, _, _, _, _, _, _, rfl⟩
        · rw [List.concat_eq_append] at prS fs lsa ⊢
          obtain ⟨spx, at_⟩ := sx
          obtain ⟨sas1, sa, rfl, prS1, sb, hsa, hsb⟩ := paired_last prS
          have et : (!((sas1 ++ [sa]).map V.ref).isEmpty) = true := by rw [List.map_append]; simp
          rw [et]
          refine iteT ⟨fun σ' H' => ∃ m', m' < und (fun sp => (mvG g sp).length + 1) (g.map (·.1)) dn + stkW g (stk1 ++ [(spx, at_)]) ∧ FoI P w H g d Od Dd Sd ((g.map (·.1)).take (i + 1)) m' σ' H', fun σ' H' h => h, ?_⟩
          have ew : ((sas1 ++ [sa]).map V.ref)[((sas1 ++ [sa]).map V.ref).length - 1]? = some (.ref sa) := by rw [List.map_append]; simp
          have ed : ((sas1 ++ [sa]).map V.ref).dropLast = sas1.map V.ref := by rw [List.map_append]; simp
          refine ⟨_, rfl, .inl ⟨rfl, _, SqL.of hS⟩, Sd, _, .ref sa, rfl, rfl, hS, ew, ?_⟩
          rw [ed]
          have hxd : spx ∈ dn := (fs.mem spx).mpr (.inr (by rw [List.map_append]; simp))
          have hxn := fs.sub _ hxd
          have hat := fs.at_ (spx, at_) (by simp)
          obtain ⟨mv600, mvcl⟩ := OK.mv hxn
          have sW : stkW g (stk1 ++ [(spx, at_)]) = stkW g stk1 + ((mvG g spx).length + 1 - at_) := by
            unfold stkW
            rw [List.map_append, List.sum_append]
            simp
          have tpS : Tups H5 (upd H5 Sd (.lst (sas1.map V.ref))) := Tups.put hS (fun _ z => nomatch z)
          have sH6 : Same H (upd H5 Sd (.lst (sas1.map V.ref))) := same_mut sH nSd0
          have hO6 := up_ne (u := .lst (sas1.map V.ref)) hO (Ne.symm nSO)
          have hD6 := hD.tups (upd_ne (o := .lst (sas1.map V.ref)) (Ne.symm nSD)) tpS
          have hS6 := upd_same (H := H5) (a := Sd) (o := .lst (sas1.map V.ref))
          have prO6 := Paired.mapP prO fun a b (z : SpotAt H5 a b) => (tpS _ _ z : SpotAt _ a b)
          have prS6 := Paired.mapP prS1 fun a b (z : StkAt H5 a b) => z.tups tpS
          have hsa6 := tpS _ _ hsa
          have hsb6 : SpotAt _ sb spx := tpS _ _ hsb
          generalize upd H5 Sd (.lst (sas1.map V.ref)) = H6 at tpS sH6 hO6 hD6 hS6 prO6 prS6 hsa6 hsb6
          obtain ⟨ax, ml, mas, hin6, hml0, prml⟩ := tab_get OK.nd prT hxn
          have hml := sH6 _ _ hml0
          refine ⟨sa, _, rfl, SqT.of hsa6, rfl, _, _, rfl, _, _, rfl, rfl, ?_⟩
          refine ⟨_, rfl, _, rfl, d, sb, spk spx, es, ep, ax, .ref ml, rfl, rfl, sH6 _ _ hd, ko.tups (.of sH6), keyA_spot hsb6, hin6, ?_⟩
          have lma : (mas.map V.ref).length = (mvG g spx).length := by rw [List.length_map]; exact Paired.length prml
          refine ⟨_, rfl, _, rfl, ml, _, rfl, .inl (SqL.of hml), rfl, _, rfl, ?_⟩
          have nds : (ord ++ stk1.map (·.1)).Nodup ∧ ¬ spx ∈ ord ++ stk1.map (·.1) := by
            have z := fs.nd
            rw [List.map_append, ← List.append_assoc] at z
            obtain ⟨z1, _, z3⟩ := List.nodup_append.mp z
            exact ⟨z1, fun m => z3 _ m _ (by simp) rfl⟩
          have lord : (ord ++ stk1.map (·.1)).length ≤ 1458 := by
            have := len_sub (b := g.map (·.1)) nds.1 fun x hx => fs.sub x ((fs.mem x).mpr ((List.mem_append.mp hx).imp id fun z => by rw [List.map_append]; exact List.mem_append_left _ z))
            rw [List.length_map] at this
            have := OK.le
            omega
          rw [List.length_append, List.length_map] at lord
          have lo6 := Paired.length prO6
          have ls6 := Paired.length prS6
          by_cases hend : at_ = (mvG g spx).length
          · rw [decide_eq_true (show V.int ((at_ : Nat) : Int) = V.int ((mas.map V.ref).length : Nat) by rw [hend, lma])]
            refine iteT ⟨_, rfl, .inl ⟨rfl, _, SqL.of hO6⟩, _, rfl, Od, _, _, rfl, rfl, hO6, by rw [List.length_map]; omega, ?_⟩
            have tpO := Tups.put hO6 (u := .lst (oas.map V.ref ++ [V.ref sb])) (fun _ z => nomatch z)
            refine ⟨_, ?_, dn, ord ++ [spx], stk1, oas ++ [sb], sas1, rfl, same_mut sH6 nOd, by rw [upd_same, List.map_append]; rfl, Paired.snoc (Paired.mapP prO6 fun _ _ z => tpO _ _ z) (tpO _ _ hsb6), hD6.tups (upd_ne (Ne.symm nOD)) tpO, up_ne hS6 nSO, Paired.mapP prS6 fun _ _ z => z.tups tpO, ⟨fun x => ?_, ?_, fs.nn, fs.sub, fun s hs => fs.at_ s (List.mem_append_left _ hs)⟩, nsub, _, _, _, _, _, rfl⟩
            · rw [sW]
              omega
            · rw [fs.mem x, List.map_append, List.mem_append, List.mem_append]
              simp only [List.map_cons, List.map_nil, List.mem_singleton]
              constructor
              · rintro (h | h | h)
                · exact .inl (.inl h)
                · exact .inr h
                · exact .inl (.inr h)
              · rintro ((h | h) | h)
                · exact .inl h
                · exact .inr (.inr h)
                · exact .inr (.inl h)
            · have z := fs.nd
              rw [List.map_append] at z
              refine (List.Perm.nodup_iff ?_).mp z
              rw [List.append_assoc]
              exact List.Perm.append_left _ List.perm_append_comm
          · rw [decide_eq_false (show ¬ V.int ((at_ : Nat) : Int) = V.int ((mas.map V.ref).length : Nat) from fun z => hend (by rw [lma] at z; injection z with z; omega))]
            have hat2 : at_ < (mvG g spx).length := by
              have z : at_ ≤ (mvG g spx).length := hat
              omega
            refine iteF ⟨_, rfl, .inl ⟨rfl, _, SqL.of hS6⟩, _, rfl, _, rfl, _, _, rfl, rfl, by show 2 ≤ sizeLine; decide, fun t1 nt1 => ?_⟩
            have st := same_new (o := .tup [V.ref sb, V.int ((at_ : Int) + 1)]) nt1
            have hS7 := st _ _ hS6
            refine ⟨Sd, _, _, rfl, rfl, hS7, by rw [List.length_map]; omega, ?_⟩
            have tpA := (Tups.of st).trans (Tups.put hS7 (u := .lst (sas1.map V.ref ++ [V.ref t1])) (fun _ z => nomatch z))
            have sH8 : Same H (upd (upd H6 t1 (.tup [V.ref sb, V.int ((at_ : Int) + 1)])) Sd (.lst (sas1.map V.ref ++ [V.ref t1]))) := same_mut (sH6.trans st) nSd0
            have nt1S : t1 ≠ Sd := Ne.symm (ne_new hS6 nt1)
            have hsx : StkAt (upd (upd H6 t1 (.tup [V.ref sb, V.int ((at_ : Int) + 1)])) Sd (.lst (sas1.map V.ref ++ [V.ref t1]))) t1 (spx, at_ + 1) := ⟨sb, up_ne (new_at nt1) nt1S, tpA _ _ hsb6⟩
            have hO8 := up_ne (u := .lst (sas1.map V.ref ++ [V.ref t1])) (st _ _ hO6) (Ne.symm nSO)
            have hD8 := (hD6.same st).tups (upd_ne (o := .lst (sas1.map V.ref ++ [V.ref t1])) (Ne.symm nSD)) (Tups.put hS7 (fun _ z => nomatch z))
            have hS8 := upd_same (H := upd H6 t1 (.tup [V.ref sb, V.int ((at_ : Int) + 1)])) (a := Sd) (o := .lst (sas1.map V.ref ++ [V.ref t1]))
            have prO8 := Paired.mapP prO6 fun a b z => (tpA _ _ z : SpotAt (upd (upd H6 t1 (.tup [V.ref sb, V.int ((at_ : Int) + 1)])) Sd (.lst (sas1.map V.ref ++ [V.ref t1]))) a b)
            have prS8 := Paired.snoc (Paired.mapP prS6 fun a b z => z.tups tpA) hsx
            obtain ⟨ke, hke⟩ := getElem?_lt_some hat2
            obtain ⟨ma, hma, mb, ec, hm1, hm2⟩ := RowsAt.at'' prml hke
            have hen := mvcl ke (List.mem_of_getElem? hke)
            refine ⟨_, rfl, _, rfl, ml, _, _, .ref ma, rfl, rfl, SqL.of (sH8 _ _ hml0), atI_nat (by rw [List.getElem?_map, hma]; rfl), ?_⟩
            refine ⟨ma, _, _, _, rfl, rfl, SqT.of (sH8 _ _ hm1), atI_nat (j := 2) rfl, ?_⟩
            have hec8 : SpotAt _ ec ke.2 := sH8 _ _ hm2
            obtain ⟨esX, epX, hDX, koX, ekX⟩ := id hD8
            have dle : dn.length ≤ 1458 := by
              have := len_sub fs.nn fs.sub
              rw [List.length_map] at this
              have := OK.le
              omega
            have lesX : esX.length = dn.length := by
              have z := congrArg List.length ekX
              rw [List.length_map, List.length_map] at z
              exact z
            refine ⟨_, rfl, _, rfl, ec, Dd, spk ke.2, esX, epX, rfl, rfl, hDX, koX, keyA_spot hec8, _, rfl, ?_⟩
            rw [ekX]
            have sW2 : stkW g (stk1 ++ [(spx, at_ + 1)]) = stkW g stk1 + ((mvG g spx).length + 1 - (at_ + 1)) := by
              unfold stkW
              rw [List.map_append, List.sum_append]
              simp
            have emap : (stk1 ++ [(spx, at_ + 1)]).map (·.1) = (stk1 ++ [(spx, at_)]).map (·.1) := by rw [List.map_append, List.map_append]; rfl
            have fs8 : FoS g dn ord (stk1 ++ [(spx, at_ + 1)]) := ⟨fun x => by rw [emap]; exact fs.mem x, by rw [emap]; exact fs.nd, fs.nn, fs.sub, fun s hs => by
              rcases List.mem_append.mp hs with z | z
              · exact fs.at_ s (List.mem_append_left _ z)
              · rw [List.mem_singleton.mp z]
                exact hat2⟩
            have e2 : (sas1 ++ [t1]).map V.ref = sas1.map V.ref ++ [V.ref t1] := by rw [List.map_append]; rfl
            by_cases hin : ke.2 ∈ dn
            · rw [show cond true (!decide (spk ke.2 ∈ List.map spk dn)) (decide (spk ke.2 ∈ List.map spk dn)) = false from by rw [decide_eq_true (mem_spk.mpr hin)]; rfl]
              exact iteF ⟨_, by rw [sW, sW2]; omega, dn, ord, stk1 ++ [(spx, at_ + 1)], oas, sas1 ++ [t1], rfl, sH8, hO8, prO8, hD8, by rw [e2]; exact hS8, prS8, fs8, nsub, _, _, _, _, _, rfl⟩
            · rw [show cond true (!decide (spk ke.2 ∈ List.map spk dn)) (decide (spk ke.2 ∈ List.map spk dn)) = true from by rw [decide_eq_false (fun z => hin (mem_spk.mp z))]; rfl]
              refine iteT ⟨_, rfl, _, rfl, Dd, ec, spk ke.2, esX, epX, rfl, rfl, hDX, koX, keyA_spot hec8, by rw [ekX]; exact fun z => hin (mem_spk.mp z), by omega, fun epE => ?_⟩
              have tpE := Tups.put hDX (u := DX P w Dd (esX ++ [(spk ke.2, ec, V.bl true)]) epE) (fun _ z => nomatch z)
              have hSE := up_ne (u := DX P w Dd (esX ++ [(spk ke.2, ec, V.bl true)]) epE) hS8 nSD
              refine ⟨_, rfl, .inl ⟨rfl, _, SqL.of hSE⟩, _, rfl, by show 2 ≤ sizeLine; decide, fun t2 nt2 => ?_⟩
              have st2 := same_new (o := .tup [V.ref ec, V.int 0]) nt2
              have hSF := st2 _ _ hSE
              refine ⟨Sd, _, _, rfl, rfl, hSF, by rw [List.length_append, List.length_map]; show sas1.length + 1 < _; omega, ?_⟩
              have tpF := (Tups.of st2).trans (Tups.put hSF (u := .lst ((sas1.map V.ref ++ [V.ref t1]) ++ [V.ref t2])) (fun _ z => nomatch z))
              have nt2S : t2 ≠ Sd := Ne.symm (ne_new hSE nt2)
              obtain ⟨u1, u2⟩ := und_add (f := fun sp => (mvG g sp).length + 1) hin OK.nd
              have u3 := u1 hen
              have hDF : SK P w _ Dd (dn ++ [ke.2]) := ⟨_, epE, up_ne (st2 _ _ upd_same) (Ne.symm nSD), (koX.tups (tpE.trans tpF)).snoc ((keyA_spot hec8).tups (tpE.trans tpF)), by rw [List.map_append, List.map_append, ekX]; rfl⟩
              refine ⟨_, ?_, dn ++ [ke.2], ord, stk1 ++ [(spx, at_ + 1)] ++ [(ke.2, 0)], oas, sas1 ++ [t1] ++ [t2], rfl, same_mut ((same_mut sH8 nDd0).trans st2) nSd0, up_ne (st2 _ _ (up_ne hO8 nOD)) (Ne.symm nSO), Paired.mapP prO8 fun _ _ z => tpF _ _ (tpE _ _ z), hDF, by rw [upd_same, List.map_append, e2]; rfl, Paired.snoc (Paired.mapP prS8 fun _ _ z => z.tups (tpE.trans tpF)) ⟨ec, up_ne (new_at nt2) nt2S, tpF _ _ (tpE _ _ hec8)⟩, ⟨fun x => ?_, ?_, nodup_snoc fs.nn hin, fun x hx => ?_, fun s hs => ?_⟩, fun x hx => List.mem_append_left _ (nsub x hx), _, _, _, _, _, rfl⟩
              · have sW3 : stkW g (stk1 ++ [(spx, at_ + 1)] ++ [(ke.2, 0)]) = stkW g (stk1 ++ [(spx, at_ + 1)]) + ((mvG g ke.2).length + 1) := by
                  unfold stkW
                  rw [List.map_append, List.sum_append]
                  simp
                rw [sW3, sW2, sW, u3]
                omega
              · rw [List.mem_append, fs8.mem x, List.map_append (l₂ := [(ke.2, 0)]), List.mem_append, List.mem_singleton]
                simp only [List.map_cons, List.map_nil, List.mem_singleton]
                exact or_assoc
              · rw [List.map_append (l₂ := [(ke.2, 0)]), ← List.append_assoc]
                exact nodup_snoc fs8.nd fun m => hin ((fs8.mem _).mpr (List.mem_append.mp m))
              · rcases List.mem_append.mp hx with z | z
                · exact fs.sub x z
                · rw [List.mem_singleton.mp z]
                  exact hen
              · rcases List.mem_append.mp hs with z | z
                · exact fs8.at_ s z
                · rw [List.mem_singleton.mp z]
                  exact Nat.zero_le _
    · rintro σ H3 ⟨dn, ord, oas, sH, hO, prO, hD, fs, dsub, x3, x4, x5, x6, x7, x8, rfl⟩
      rw [les, ← List.length_map (f := (·.1)), List.take_length] at dsub
      have e1 : ∀ x, x ∈ ord ↔ x ∈ g.map (·.1) := fun x => by
        have z := fs.mem x
        rw [List.map_nil] at z
        constructor
        · exact fun h => fs.sub x (z.mpr (.inl h))
        · exact fun h => (z.mp (dsub x h)).resolve_right fun y => nomatch y
      have nd2 : ord.Nodup := by have := fs.nd; rw [List.map_nil, List.append_nil] at this; exact this
      have le2 := len_sub nd2 fun x hx => (e1 x).mp hx
      rw [List.length_map] at le2
      exact ⟨_, rfl, q _ Od oas ord sH nOd hO prO e1 (by have := OK.le; omega)⟩
end
end Kn

end
section
set_option maxHeartbeats 4000000
/-! components. -/
namespace Kn
open PySem PySem.Spec PyProof.Rows L2
theorem sc_Components : FnScope ["table", "back", "numbers", "many", "root", "spot", "moves", "move", "waiting", "sources", "source"] ["table"] (defScope sComponents) := ⟨rfl, rfl, rfl, by decide +kernel, rfl, by decide +kernel, by decide +kernel⟩
theorem KeyA.tups' {H H' : Hp} {k : NestedKey} {a : Addr} (h : KeyA H k a) (s : ∀ a xs, H a = some (.tup xs) → H' a = some (.tup xs)) : KeyA H' k a := h.tups s
def EntF (f : List Int → V) (x : Ent) (sp : List Int) : Prop := x.1 = spk sp ∧ x.2.2 = f sp
theorem entF_keys {f : List Int → V} : ∀ {es : List Ent} {l : List (List Int)}, Paired (EntF f) es l → es.map (·.1) = l.map spk
  | _, _, .nil => rfl
  | _, _, .cons h t => by rw [List.map_cons, List.map_cons, h.1, entF_keys t]
theorem entF_get {f : List Int → V} {es : List Ent} {l : List (List Int)} (h : Paired (EntF f) es l) {sp : List Int} (hs : sp ∈ l) : ∃ a, (spk sp, a, f sp) ∈ es := by
  induction h with
  | nil => exact nomatch hs
  | @cons x y es l h t ih =>
    rcases List.mem_cons.mp hs with e | hs
    · subst e
      obtain ⟨h1, h2⟩ := h
      obtain ⟨x1, x2, x3⟩ := x
      simp only at h1 h2
      subst h1 h2
      exact ⟨x2, List.mem_cons_self⟩
    · obtain ⟨a, h1⟩ := ih hs
      exact ⟨a, List.mem_cons_of_mem _ h1⟩
theorem entF_congr {f f' : List Int → V} {es : List Ent} {l : List (List Int)} (h : Paired (EntF f) es l) (e : ∀ x ∈ l, f' x = f x) : Paired (EntF f') es l := by
  induction h with
  | nil => exact .nil
  | cons h t ih => exact .cons ⟨h.1, h.2.trans (e _ List.mem_cons_self).symm⟩ (ih fun x hx => e x (List.mem_cons_of_mem _ hx))
theorem paired_reverse {α β : Type} {F : α → β → Prop} {a : List α} {b : List β} (h : Paired F a b) : Paired F a.reverse b.reverse := by
  induction h with
  | nil => exact .nil
  | cons h t ih =>
    rw [List.reverse_cons, List.reverse_cons]
    exact Paired.snoc ih h
/-- the dict at d: l's spots with the values f -/
def FD (P : Program) (w : World) (H : Hp) (d : Addr) (l : List (List Int)) (f : List Int → V) : Prop := ∃ es ep, H d = some (DX P w d es ep) ∧ KO H es ∧ Paired (EntF f) es l
def set1 {α : Type} (f : List Int → α) (e : List Int) (v : α) : List Int → α := fun x => if x = e then v else f x
theorem set1_same {α : Type} {f : List Int → α} {e : List Int} {v : α} : set1 f e v e = v := if_pos rfl
theorem set1_ne {α : Type} {f : List Int → α} {e x : List Int} {v : α} (h : x ≠ e) : set1 f e v x = f x := if_neg h
structure CoS (nodes : List (List Int)) (bk : List Int → List (List Int)) (l wt : List (List Int)) (num : List Int → Nat) (many : Nat) : Prop where
  sub : ∀ x ∈ l, x ∈ nodes
  nd : l.Nodup
  le : ∀ x ∈ l, num x ≤ many
  wl : ∀ x ∈ wt, x ∈ l ∧ num x = many
  fl : ∀ v ∈ l, v ∈ wt ∨ ∀ u ∈ bk v, u ∈ l ∧ num u ≤ num v
  wle : wt.length ≤ l.length
section
variable {P : Program} {w : World} {K : PySem.W.Frag} {mg : Str → Option Value} {base : Heap} {C CW : Addr}
theorem FD.same {H H' : Hp} {d : Addr} {l : List (List Int)} {f : List Int → V} (h : FD P w H d l f) (s : Same H H') : FD P w H' d l f := let ⟨es, ep, h1, h2, h3⟩ := h; ⟨es, ep, s _ _ h1, h2.tups (.of s), h3⟩
theorem FD.tups {H H' : Hp} {d : Addr} {l : List (List Int)} {f : List Int → V} (h : FD P w H d l f) (e : H' d = H d) (s : Tups H H') : FD P w H' d l f := let ⟨es, ep, h1, h2, h3⟩ := h; ⟨es, ep, e.trans h1, h2.tups s, h3⟩
def BkAt (H : Hp) (nodes : List (List Int)) (ba : List Int → Addr) (bk : List Int → List (List Int)) : Prop := ∀ v ∈ nodes, ∃ as : List Addr, H (ba v) = some (.lst (as.map V.ref)) ∧ Paired (SpotAt H) as (bk v)
theorem BkAt.same {H H' : Hp} {nodes : List (List Int)} {ba : List Int → Addr} {bk : List Int → List (List Int)} (s : Same H H') (h : BkAt H nodes ba bk) : BkAt H' nodes ba bk := fun v hv => let ⟨as, h1, h2⟩ := h v hv; ⟨as, s _ _ h1, Paired.mapP h2 fun _ _ z => s _ _ z⟩
def CoI (P : Program) (w : World) (H5 : Hp) (nodes : List (List Int)) (d D Nd Wd : Addr) (bk : List Int → List (List Int)) (many : Nat) (roots : List (List Int)) (n : Nat) (σ : L2.St) (H' : Hp) : Prop := ∃ (l wt : List (List Int)) (num : List Int → Nat) (was : List Addr), n = 2 * (1458 - l.length) + wt.length ∧ SameX Nd H5 H' ∧
  FD P w H' Nd l (fun x => natV (num x)) ∧ H' Wd = some (.lst (was.map V.ref)) ∧ Paired (SpotAt H') was wt ∧ CoS nodes bk l wt num many ∧ (∀ x ∈ roots, x ∈ l) ∧ ∃ x4 x5 x6 x7 x9 xa, σ = [some (.ref d), some (.ref D), some (.ref Nd), some (natV many), x4, x5, x6, x7, some (.ref Wd), x9, xa]
theorem CoS.add {nodes : List (List Int)} {bk : List Int → List (List Int)} {l wt : List (List Int)} {num : List Int → Nat} {many : Nat} (h : CoS nodes bk l wt num many) {u : List Int} (hu : u ∈ nodes) (hn : ¬ u ∈ l) : CoS nodes bk (l ++ [u]) (wt ++ [u]) (set1 num u many) many := by
  have old : ∀ x ∈ l, set1 num u many x = num x := fun x hx => set1_ne (fun z => hn (z ▸ hx))
  refine ⟨fun x hx => ?_, nodup_snoc h.nd hn, fun x hx => ?_, fun x hx => ?_, fun v hv => ?_, by rw [List.length_append, List.length_append]; exact Nat.succ_le_succ h.wle⟩
  · rcases List.mem_append.mp hx with z | z
    · exact h.sub x z
    · rw [List.mem_singleton.mp z]
      exact hu
  · rcases List.mem_append.mp hx with z | z
    · rw [old x z]
      exact h.le x z
    · rw [List.mem_singleton.mp z, set1_same]
      exact Nat.le_refl _
  · rcases List.mem_append.mp hx with z | z
    · obtain ⟨h1, h2⟩ := h.wl x z
      exact ⟨List.mem_append_left _ h1, by rw [old x h1]; exact h2⟩
    · rw [List.mem_singleton.mp z, set1_same]
      exact ⟨List.mem_append_right _ (by simp), rfl⟩
  · rcases List.mem_append.mp hv with z | z
    · rcases h.fl v z with y | y
      · exact .inl (List.mem_append_left _ y)
      · exact .inr fun u' hu' => by
          obtain ⟨h1, h2⟩ := y u' hu'
          exact ⟨List.mem_append_left _ h1, by rw [old u' h1, old v z]; exact h2⟩
    · exact .inl (List.mem_append_right _ z)
theorem SameX.same0 {d : Addr} {H H1 H2 : Hp} (s : Same H H1) (x : SameX d H1 H2) (n : H d = none) : Same H H2 := fun b o e => x _ _ (s _ _ e) (ne_new e n)
def spComponents (P : Program) (w : World) : Sp := fun vs H Q _ => ∃ d g, vs = [.ref d] ∧ TabAt P w H d g ∧ TabOk g ∧
  ∀ (H' : Hp) (nd : Addr) (l : List (List Int)) (num : List Int → Nat), Same H H' → H nd = none → FD P w H' nd l (fun x => natV (num x)) → l.Nodup → (∀ x, x ∈ l ↔ x ∈ g.map (·.1)) → (∀ u ∈ g.map (·.1), ∀ ke ∈ mvG g u, num u ≤ num ke.2) → Q (.ref nd) H'
theorem ok_Components {f : Addr} {fd : FuncData} (F : FnP K "components" "components" sComponents [] f fd) (T : Tx K mg) (C_finish_order : Cal P w K mg base 1 "finish_order" ["table"] (spFinishOrder P w)) : FnOk P w K mg base CX0 2 f fd ["table"] (spComponents P w) := by
  refine mk_fn F sc_Components (fun vs H Q E h => ?_) (fun cdv A outer s H vs Q E hr h => ?_)
  · obtain ⟨d, g, rfl, _⟩ := h
    rfl
  · obtain ⟨d, g, rfl, hTab, OK, q⟩ := h
    obtain ⟨es, ep, hd, ko, prT⟩ := id hTab
    have sl : (10000000 : Nat) < sizeLine := by decide
    have ek := entG_keys prT
    have les : es.length = g.length := Paired.length prT
    have lnodes : (g.map (·.1)).length = g.length := List.length_map _
    have g1458 := OK.le
    have keyAt : ∀ {i : Nat} {k9 : NestedKey} {a9 : Addr} {v9 : V}, es[i]? = some (k9, a9, v9) → ∃ sp, (g.map (·.1))[i]? = some sp ∧ k9 = spk sp ∧ SpotAt H a9 sp := fun {i k9 a9 v9} e9 => by
      have z := congrArg (fun l : List NestedKey => l[i]?) ek
      simp only [List.getElem?_map, e9, Option.map_some] at z
      cases e : g[i]? with
      | none => rw [e] at z; exact nomatch (show some k9 = none from z)
      | some p9 =>
        rw [e] at z
        have e2 : k9 = spk p9.1 := Option.some.inj (show some k9 = some (spk p9.1) from z)
        subst e2
        exact ⟨p9.1, by rw [List.getElem?_map, e]; rfl, rfl, spotAt_of (ko _ (List.mem_of_getElem? e9))⟩
    refine ⟨_, (pss_cons (ps_dcX hr (i := 1) rfl sc_Components.nd rfl rfl (swd_true rfl rfl rfl (by decide +kernel)) (pi_dx (pv 0)) (blkOk_by (own := [("spot", 5)]) (N := ["table", "back", "numbers", "many", "root", "spot", "moves", "move", "waiting", "sources", "source"]) (sc := defScope sComponents) (by decide +kernel)) (fun _ _ _ _ _ => (pg_name (i := 5) sc_Components.nd rfl (Or.inl rfl))) (fun _ _ _ _ _ => pts_nil) (fun _ _ _ _ _ => (pv 5)) (fun _ _ _ _ _ => (pe_lst pa_nil)))
        (pss_cons (ps_for PassesOwn.never rfl (pi_dxi (pv 0)) (pg_tup (n := 2) rfl (pgs_cons (pg_name (i := 5) sc_Components.nd rfl (Or.inl rfl)) (pgs_cons (pg_name (i := 6) sc_Components.nd rfl (Or.inl rfl)) pgs_nil)))
        (pss_one (ps_for PassesOwn.never rfl (pi_list (pv 6)) (pg_name (i := 7) sc_Components.nd rfl (Or.inl rfl))
        (pss_cons (ps_set (i := 9) sc_Components.nd rfl (Or.inl rfl) (pe_ix (ix_dx hr) (pv 1) (pe_ix ix_tup (pv 7) pe_int (fun _ _ => rfl)) (fun _ _ => rfl)))
        (pss_one (ps_expr (pe_bm PySem.F.plainAttrs_list PySem.F.slot_list_append PySem.F.type_list_append mt_append (pv 9) (pa_cons (pv 5) pa_nil))))))))
        (pss_cons (ps_set (i := 2) sc_Components.nd rfl (Or.inl rfl) (pe_dx0))
        (pss_cons (ps_set (i := 3) sc_Components.nd rfl (Or.inl rfl) pe_int)
        (pss_cons (ps_for PassesOwn.never rfl (pi_list (pe_revL (pc C_finish_order hr (pa_cons (pv 0) pa_nil)))) (pg_name (i := 4) sc_Components.nd rfl (Or.inl rfl))
        (pss_cons (ps_if (pt_cmpR (op_dxIn hr) (pv 4) (pv 2) rfl) (pss_one ps_continue) pss_nil)
        (pss_cons (ps_asg (pv 3) (pg_sub (pv 2) (pv 4) (set_dx hr)))
        (pss_cons (ps_set (i := 8) sc_Components.nd rfl (Or.inl rfl) (pe_lst (pa_cons (pv 4) pa_nil)))
        (pss_cons (ps_while PassesOwn.never (pt_truth (pv 8) (fun _ => rfl))
        (pss_cons (ps_set (i := 5) sc_Components.nd rfl (Or.inl rfl) (pe_bm0 PySem.F.plainAttrs_list PySem.F.slot_list_pop PySem.F.type_list_pop mt_pop (pv 8)))
        (pss_one (ps_for PassesOwn.never rfl (pi_list (pe_ix (ix_dx hr) (pv 1) (pv 5) (fun _ _ => rfl))) (pg_name (i := 10) sc_Components.nd rfl (Or.inl rfl))
        (pss_one (ps_if (pt_cmpR (op_dxNotIn hr) (pv 10) (pv 2) rfl) (pss_cons (ps_asg (pv 3) (pg_sub (pv 2) (pv 10) (set_dx hr)))
        (pss_one (ps_expr (pe_bm PySem.F.plainAttrs_list PySem.F.slot_list_append PySem.F.type_list_append mt_append (pv 8) (pa_cons (pv 10) pa_nil))))) pss_nil))))))
        (pss_one (ps_aug (i := 3) sc_Components.nd rfl (Or.inl rfl) pe_int ip_add)))))))
        (pss_one (ps_ret (pv 2)))))))), ?_⟩
    refine ⟨_, rfl, d, es, ep, rfl, hd, fun D nD => ?_⟩
    refine cc_it (U := fun D => DX P w D [] 0) walk_dx (fun i H' => Same H H' ∧ ∃ ba : List Int → Addr, FD P w H' D ((g.map (·.1)).take i) (fun x => .ref (ba x)) ∧ (∀ x ∈ (g.map (·.1)).take i, H' (ba x) = some (.lst []) ∧ H (ba x) = none ∧ ba x ≠ D) ∧ ∀ x ∈ (g.map (·.1)).take i, ∀ y ∈ (g.map (·.1)).take i, ba x = ba y → x = y)
      ⟨same_new nD, fun _ => 0, ⟨[], 0, upd_same, KO.nil, .nil⟩, (fun x h => nomatch h), (fun x h => nomatch h)⟩ (fun i H' _ h => h.1 _ _ hd) ?_ ?_
    · rintro i v H1 H2 hi ⟨s1, ba, hD, hb, inj⟩ ⟨rfl, k9, a9, v9, e9, rfl⟩
      obtain ⟨sp, hsp, rfl, hsA⟩ := keyAt e9
      have hnot : ¬ sp ∈ (g.map (·.1)).take i := fun z => by
        obtain ⟨j, hj, ej⟩ := List.getElem_of_mem z
        rw [List.length_take] at hj
        rw [List.getElem_take] at ej
        have e2 : (g.map (·.1))[j]? = (g.map (·.1))[i]? := by rw [hsp, ← ej, List.getElem?_eq_getElem]
        have := (List.getElem?_inj (by omega) OK.nd).mp e2
        omega
      have hil : i < (g.map (·.1)).length := (List.getElem?_eq_some_iff.mp hsp).1
      refine ⟨rfl, ?_⟩
      refine ⟨_, rfl, Nat.zero_le _, fun p np => ?_⟩
      have sp1 := same_new (o := .lst []) np
      obtain ⟨esD, epD, hDD, koD, prD⟩ := id (hD.same sp1)
      have lD : esD.length ≤ i := by
        rw [Paired.length prD, List.length_take]
        omega
      refine ⟨a9, spk sp, esD, epD, rfl, hDD, koD, keyA_spot (sp1 _ _ (s1 _ _ hsA)), by rw [entF_keys prD]; exact fun z => hnot (mem_spk.mp z), by omega, fun ep' => ?_⟩
      have tpP := Tups.put hDD (u := DX P w D (esD ++ [(spk sp, a9, V.ref p)]) ep') (fun _ z => nomatch z)
      have npD : p ≠ D := by
        obtain ⟨_, _, z, _⟩ := hD
        exact Ne.symm (ne_new z np)
      have eold : ∀ x ∈ (g.map (·.1)).take i, set1 ba sp p x = ba x := fun x hx => set1_ne (fun z => hnot (z ▸ hx))
      refine ⟨same_mut (s1.trans sp1) nD, set1 ba sp p, ⟨_, ep', upd_same, (koD.tups tpP).snoc ((keyA_spot (sp1 _ _ (s1 _ _ hsA))).tups tpP), ?_⟩, fun x hx => ?_, fun x hx y hy e => ?_⟩
      · rw [take_snoc hsp]
        exact Paired.snoc (entF_congr prD fun x hx => by rw [eold x hx]) ⟨rfl, by show V.ref p = V.ref (set1 ba sp p sp); rw [set1_same]⟩
      · rw [take_snoc hsp] at hx
        rcases List.mem_append.mp hx with z | z
        · rw [eold x z]
          obtain ⟨h1, h2, h3⟩ := hb x z
          exact ⟨up_ne (sp1 _ _ h1) h3, h2, h3⟩
        · rw [List.mem_singleton.mp z, set1_same]
          exact ⟨up_ne (new_at np) npD, s1.free np, npD⟩
      · rw [take_snoc hsp] at hx hy
        have pold : ∀ x ∈ (g.map (·.1)).take i, ba x ≠ p := fun x hx => ne_new (hb x hx).1 np
        rcases List.mem_append.mp hx with z | z <;> rcases List.mem_append.mp hy with z2 | z2
        · rw [eold x z, eold y z2] at e
          exact inj x z y z2 e
        · rw [List.mem_singleton.mp z2, set1_same, eold x z] at e
          exact absurd e (pold x z)
        · rw [List.mem_singleton.mp z, set1_same, eold y z2] at e
          exact absurd e.symm (pold y z2)
        · rw [List.mem_singleton.mp z, List.mem_singleton.mp z2]
    rintro H1 ⟨s1, ba, hD, hb, inj⟩
    rw [les, ← lnodes, List.take_length] at hD hb inj
    refine ⟨_, rfl, d, es, ep, rfl, s1 _ _ hd, ?_⟩
    refine for_it walk_dxi (fun i σ H' => Same H H' ∧ FD P w H' D (g.map (·.1)) (fun x => .ref (ba x)) ∧ (∃ bk : List Int → List (List Int), BkAt H' (g.map (·.1)) ba bk ∧ (∀ u ∈ (g.map (·.1)).take i, ∀ ke ∈ mvG g u, u ∈ bk ke.2) ∧ (∀ v ∈ g.map (·.1), ∀ u ∈ bk v, u ∈ g.map (·.1)) ∧ ∀ v, (bk v).length ≤ 1000 * i) ∧
        ∃ x2 x3 x4 x5 x6 x7 x8 x9 xa, σ = [some (.ref d), some (.ref D), x2, x3, x4, x5, x6, x7, x8, x9, xa])
      ⟨s1, hD, ⟨fun _ => [], fun v hv => ⟨[], (hb v hv).1, .nil⟩, (fun u hu => nomatch hu), (fun v hv u hu => nomatch hu), fun v => Nat.zero_le _⟩, _, _, _, _, _, _, _, _, _, rfl⟩ (fun i σ H' _ h => h.1 _ _ hd) ?_ ?_
    · rintro i v σ H2 H3 hi ⟨s2, hD2, ⟨bk, hbk, ed, sub, ln⟩, x2, x3, x4, x5, x6, x7, x8, x9, xa, rfl⟩ ⟨Tp, k9, a9, v9, e9, rfl, nTp, rfl⟩
      obtain ⟨u, hu, rfl, huA⟩ := keyAt e9
      have hun := List.mem_of_getElem? hu
      obtain ⟨ge, hge, hE⟩ := L2.paired_get prT e9
      obtain ⟨hE1, ml, mas, hE2, hml, prml⟩ := hE
      have eu : ge.1 = u := by
        rw [List.getElem?_map, hge] at hu
        exact Option.some.inj (show some ge.1 = some u from hu)
      have emv : mvG g u = ge.2 := by rw [← eu]; exact mvG_of OK.nd (List.mem_of_getElem? hge)
      rw [← emv] at prml
      have hv9 : v9 = .ref ml := hE2
      subst hv9
      obtain ⟨l1000, mcl⟩ := OK.mv hun
      have hil : i < (g.map (·.1)).length := (List.getElem?_eq_some_iff.mp hu).1
      have sT := same_new (o := .tup [V.ref a9, V.ref ml]) nTp
      have s3 := s2.trans sT
      refine ⟨Tp, _, rfl, SqT.of (new_at nTp), rfl, _, _, rfl, _, _, rfl, rfl, ?_⟩
      refine ⟨_, rfl, ml, rfl, ⟨_, SqL.of (s3 _ _ hml)⟩, ?_⟩
      refine for_it walk_list (fun j σ H' => Same H H' ∧ FD P w H' D (g.map (·.1)) (fun x => .ref (ba x)) ∧ (∃ bk : List Int → List (List Int), BkAt H' (g.map (·.1)) ba bk ∧ (∀ u ∈ (g.map (·.1)).take i, ∀ ke ∈ mvG g u, u ∈ bk ke.2) ∧ (∀ ke ∈ (mvG g u).take j, u ∈ bk ke.2) ∧ (∀ v ∈ g.map (·.1), ∀ u ∈ bk v, u ∈ g.map (·.1)) ∧ ∀ v, (bk v).length ≤ 1000 * i + j) ∧
          ∃ x2 x3 x4 x7 x8 x9 xa, σ = [some (.ref d), some (.ref D), x2, x3, x4, some (.ref a9), some (.ref ml), x7, x8, x9, xa])
        ⟨s3, hD2.same sT, ⟨bk, hbk.same sT, ed, (fun ke h => nomatch h), sub, fun v => by have := ln v; omega⟩, _, _, _, _, _, _, _, rfl⟩ (fun j σ H' _ h => SqL.of (h.1 _ _ hml)) ?_ ?_
      · rintro j v σ H4 H5 hj ⟨s4, hD4, ⟨bk, hbk, ed, ed2, sub, ln⟩, x2, x3, x4, x7, x8, x9, xa, rfl⟩ ⟨rfl, e1⟩
        obtain ⟨ma, hma, rfl⟩ := map_ref e1
        obtain ⟨ke, hke, mb, ec, hm1, hm2⟩ := L2.paired_get prml hma
        have hkm := List.mem_of_getElem? hke
        have hen := mcl ke hkm
        have hec : SpotAt H5 ec ke.2 := s4 _ _ hm2
        obtain ⟨es2, ep2, hDD, ko2, pr2⟩ := id hD4
        obtain ⟨a2, hmem2⟩ := entF_get pr2 hen
        refine ⟨_, rfl, _, rfl, ma, _, _, _, rfl, rfl, SqT.of (s4 _ _ hm1), atI_nat (j := 2) rfl, D, ec, spk ke.2, es2, ep2, a2, _, rfl, rfl, hDD, ko2, keyA_spot hec, hmem2, ?_⟩
        obtain ⟨as, hbl, prbl⟩ := hbk ke.2 hen
        have jl : j < 1000 := by
          have := (List.getElem?_eq_some_iff.mp hke).1
          omega
        have las := Paired.length prbl
        have lbk := ln ke.2
        refine ⟨_, rfl, .inl ⟨rfl, _, SqL.of hbl⟩, _, rfl, ba ke.2, _, _, rfl, rfl, hbl, by rw [List.length_map]; omega, ?_⟩
        have tpP := Tups.put hbl (u := .lst (as.map V.ref ++ [V.ref a9])) (fun _ z => nomatch z)
        have hfree := (hb ke.2 hen).2.1
        have nbD := (hb ke.2 hen).2.2
        refine ⟨same_mut s4 hfree, hD4.tups (upd_ne (Ne.symm nbD)) tpP, ⟨set1 bk ke.2 (bk ke.2 ++ [u]), fun v hv => ?_, fun u' hu' ke' hk' => ?_, fun ke' hk' => ?_, fun v hv u' hu' => ?_, fun v => ?_⟩, _, _, _, _, _, _, _, rfl⟩
        · by_cases ev : v = ke.2
          · subst ev
            rw [set1_same]
            exact ⟨as ++ [a9], by rw [upd_same, List.map_append]; rfl, Paired.snoc (Paired.mapP prbl fun _ _ z => tpP _ _ z) (tpP _ _ (s4 _ _ huA))⟩
          · rw [set1_ne ev]
            obtain ⟨as', h1, h2⟩ := hbk v hv
            exact ⟨as', up_ne h1 (fun z => ev (inj v hv _ hen z)), Paired.mapP h2 fun _ _ z => tpP _ _ z⟩
        · have z := ed u' hu' ke' hk'
          by_cases ev : ke'.2 = ke.2
          · rw [ev, set1_same]
            rw [ev] at z
            exact List.mem_append_left _ z
          · rw [set1_ne ev]
            exact z
        · rw [take_snoc hke] at hk'
          rcases List.mem_append.mp hk' with y | y
          · have z := ed2 ke' y
            by_cases ev : ke'.2 = ke.2
            · rw [ev, set1_same]
              exact List.mem_append_right _ (by simp)
            · rw [set1_ne ev]
              exact z
          · rw [List.mem_singleton.mp y, set1_same]
            exact List.mem_append_right _ (by simp)
        · by_cases ev : v = ke.2
          · rw [ev, set1_same] at hu'
            rcases List.mem_append.mp hu' with y | y
            · exact sub _ hen u' y
            · rw [List.mem_singleton.mp y]
              exact hun
          · rw [set1_ne ev] at hu'
            exact sub v hv u' hu'
        · by_cases ev : v = ke.2
          · rw [ev, set1_same, List.length_append, List.length_singleton]
            omega
          · rw [set1_ne ev]
            have := ln v
            omega
      · rintro σ H4 ⟨s4, hD4, ⟨bk, hbk, ed, ed2, sub, ln⟩, x2, x3, x4, x7, x8, x9, xa, rfl⟩
        have lml : (mas.map V.ref).length = (mvG g u).length := by rw [List.length_map]; exact Paired.length prml
        rw [lml] at ed2 ln
        rw [List.take_length] at ed2
        refine ⟨s4, hD4, ⟨bk, hbk, fun u' hu' ke hk => ?_, sub, fun v => by have := ln v; omega⟩, _, _, _, _, _, _, _, _, _, rfl⟩
        rw [take_snoc hu] at hu'
        rcases List.mem_append.mp hu' with z | z
        · exact ed u' z ke hk
        · rw [List.mem_singleton.mp z] at hk ⊢
          exact ed2 ke hk
    rintro σ H2 ⟨s2, hD2, ⟨bk, hbk, ed, sub, ln⟩, x2, x3, x4, x5, x6, x7, x8, x9, xa, rfl⟩
    rw [les, ← lnodes, List.take_length] at ed
    intro Nd epn nNd
    have sN : Same H2 (upd H2 Nd (DX P w Nd [] epn)) := same_new nNd
    have nNd0 := s2.free nNd
    have sH3 := s2.trans sN
    have nbN : ∀ v ∈ g.map (·.1), ba v ≠ Nd := fun v hv => by
      obtain ⟨_, h1, _⟩ := hbk v hv
      exact ne_new h1 nNd
    have nDN : D ≠ Nd := by
      obtain ⟨_, _, z, _⟩ := hD2
      exact ne_new z nNd
    refine ⟨_, rfl, d, g, rfl, hTab.same sH3, OK, fun H4 L oas ord s4 nL hL prO memO lO => ⟨L, _, rfl, SqL.of hL, fun p np => ?_⟩⟩
    have s5 := s4.trans (same_new (o := .lst (oas.map V.ref).reverse) np)
    have hp : (upd H4 p (.lst (oas.map V.ref).reverse)) p = some (.lst (oas.reverse.map V.ref)) := by rw [upd_same, List.map_reverse]
    have sN5 := sN.trans s5
    have hbk5 := hbk.same sN5
    have hD5 := hD2.same sN5
    have sH5 := s2.trans sN5
    have hN5 : FD P w _ Nd [] (fun x => natV ((fun _ => 0 : List Int → Nat) x)) := ⟨[], epn, s5 _ _ upd_same, KO.nil, .nil⟩
    have prR : Paired (SpotAt _) oas.reverse ord.reverse := paired_reverse (Paired.mapP prO fun a b z => (same_new (o := .lst (oas.map V.ref).reverse) np _ _ z : SpotAt (upd H4 p (.lst (oas.map V.ref).reverse)) a b))
    have npD : p ≠ D := by
      obtain ⟨_, _, z, _⟩ := hD2.same (sN.trans s4)
      exact Ne.symm (ne_new z np)
    have npN : p ≠ Nd := Ne.symm (ne_new (s4 _ _ (upd_same (H := H2) (a := Nd) (o := DX P w Nd [] epn))) np)
    refine ⟨p, rfl, ⟨_, SqL.of hp⟩, ?_⟩
    generalize upd H4 p (.lst (oas.map V.ref).reverse) = H5 at s5 hp sN5 hbk5 hD5 sH5 hN5 prR ⊢
    have lor : (oas.reverse.map V.ref).length = ord.reverse.length := by rw [List.length_map]; exact Paired.length prR
    refine for_it walk_list (fun i σ H' => SameX Nd H5 H' ∧ (∃ (l : List (List Int)) (num : List Int → Nat) (many : Nat), FD P w H' Nd l (fun x => natV (num x)) ∧ CoS (g.map (·.1)) bk l [] num many ∧ (∀ x ∈ ord.reverse.take i, x ∈ l) ∧
        ∃ x4 x5 x6 x7 x8 x9 xa, σ = [some (.ref d), some (.ref D), some (.ref Nd), some (natV many), x4, x5, x6, x7, x8, x9, xa]))
      ⟨SameX.refl _ _, [], fun _ => 0, 0, hN5, ⟨(fun x h => nomatch h), List.nodup_nil, (fun x h => nomatch h), (fun x h => nomatch h), (fun x h => nomatch h), Nat.le_refl _⟩, (fun x h => nomatch h), _, _, _, _, _, _, _, rfl⟩ (fun i σ H' _ h => SqL.of (h.1 _ _ hp npN)) ?_ ?_
    · rintro i v σ H6 H7 hi ⟨s6, l, num, many, hN, cs, rsub, x4, x5, x6, x7, x8, x9, xa, rfl⟩ ⟨rfl, e1⟩
      obtain ⟨ra, hra, rfl⟩ := map_ref e1
      obtain ⟨root, hroot, hrA⟩ := L2.paired_get prR hra
      have hrn : root ∈ g.map (·.1) := (memO root).mp (List.mem_reverse.mp (List.mem_of_getElem? hroot))
      have nrN : ra ≠ Nd := by
        obtain ⟨_, _, z, _⟩ := hN5
        exact ne_of hrA z (by intro y; cases y)
      have hrA7 : SpotAt H7 ra root := s6 _ _ hrA nrN
      obtain ⟨esN, epN, hNN, koN, prN⟩ := id hN
      have lN : esN.length = l.length := Paired.length prN
      have ll : l.length ≤ 1458 := by
        have := len_sub cs.nd cs.sub
        rw [lnodes] at this
        omega
      refine ⟨_, rfl, _, rfl, ra, Nd, spk root, esN, epN, rfl, rfl, hNN, koN, keyA_spot hrA7, _, rfl, ?_⟩
      rw [entF_keys prN]
      have tsub : ∀ {l' : List (List Int)}, (∀ x ∈ l, x ∈ l') → root ∈ l' → ∀ x ∈ ord.reverse.take (i + 1), x ∈ l' := fun h1 h2 x hx => by
        rw [take_snoc hroot] at hx
        rcases List.mem_append.mp hx with z | z
        · exact h1 x (rsub x z)
        · rw [List.mem_singleton.mp z]
          exact h2
      by_cases hin : root ∈ l
      · rw [show cond false (!decide (spk root ∈ List.map spk l)) (decide (spk root ∈ List.map spk l)) = true from decide_eq_true (mem_spk.mpr hin)]
        exact iteT ⟨s6, l, num, many, hN, cs, tsub (fun x h => h) hin, _, _, _, _, _, _, _, rfl⟩
      · rw [show cond false (!decide (spk root ∈ List.map spk l)) (decide (spk root ∈ List.map spk l)) = false from decide_eq_false (fun z => hin (mem_spk.mp z))]
        refine iteF ⟨_, rfl, _, rfl, _, rfl, Nd, ra, spk root, esN, epN, rfl, rfl, hNN, koN, keyA_spot hrA7, by rw [entF_keys prN]; exact fun z => hin (mem_spk.mp z), by omega, fun epE => ?_⟩
        have tpE := Tups.put hNN (u := DX P w Nd (esN ++ [(spk root, ra, natV many)]) epE) (fun _ z => nomatch z)
        have csE := cs.add hrn hin
        have hNE : FD P w (upd H7 Nd (DX P w Nd (esN ++ [(spk root, ra, natV many)]) epE)) Nd (l ++ [root]) (fun x => natV (set1 num root many x)) := ⟨_, epE, upd_same, (koN.tups tpE).snoc ((keyA_spot hrA7).tups tpE),
          Paired.snoc (entF_congr prN fun x hx => by show natV (set1 num root many x) = natV (num x); rw [set1_ne (fun z => hin (by rw [← z]; exact hx))]) ⟨rfl, by show natV many = natV (set1 num root many root); rw [set1_same]⟩⟩
        have sE : SameX Nd H5 (upd H7 Nd (DX P w Nd (esN ++ [(spk root, ra, natV many)]) epE)) := s6.self
        have hrE : SpotAt (upd H7 Nd (DX P w Nd (esN ++ [(spk root, ra, natV many)]) epE)) ra root := tpE _ _ hrA7
        refine ⟨_, rfl, by show 1 ≤ sizeLine; decide, fun Wd nWd => ?_⟩
        have sW := same_new (o := .lst [V.ref ra]) nWd
        have nWN : Wd ≠ Nd := by
          obtain ⟨_, _, z, _⟩ := hNE
          exact Ne.symm (ne_new z nWd)
        have nW5 : H5 Wd = none := sE.free nWd nWN
        refine ⟨CoI P w H5 (g.map (·.1)) d D Nd Wd bk many (ord.reverse.take (i + 1)), ⟨_, l ++ [root], [] ++ [root], set1 num root many, [ra], rfl, sE.same sW, hNE.same sW, upd_same, Paired.cons (F := SpotAt _) (show SpotAt _ ra root from sW _ _ hrE) .nil, csE, tsub (fun x h => List.mem_append_left _ h) (List.mem_append_right _ (by simp)), _, _, _, _, _, _, rfl⟩, ?_⟩
        clear sW hrE sE hNE csE tpE
        rintro n σ H8 ⟨l, wt, num, was, rfl, s8, hN8, hW8, prW, cs8, rs8, x4, x5, x6, x7, x9, xa, rfl⟩
        refine ⟨_, rfl, !(was.map V.ref).isEmpty, .inl ⟨_, SqL.of hW8, rfl⟩, ?_⟩
        have lwa := Paired.length prW
        rcases List.eq_nil_or_concat wt with rfl | ⟨wt1, sx, rfl⟩
        · have ec : was = [] := List.length_eq_zero_iff.mp lwa
          subst ec
          refine iteF ⟨_, rfl, _, _, rfl, rfl, ?_⟩
          exact ⟨s8, l, num, many + 1, hN8, ⟨cs8.sub, cs8.nd, fun x hx => Nat.le_succ_of_le (cs8.le x hx), (fun x h => nomatch h), cs8.fl, Nat.zero_le _⟩, rs8, _, _, _, _, _, _, _, rfl⟩
        · rw [List.concat_eq_append] at prW cs8 lwa ⊢
          obtain ⟨was1, sa, rfl, prW1, hsa⟩ := paired_last prW
          have et : (!((was1 ++ [sa]).map V.ref).isEmpty) = true := by rw [List.map_append]; simp
          rw [et]
          refine iteT ⟨fun σ' H' => ∃ m', m' < 2 * (1458 - l.length) + (wt1 ++ [sx]).length ∧ CoI P w H5 (g.map (·.1)) d D Nd Wd bk many (ord.reverse.take (i + 1)) m' σ' H', fun σ' H' h => h, ?_⟩
          have ew : ((was1 ++ [sa]).map V.ref)[((was1 ++ [sa]).map V.ref).length - 1]? = some (.ref sa) := by rw [List.map_append]; simp
          have ed2 : ((was1 ++ [sa]).map V.ref).dropLast = was1.map V.ref := by rw [List.map_append]; simp
          refine ⟨_, rfl, .inl ⟨rfl, _, SqL.of hW8⟩, Wd, _, .ref sa, rfl, rfl, hW8, ew, ?_⟩
          rw [ed2]
          obtain ⟨hsl, hsm⟩ := cs8.wl sx (by simp)
          have hsn := cs8.sub sx hsl
          have tpW : Tups H8 (upd H8 Wd (.lst (was1.map V.ref))) := Tups.put hW8 (fun _ z => nomatch z)
          have s9 : SameX Nd H5 (upd H8 Wd (.lst (was1.map V.ref))) := s8.mut nW5
          have hN9 := hN8.tups (upd_ne (o := .lst (was1.map V.ref)) (Ne.symm nWN)) tpW
          have hW9 := upd_same (H := H8) (a := Wd) (o := .lst (was1.map V.ref))
          have prW9 := Paired.mapP prW1 fun a b z => (tpW _ _ z : SpotAt (upd H8 Wd (.lst (was1.map V.ref))) a b)
          have hsa9 : SpotAt (upd H8 Wd (.lst (was1.map V.ref))) sa sx := tpW _ _ hsa
          have lw1 : was1.length = wt1.length := Paired.length prW1
          have wle8 := cs8.wle
          rw [List.length_append, List.length_singleton] at wle8
          generalize upd H8 Wd (.lst (was1.map V.ref)) = H9 at tpW s9 hN9 hW9 prW9 hsa9 ⊢
          obtain ⟨esB, epB, hDB, koB, prB⟩ := id hD5
          obtain ⟨aB, hmB⟩ := entF_get prB hsn
          obtain ⟨bas, hbl, prbl⟩ := hbk5 sx hsn
          have nblN : ba sx ≠ Nd := nbN sx hsn
          have ko9 : KO H9 esB := fun x hx => (koB x hx).tups' fun a xs h => s9 _ _ h (by
            obtain ⟨_, _, z, _⟩ := hN5
            exact ne_of h z (by intro y; cases y))
          refine ⟨_, rfl, _, rfl, D, sa, spk sx, esB, epB, aB, _, rfl, rfl, s9 _ _ hDB nDN, ko9, keyA_spot hsa9, hmB, ba sx, rfl, ⟨_, SqL.of (s9 _ _ hbl nblN)⟩, ?_⟩
          refine for_it walk_list (fun j σ H' => SameX Nd H5 H' ∧ (∃ (l2 wt2 : List (List Int)) (num2 : List Int → Nat) (was2 : List Addr), 2 * (1458 - l2.length) + wt2.length < 2 * (1458 - l.length) + (wt1 ++ [sx]).length ∧ FD P w H' Nd l2 (fun x => natV (num2 x)) ∧ H' Wd = some (.lst (was2.map V.ref)) ∧ Paired (SpotAt H') was2 wt2 ∧
                (∀ x ∈ l2, x ∈ g.map (·.1)) ∧ l2.Nodup ∧ (∀ x ∈ l2, num2 x ≤ many) ∧ (∀ x ∈ wt2, x ∈ l2 ∧ num2 x = many) ∧ (∀ v ∈ l2, v ∈ wt2 ∨ v = sx ∨ ∀ u ∈ bk v, u ∈ l2 ∧ num2 u ≤ num2 v) ∧ wt2.length ≤ l2.length ∧ sx ∈ l2 ∧ num2 sx = many ∧ (∀ x ∈ ord.reverse.take (i + 1), x ∈ l2) ∧ ∀ u ∈ (bk sx).take j, u ∈ l2) ∧
              ∃ x4 x5 x6 x7 x9 xa, σ = [some (.ref d), some (.ref D), some (.ref Nd), some (natV many), x4, x5, x6, x7, some (.ref Wd), x9, xa])
            ⟨s9, ⟨l, wt1, num, was1, by rw [List.length_append, List.length_singleton]; omega, hN9, hW9, prW9, cs8.sub, cs8.nd, cs8.le, fun x hx => cs8.wl x (List.mem_append_left _ hx), fun v hv => (cs8.fl v hv).elim (fun z => (List.mem_append.mp z).elim .inl fun y => .inr (.inl (List.mem_singleton.mp y))) fun z => .inr (.inr z), by omega, hsl, hsm, rs8, fun u h => nomatch h⟩, _, _, _, _, _, _, rfl⟩ (fun j σ H' _ h => SqL.of (h.1 _ _ hbl nblN)) ?_ ?_
          · rintro j v σ HA HB hj ⟨sA, ⟨l2, wt2, num2, was2, mz, hNA, hWA, prA, c1, c2, c3, c4, c5, c6, c7, c8, c9, c10⟩, x4, x5, x6, x7, x9, xa, rfl⟩ ⟨rfl, e1⟩
            obtain ⟨ua, hua, rfl⟩ := map_ref e1
            obtain ⟨u, hu, huA⟩ := L2.paired_get prbl hua
            have hub := List.mem_of_getElem? hu
            have hun := sub sx hsn u hub
            have nuN : ua ≠ Nd := by
              obtain ⟨_, _, z, _⟩ := hN5
              exact ne_of huA z (by intro y; cases y)
            have huB : SpotAt HB ua u := sA _ _ huA nuN
            obtain ⟨esC, epC, hNC, koC, prC⟩ := id hNA
            have lC : esC.length = l2.length := Paired.length prC
            have ll2 : l2.length ≤ 1458 := by
              have := len_sub c2 c1
              rw [lnodes] at this
              omega
            have lw2 := Paired.length prA
            refine ⟨_, rfl, _, rfl, ua, Nd, spk u, esC, epC, rfl, rfl, hNC, koC, keyA_spot huB, _, rfl, ?_⟩
            rw [entF_keys prC]
            by_cases hin2 : u ∈ l2
            · rw [show cond true (!decide (spk u ∈ List.map spk l2)) (decide (spk u ∈ List.map spk l2)) = false from by rw [decide_eq_true (mem_spk.mpr hin2)]; rfl]
              refine iteF ⟨sA, ⟨l2, wt2, num2, was2, mz, hNA, hWA, prA, c1, c2, c3, c4, c5, c6, c7, c8, c9, fun x hx => ?_⟩, _, _, _, _, _, _, rfl⟩
              rw [take_snoc hu] at hx
              rcases List.mem_append.mp hx with z | z
              · exact c10 x z
              · rw [List.mem_singleton.mp z]
                exact hin2
            · rw [show cond true (!decide (spk u ∈ List.map spk l2)) (decide (spk u ∈ List.map spk l2)) = true from by rw [decide_eq_false (fun z => hin2 (mem_spk.mp z))]; rfl]
              refine iteT ⟨_, rfl, _, rfl, _, rfl, Nd, ua, spk u, esC, epC, rfl, rfl, hNC, koC, keyA_spot huB, by rw [entF_keys prC]; exact fun z => hin2 (mem_spk.mp z), by omega, fun epE => ?_⟩
              have tpE := Tups.put hNC (u := DX P w Nd (esC ++ [(spk u, ua, natV many)]) epE) (fun _ z => nomatch z)
              have hWE := up_ne (u := DX P w Nd (esC ++ [(spk u, ua, natV many)]) epE) hWA nWN
              refine ⟨_, rfl, .inl ⟨rfl, _, SqL.of hWE⟩, _, rfl, Wd, _, _, rfl, rfl, hWE, by rw [List.length_map]; omega, ?_⟩
              have tpF := tpE.trans (Tups.put hWE (u := .lst (was2.map V.ref ++ [V.ref ua])) (fun _ z => nomatch z))
              have old : ∀ x ∈ l2, set1 num2 u many x = num2 x := fun x hx => set1_ne (fun z => hin2 (z ▸ hx))
              have l3 : (l2 ++ [u]).length ≤ 1458 := by
                have := len_sub (nodup_snoc c2 hin2) (b := g.map (·.1)) fun x hx => by
                  rcases List.mem_append.mp hx with z | z
                  · exact c1 x z
                  · rw [List.mem_singleton.mp z]
                    exact hun
                rw [lnodes] at this
                omega
              rw [List.length_append, List.length_singleton] at l3
              refine ⟨(sA.self).mut nW5, ⟨l2 ++ [u], wt2 ++ [u], set1 num2 u many, was2 ++ [ua], ?_, ⟨_, epE, up_ne upd_same (Ne.symm nWN), (koC.tups tpF).snoc ((keyA_spot huB).tups tpF), Paired.snoc (entF_congr prC fun x hx => by rw [old x hx]) ⟨rfl, by show natV many = natV (set1 num2 u many u); rw [set1_same]⟩⟩, by rw [upd_same, List.map_append]; rfl, Paired.snoc (Paired.mapP prA fun _ _ z => tpF _ _ z) (tpF _ _ huB), ?_, nodup_snoc c2 hin2, ?_, ?_, ?_, by rw [List.length_append, List.length_append]; exact Nat.succ_le_succ c6, List.mem_append_left _ c7, by rw [old _ c7]; exact c8, fun x hx => List.mem_append_left _ (c9 x hx), fun x hx => ?_⟩, _, _, _, _, _, _, rfl⟩
              · rw [List.length_append, List.length_singleton, List.length_append, List.length_singleton]
                omega
              · intro x hx
                rcases List.mem_append.mp hx with z | z
                · exact c1 x z
                · rw [List.mem_singleton.mp z]
                  exact hun
              · intro x hx
                rcases List.mem_append.mp hx with z | z
                · rw [old x z]
                  exact c3 x z
                · rw [List.mem_singleton.mp z, set1_same]
                  exact Nat.le_refl _
              · intro x hx
                rcases List.mem_append.mp hx with z | z
                · obtain ⟨h1, h2⟩ := c4 x z
                  exact ⟨List.mem_append_left _ h1, by rw [old x h1]; exact h2⟩
                · rw [List.mem_singleton.mp z, set1_same]
                  exact ⟨List.mem_append_right _ (by simp), rfl⟩
              · intro v hv
                rcases List.mem_append.mp hv with z | z
                · rcases c5 v z with y | y | y
                  · exact .inl (List.mem_append_left _ y)
                  · exact .inr (.inl y)
                  · exact .inr (.inr fun u' hu' => by
                      obtain ⟨h1, h2⟩ := y u' hu'
                      exact ⟨List.mem_append_left _ h1, by rw [old u' h1, old v z]; exact h2⟩)
                · exact .inl (List.mem_append_right _ z)
              · rw [take_snoc hu] at hx
                rcases List.mem_append.mp hx with z | z
                · exact List.mem_append_left _ (c10 x z)
                · exact List.mem_append_right _ z
          · rintro σ HA ⟨sA, ⟨l2, wt2, num2, was2, mz, hNA, hWA, prA, c1, c2, c3, c4, c5, c6, c7, c8, c9, c10⟩, x4, x5, x6, x7, x9, xa, rfl⟩
            have lbs : (bas.map V.ref).length = (bk sx).length := by rw [List.length_map]; exact Paired.length prbl
            rw [lbs, List.take_length] at c10
            refine ⟨_, mz, l2, wt2, num2, was2, rfl, sA, hNA, hWA, prA, ⟨c1, c2, c3, c4, fun v hv => ?_, c6⟩, c9, _, _, _, _, _, _, rfl⟩
            rcases c5 v hv with y | y | y
            · exact .inl y
            · rw [y]
              exact .inr fun u hu => ⟨c10 u hu, by rw [c8]; exact c3 u (c10 u hu)⟩
            · exact .inr y
    · rintro σ H6 ⟨s6, l, num, many, hN, cs, rsub, x4, x5, x6, x7, x8, x9, xa, rfl⟩
      rw [lor, List.take_length] at rsub
      have all : ∀ x, x ∈ l ↔ x ∈ g.map (·.1) := fun x => ⟨cs.sub x, fun h => rsub x (List.mem_reverse.mpr ((memO x).mpr h))⟩
      refine ⟨_, rfl, q _ Nd l num (SameX.same0 sH5 s6 nNd0) nNd0 hN cs.nd all fun u hu ke hk => ?_⟩
      have hv := (OK.mv hu).2 ke hk
      exact ((cs.fl ke.2 ((all _).mpr hv)).resolve_left fun z => nomatch z) u (ed u hu ke hk) |>.2
end
end Kn

end
section
set_option maxHeartbeats 4000000
/-! rank_table. -/
namespace Kn
open PySem PySem.Spec PyProof.Rows L2
theorem sc_RankTable : FnScope ["table", "numbers", "members", "best", "number", "spot", "group", "most", "main", "steps", "end"] ["table"] (defScope sRankTable) := ⟨rfl, rfl, rfl, by decide +kernel, rfl, by decide +kernel, by decide +kernel⟩
def GrpAt (H : Hp) (kvs : List (Key × V)) (xs : List (List Int)) (k : Int) : Prop := (valV kvs (.inl k) = none ∧ xs = []) ∨ ∃ gl as, valV kvs (.inl k) = some (.ref gl) ∧ H gl = some (.lst (as.map V.ref)) ∧ Paired (SpotAt H) as xs
theorem GrpAt.same {H H' : Hp} (s : Same H H') {kvs : List (Key × V)} {xs : List (List Int)} {k : Int} (h : GrpAt H kvs xs k) : GrpAt H' kvs xs k := by
  rcases h with h | ⟨gl, as, h1, h2, h3⟩
  · exact .inl h
  · exact .inr ⟨gl, as, h1, s _ _ h2, Paired.mapP h3 fun _ _ z => s _ _ z⟩
def grp (num : List Int → Nat) (l : List (List Int)) (k : Int) : List (List Int) := l.filter fun x => decide (((num x : Nat) : Int) = k)
theorem grp_snoc {num : List Int → Nat} {l : List (List Int)} {x : List Int} {k : Int} : grp num (l ++ [x]) k = grp num l k ++ (if ((num x : Nat) : Int) = k then [x] else []) := by
  unfold grp
  rw [List.filter_append, List.filter_cons]
  by_cases e : ((num x : Nat) : Int) = k
  · rw [if_pos e, decide_eq_true e]
    rfl
  · rw [if_neg e, decide_eq_false e]
    rfl
theorem mem_grp {num : List Int → Nat} {l : List (List Int)} {x : List Int} {k : Int} : x ∈ grp num l k ↔ x ∈ l ∧ ((num x : Nat) : Int) = k := by
  unfold grp
  rw [List.mem_filter, decide_eq_true_eq]
section
variable {P : Program} {w : World} {K : PySem.W.Frag} {mg : Str → Option Value} {base : Heap} {C CW : Addr}
def spRankTable (P : Program) (w : World) : Sp := fun vs H Q _ => ∃ d g, vs = [.ref d] ∧ TabAt P w H d g ∧ TabOk g ∧ (∀ ge ∈ g, ∀ ke ∈ ge.2, ke.1 = 0 ∨ ke.1 = 1) ∧ (g ≠ [] → ∀ H', Same H H' → Q .non H') ∧
  ∀ (H' : Hp) (rd : Addr) (l : List (List Int)) (rk : List Int → Int), Same H H' → H rd = none → FD P w H' rd l (fun x => .int (rk x)) → l.Nodup → (∀ x, x ∈ l ↔ x ∈ g.map (·.1)) → (∀ x ∈ g.map (·.1), 0 ≤ rk x) → (∀ u ∈ g.map (·.1), ∀ ke ∈ mvG g u, rk ke.2 + ke.1 ≤ rk u) → Q (.ref rd) H'
theorem ok_RankTable {f : Addr} {fd : FuncData} (F : FnP K "rank_table" "rank_table" sRankTable [] f fd) (T : Tx K mg) (C_components : Cal P w K mg base 2 "components" ["table"] (spComponents P w)) : FnOk P w K mg base CX0 3 f fd ["table"] (spRankTable P w) := by
  refine mk_fn F sc_RankTable (fun vs H Q E h => ?_) (fun cdv A outer s H vs Q E hr h => ?_)
  · obtain ⟨d, g, rfl, _⟩ := h
    rfl
  · obtain ⟨d, g, rfl, hTab, OK, m01, qN, q⟩ := h
    have hu := hu_of hr
    obtain ⟨es, ep, hd, ko, prT⟩ := id hTab
    have sl : (10000000 : Nat) < sizeLine := by decide
    have lnodes : (g.map (·.1)).length = g.length := List.length_map _
    have g1458 := OK.le
    refine ⟨_, (pss_cons (ps_set (i := 1) sc_RankTable.nd rfl (Or.inl rfl) (pc C_components hr (pa_cons (pv 0) pa_nil)))
        (pss_cons (ps_set (i := 2) sc_RankTable.nd rfl (Or.inl rfl) pe_dnewK)
        (pss_cons (ps_for PassesOwn.never rfl (pi_dxi (pv 1)) (pg_tup (n := 2) rfl (pgs_cons (pg_name (i := 5) sc_RankTable.nd rfl (Or.inl rfl)) (pgs_cons (pg_name (i := 4) sc_RankTable.nd rfl (Or.inl rfl)) pgs_nil)))
        (pss_cons (ps_set (i := 6) sc_RankTable.nd rfl (Or.inl rfl) (pe_dsetd (pv 2) (pv 4) (pe_lst pa_nil) ⟨rfl, rfl, rfl, rfl⟩))
        (pss_one (ps_expr (pe_bm PySem.F.plainAttrs_list PySem.F.slot_list_append PySem.F.type_list_append mt_append (pv 6) (pa_cons (pv 5) pa_nil))))))
        (pss_cons (ps_set (i := 3) sc_RankTable.nd rfl (Or.inr rfl) pe_dnewK)
        (pss_cons (ps_for PassesOwn.never rfl (pi_list (pe_callBK (cr_sortedRev (b := true)) (by rfl) T.sorted (by decide +kernel) (pa_cons (pe_callTy (call_list_dK rfl) (by rfl) T.list (by decide +kernel) (pa_cons (pv 2) pa_nil)) pa_nil) (pk_cons pe_bl pk_nil))) (pg_name (i := 4) sc_RankTable.nd rfl (Or.inl rfl))
        (pss_cons (ps_set (i := 7) sc_RankTable.nd rfl (Or.inl rfl) pe_int)
        (pss_cons (ps_for PassesOwn.never rfl (pi_list (pe_dget hu (pv 2) (pv 4) (fun _ _ => rfl))) (pg_name (i := 5) sc_RankTable.nd rfl (Or.inl rfl))
        (pss_one (ps_for PassesOwn.never rfl (pi_list (pe_ix (ix_dx hr) (pv 0) (pv 5) (fun _ _ => rfl))) (pg_tup (n := 3) rfl (pgs_cons (pg_name (i := 8) sc_RankTable.nd rfl (Or.inl rfl)) (pgs_cons (pg_name (i := 9) sc_RankTable.nd rfl (Or.inl rfl)) (pgs_cons (pg_name (i := 10) sc_RankTable.nd rfl (Or.inl rfl)) pgs_nil))))
        (pss_one (ps_if (pt_cmpR op_ne (pe_ix (ix_dx hr) (pv 1) (pv 10) (fun _ _ => rfl)) (pv 4) (nomark _)) (pss_one (ps_set (i := 7) sc_RankTable.nd rfl (Or.inl rfl) (pe_callB (call_max2 rfl) (by rfl) T.max (by decide +kernel) (pa_cons (pv 7) (pa_cons (pe_op op_add (pv 8) (pe_dget hu (pv 3) (pe_ix (ix_dx hr) (pv 1) (pv 10) (fun _ _ => rfl)) (fun _ _ => rfl))) pa_nil))))) (pss_one (ps_if (pt_cmpR op_eq (pv 8) pe_int (nomark _)) (pss_one (ps_ret pe_non)) pss_nil)))))))
        (pss_one (ps_dput hu (pv 3) (pv 4) (pv 7) rfl)))))
        (pss_one (ps_ret (pe_dcX hr rfl sc_RankTable.nd (pi_dxi (pv 1)) (blkOk_by (own := [("spot", 5), ("number", 4)]) (N := ["table", "numbers", "members", "best", "number", "spot", "group", "most", "main", "steps", "end"]) (sc := defScope sRankTable) (by decide +kernel)) (fun _ _ _ _ _ => (pg_tupK (K := K) (n := 2) rfl (pgs_cons (pg_name (i := 5) sc_RankTable.nd rfl (Or.inl rfl)) (pgs_cons (pg_name (i := 4) sc_RankTable.nd rfl (Or.inl rfl)) pgs_nil)))) (fun _ _ _ _ _ => pts_nil) (fun _ _ _ _ _ => (pv 5)) (fun _ _ _ _ _ => (pe_dget hu (pv 3) (pv 4) (fun _ _ => rfl))))))))))), ?_⟩
    refine ⟨_, rfl, d, g, rfl, hTab, OK, fun H1 Nd l num s1 nNd hN ndl meml ord => ?_⟩
    obtain ⟨esN, epN, hNd, koN, prN⟩ := id hN
    have lN : esN.length = l.length := Paired.length prN
    have ll : l.length ≤ 1458 := by
      have := len_sub ndl fun x hx => (meml x).mp hx
      omega
    have keyN : ∀ {i : Nat} {k9 : NestedKey} {a9 : Addr} {v9 : V}, esN[i]? = some (k9, a9, v9) → ∃ sp, l[i]? = some sp ∧ k9 = spk sp ∧ v9 = natV (num sp) ∧ SpotAt H1 a9 sp := fun {i k9 a9 v9} e9 => by
      obtain ⟨sp, h1, h2, h3⟩ := L2.paired_get prN e9
      have e2 : k9 = spk sp := h2
      subst e2
      exact ⟨sp, h1, rfl, h3, spotAt_of (koN _ (List.mem_of_getElem? e9))⟩
    intro Mb nMb
    have sM := same_new (o := .dK []) nMb
    have nNM : Nd ≠ Mb := ne_new hNd nMb
    refine ⟨_, rfl, Nd, esN, epN, rfl, sM _ _ hNd, ?_⟩
    refine for_it walk_dxi (fun i σ H' => Same H1 H' ∧ (∃ (kvs : List (Key × V)) (ks : List Int), H' Mb = some (.dK kvs) ∧ kvs.length ≤ i ∧ kvs.map (·.1) = ks.map Sum.inl ∧ ks.Nodup ∧ (∀ k, k ∈ ks ↔ ∃ x ∈ l.take i, ((num x : Nat) : Int) = k) ∧ (∀ k, GrpAt H' kvs (grp num (l.take i) k) k) ∧
          (∀ k gl, valV kvs (.inl k) = some (.ref gl) → H1 gl = none ∧ gl ≠ Mb) ∧ ∀ k k' gl, valV kvs (.inl k) = some (.ref gl) → valV kvs (.inl k') = some (.ref gl) → k = k') ∧
        ∃ x3 x4 x5 x6 x7 x8 x9 xa, σ = [some (.ref d), some (.ref Nd), some (.ref Mb), x3, x4, x5, x6, x7, x8, x9, xa])
      ⟨sM, ⟨[], [], upd_same, Nat.le_refl _, rfl, List.nodup_nil, fun k => ⟨(fun h => nomatch h), fun ⟨x, h, _⟩ => nomatch h⟩, fun k => .inl ⟨rfl, rfl⟩, (fun k gl h => nomatch h), (fun k k' gl h => nomatch h)⟩, _, _, _, _, _, _, _, _, rfl⟩ (fun i σ H' _ h => h.1 _ _ hNd) ?_ ?_
    · rintro i v σ H2 H3 hi ⟨s2, ⟨kvs, ks, hM, hk, ekk, ndk, memk, gr, fr, inj⟩, x3, x4, x5, x6, x7, x8, x9, xa, rfl⟩ ⟨Tp, k9, a9, v9, e9, rfl, nTp, rfl⟩
      obtain ⟨sp, hsp, rfl, rfl, hsA⟩ := keyN e9
      have hil : i < l.length := (List.getElem?_eq_some_iff.mp hsp).1
      have sT := same_new (o := .tup [V.ref a9, natV (num sp)]) nTp
      have hTp := new_at nTp (o := .tup [V.ref a9, natV (num sp)])
      have hM3 := sT _ _ hM
      have s3 := s2.trans sT
      have gr3 : ∀ k, GrpAt (upd H2 Tp (.tup [V.ref a9, natV (num sp)])) kvs (grp num (l.take i) k) k := fun k => (gr k).same sT
      generalize upd H2 Tp (.tup [V.ref a9, natV (num sp)]) = H3 at sT hTp hM3 s3 gr3
      have hsA3 : SpotAt H3 a9 sp := s3 _ _ hsA
      have ng : ∀ k, grp num (l.take (i + 1)) k = grp num (l.take i) k ++ (if ((num sp : Nat) : Int) = k then [sp] else []) := fun k => by rw [take_snoc hsp, grp_snoc]
      refine ⟨Tp, _, rfl, SqT.of hTp, rfl, _, _, rfl, _, _, rfl, rfl, ?_⟩
      refine ⟨_, rfl, Mb, rfl, .inl ⟨_, .inl hM3⟩, _, rfl, Nat.zero_le _, fun p np => ?_⟩
      have sP := same_new (o := .lst []) np
      have lg : (grp num (l.take i) ((num sp : Nat) : Int)).length ≤ i := by
        unfold grp
        refine Nat.le_trans (List.length_filter_le _ _) ?_
        rw [List.length_take]
        omega
      refine ⟨kvs, .inl ((num sp : Nat) : Int), sP _ _ hM3, rfl, by omega, fun v hv => ?_, fun hn => ?_⟩
      · rcases gr3 ((num sp : Nat) : Int) with ⟨e, _⟩ | ⟨gl, as, e, hgl, prg⟩
        · rw [e] at hv
          cases hv
        · rw [e] at hv
          cases hv
          obtain ⟨f1, f2⟩ := fr _ _ e
          have hgl1 := sP _ _ hgl
          have lpr := Paired.length prg
          refine ⟨_, rfl, .inl ⟨rfl, _, SqL.of hgl1⟩, _, rfl, gl, _, _, rfl, rfl, hgl1, by rw [List.length_map]; omega, ?_⟩
          have tpP := (Tups.of sP).trans (Tups.put hgl1 (u := .lst (as.map V.ref ++ [V.ref a9])) (fun _ z => nomatch z))
          refine ⟨same_mut (s3.trans sP) f1, ⟨kvs, ks, by rw [upd_ne (Ne.symm f2)]; exact sP _ _ hM3, Nat.le_succ_of_le hk, ekk, ndk, fun k => ?_, fun k => ?_, fr, inj⟩, _, _, _, _, _, _, _, _, rfl⟩
          · rw [memk k]
            constructor
            · rintro ⟨x, hx, h⟩
              exact ⟨x, by rw [take_snoc hsp]; exact List.mem_append_left _ hx, h⟩
            · rintro ⟨x, hx, h⟩
              rw [take_snoc hsp] at hx
              rcases List.mem_append.mp hx with z | z
              · exact ⟨x, z, h⟩
              · rw [List.mem_singleton.mp z] at h
                have hkm : ((num sp : Nat) : Int) ∈ ks := by
                  have z2 := valV_in e
                  rw [ekk] at z2
                  obtain ⟨y, hy, e2⟩ := List.mem_map.mp z2
                  exact Sum.inl.inj e2 ▸ hy
                rw [h] at hkm
                exact (memk k).mp hkm
          · rw [ng k]
            by_cases ek : ((num sp : Nat) : Int) = k
            · subst ek
              rw [if_pos rfl]
              exact .inr ⟨gl, as ++ [a9], e, by rw [upd_same, List.map_append]; rfl, Paired.snoc (Paired.mapP prg fun _ _ z => tpP _ _ z) (tpP _ _ hsA3)⟩
            · rw [if_neg ek, List.append_nil]
              rcases gr3 k with h | ⟨g2, as2, e2, h2, p2⟩
              · exact .inl h
              · exact .inr ⟨g2, as2, e2, up_ne (sP _ _ h2) (fun z => ek (inj _ _ _ e (z ▸ e2))), Paired.mapP p2 fun _ _ z => tpP _ _ z⟩
      · have npM : p ≠ Mb := Ne.symm (ne_new hM3 np)
        have hp : (upd (upd H3 p (.lst [])) Mb (.dK (putK kvs (.inl ((num sp : Nat) : Int)) (.ref p)))) p = some (.lst []) := up_ne upd_same npM
        have g0 : grp num (l.take i) ((num sp : Nat) : Int) = [] := by
          rcases gr3 ((num sp : Nat) : Int) with ⟨_, e⟩ | ⟨gl, as, e, _⟩
          · exact e
          · rw [e] at hn
            cases hn
        refine ⟨_, rfl, .inl ⟨rfl, _, SqL.of hp⟩, _, rfl, p, _, _, rfl, rfl, hp, (by show 0 < sizeLine; decide), ?_⟩
        have tpP := ((Tups.of sP).trans (Tups.put (sP _ _ hM3) (u := .dK (putK kvs (.inl ((num sp : Nat) : Int)) (.ref p))) (fun _ z => nomatch z))).trans (Tups.put hp (u := .lst ([] ++ [V.ref a9])) (fun _ z => nomatch z))
        have ekp : putK kvs (.inl ((num sp : Nat) : Int)) (.ref p) = kvs ++ [(.inl ((num sp : Nat) : Int), .ref p)] := by
          unfold putK
          rw [valV_any, hn]
          rfl
        have nks : ¬ ((num sp : Nat) : Int) ∈ ks := fun z => valV_not hn (by rw [ekk]; exact List.mem_map.mpr ⟨_, z, rfl⟩)
        refine ⟨same_mut (same_mut (s3.trans sP) nMb) (s3.free np), ⟨_, ks ++ [((num sp : Nat) : Int)], by rw [upd_ne (Ne.symm npM)]; exact upd_same, Nat.le_trans (length_putK _ _ _) (Nat.succ_le_succ hk), by rw [ekp, List.map_append, List.map_append, ekk]; rfl, nodup_snoc ndk nks, fun k => ?_, fun k => ?_, fun k gl e => ?_, fun k k' gl e e' => ?_⟩, _, _, _, _, _, _, _, _, rfl⟩
        · rw [List.mem_append, List.mem_singleton, memk k, take_snoc hsp]
          constructor
          · rintro (⟨x, hx, h⟩ | rfl)
            · exact ⟨x, List.mem_append_left _ hx, h⟩
            · exact ⟨sp, List.mem_append_right _ (by simp), rfl⟩
          · rintro ⟨x, hx, h⟩
            rcases List.mem_append.mp hx with z | z
            · exact .inl ⟨x, z, h⟩
            · rw [List.mem_singleton.mp z] at h
              exact .inr h.symm
        · rw [ng k]
          by_cases ek : ((num sp : Nat) : Int) = k
          · subst ek
            rw [if_pos rfl, g0]
            exact .inr ⟨p, [a9], valV_put_same, upd_same, .cons (tpP _ _ hsA3 : SpotAt _ a9 sp) .nil⟩
          · rw [if_neg ek, List.append_nil]
            have ev : valV (putK kvs (.inl ((num sp : Nat) : Int)) (.ref p)) (.inl k) = valV kvs (.inl k) := by rw [valV_put, if_neg (fun z => ek (Sum.inl.inj z).symm)]
            rcases gr3 k with ⟨h1, h2⟩ | ⟨g2, as2, e2, h2, p2⟩
            · exact .inl ⟨ev.trans h1, h2⟩
            · exact .inr ⟨g2, as2, ev.trans e2, up_ne (up_ne (sP _ _ h2) (fr _ _ e2).2) (ne_new h2 np), Paired.mapP p2 fun _ _ z => tpP _ _ z⟩
        · rw [valV_put] at e
          split at e
          · cases e
            exact ⟨s3.free np, npM⟩
          · exact fr _ _ e
        · rw [valV_put] at e e'
          have old : ∀ x, valV kvs (.inl x) ≠ some (V.ref p) := fun x z => by
            rcases gr3 x with ⟨h1, _⟩ | ⟨g2, as2, e2, h2, _⟩
            · rw [h1] at z
              cases z
            · rw [e2] at z
              cases z
              rw [np] at h2
              cases h2
          split at e
          · next es =>
            cases e
            split at e'
            · next es' => rw [Sum.inl.inj es, Sum.inl.inj es']
            · exact absurd e' (old _)
          · split at e'
            · cases e'
              exact absurd e (old _)
            · exact inj _ _ _ e e'
    rintro σ H2 ⟨s2, ⟨kvs, ks, hM, hk, ekk, ndk, memk, gr, fr, inj⟩, x3, x4, x5, x6, x7, x8, x9, xa, rfl⟩
    rw [lN, List.take_length] at memk gr
    intro Bt nBt
    have sB := same_new (o := .dK []) nBt
    refine ⟨_, rfl, Mb, kvs, rfl, sB _ _ hM, fun p1 np1 => ?_⟩
    have ekl : (kvs.map fun kv => kV kv.1) = ks.map V.int := by
      have e1 : (kvs.map fun kv => kV kv.1) = (kvs.map (·.1)).map kV := by rw [List.map_map]; rfl
      rw [e1, ekk, List.map_map]
      rfl
    have sp1 := same_new (o := .lst (kvs.map fun kv => kV kv.1)) np1
    refine ⟨p1, ks, rfl, rfl, SqL.of (by rw [upd_same, ekl]), fun ns p2 perm ordB np2 => ?_⟩
    have sp2 := same_new (o := .lst (ns.map V.int)) np2
    have hp2 := new_at np2 (o := .lst (ns.map V.int))
    have s24 := (sB.trans sp1).trans sp2
    have hBt4 : (upd (upd (upd H2 Bt (.dK [])) p1 (.lst (kvs.map fun kv => kV kv.1))) p2 (.lst (ns.map V.int))) Bt = some (.dK []) := sp2 _ _ (sp1 _ _ upd_same)
    have s4 := s2.trans s24
    have nB1 : H1 Bt = none := s2.free nBt
    have hM4 := s24 _ _ hM
    have gr4 := fun k => (gr k).same s24
    have nBp : p2 ≠ Bt := Ne.symm (ne_new (sp1 _ _ (upd_same (H := H2) (a := Bt) (o := .dK []))) np2)
    have nBM : Mb ≠ Bt := ne_new hM nBt
    generalize upd (upd (upd H2 Bt (.dK [])) p1 (.lst (kvs.map fun kv => kV kv.1))) p2 (.lst (ns.map V.int)) = H4 at hp2 s24 hBt4 s4 hM4 gr4 ⊢
    have memn : ∀ k, k ∈ ns ↔ ∃ x ∈ l, ((num x : Nat) : Int) = k := fun k => perm.mem_iff.trans (memk k)
    have ndn : ns.Nodup := perm.nodup_iff.mpr ndk
    refine ⟨p2, rfl, ⟨_, SqL.of hp2⟩, ?_⟩
    have lns : (ns.map V.int).length = ns.length := List.length_map _
    have nle : ns.length ≤ 1458 := by
      have e1 := perm.length_eq
      have e2 := congrArg List.length ekk
      rw [List.length_map, List.length_map] at e2
      omega
    have desc : ns.Pairwise (· ≥ ·) := ordB
    have hdX : ∀ {H' : Hp}, SameX Bt H4 H' → H' d = some (DX P w d es ep) := fun s => s _ _ (s4 _ _ (s1 _ _ hd)) (ne_new (s1 _ _ hd) nB1)
    have hNX : ∀ {H' : Hp}, SameX Bt H4 H' → H' Nd = some (DX P w Nd esN epN) := fun s => s _ _ (s4 _ _ hNd) (ne_new hNd nB1)
    have hMX : ∀ {H' : Hp}, SameX Bt H4 H' → H' Mb = some (.dK kvs) := fun s => s _ _ hM4 nBM
    have tpX : ∀ {H' : Hp}, SameX Bt H4 H' → Tups H1 H' := fun s a xs h => s _ _ (s4 _ _ h) (ne_new h nB1)
    have tpX4 : ∀ {H' : Hp}, SameX Bt H4 H' → Tups H4 H' := fun s a xs h => s _ _ h (ne_of h hBt4 (by intro z; cases z))
    have koX : ∀ {H' : Hp}, SameX Bt H4 H' → KO H' es := fun s => (ko.tups (.of s1)).tups (tpX s)
    have koNX : ∀ {H' : Hp}, SameX Bt H4 H' → KO H' esN := fun s => koN.tups (tpX s)
    have sHX : ∀ {H' : Hp}, SameX Bt H4 H' → Same H H' := fun s => SameX.same0 (s1.trans s4) s (s1.free nB1)
    refine for_it walk_list (fun i σ H' => SameX Bt H4 H' ∧ (∃ (kvB : List (Key × V)) (bs : Int → Int), H' Bt = some (.dK kvB) ∧ kvB.length ≤ i ∧ ∀ k ∈ ns.take i, valV kvB (.inl k) = some (.int (bs k)) ∧ 0 ≤ bs k ∧ ∀ x ∈ l, ((num x : Nat) : Int) = k → ∀ ke ∈ mvG g x, (num ke.2 = num x ∧ ke.1 = 0) ∨ (num ke.2 ≠ num x ∧ bs ((num ke.2 : Nat) : Int) + ke.1 ≤ bs k)) ∧
        ∃ x4 x5 x6 x7 x8 x9 xa, σ = [some (.ref d), some (.ref Nd), some (.ref Mb), some (.ref Bt), x4, x5, x6, x7, x8, x9, xa])
      ⟨SameX.refl _ _, ⟨[], fun _ => 0, hBt4, Nat.le_refl _, fun k h => nomatch h⟩, _, _, _, _, _, _, _, rfl⟩ (fun i σ H' _ h => SqL.of (h.1 _ _ hp2 nBp)) ?_ ?_
    · rintro i v σ H5 H6 hi ⟨s5, ⟨kvB, bs, hB, lB, fB⟩, x4, x5, x6, x7, x8, x9, xa, rfl⟩ ⟨rfl, e1⟩
      rw [List.getElem?_map] at e1
      obtain ⟨k, hk0, rfl⟩ : ∃ k, ns[i]? = some k ∧ v = .int k := by
        cases e : ns[i]? with
        | none => rw [e] at e1; exact nomatch (show (none : Option V) = some v from e1)
        | some t => rw [e] at e1; exact ⟨t, rfl, (Option.some.inj (show some (V.int t) = some v from e1)).symm⟩
      have hil : i < ns.length := (List.getElem?_eq_some_iff.mp hk0).1
      have gt_in : ∀ k', k' ∈ ns → k < k' → k' ∈ ns.take i := fun k' hk' hlt => by
        obtain ⟨j, hj⟩ := List.mem_iff_getElem?.mp hk'
        have hjl := (List.getElem?_eq_some_iff.mp hj).1
        rcases Nat.lt_or_ge j i with h | h
        · rw [List.mem_iff_getElem?]
          exact ⟨j, by rw [List.getElem?_take_of_lt h]; exact hj⟩
        · exfalso
          rcases Nat.eq_or_lt_of_le h with h2 | h2
          · subst h2
            rw [hk0] at hj
            cases hj
            omega
          · have z := List.pairwise_iff_getElem.mp desc i j hil hjl h2
            rw [(List.getElem?_eq_some_iff.mp hk0).2, (List.getElem?_eq_some_iff.mp hj).2] at z
            omega
      have take_gt : ∀ k', k' ∈ ns.take i → k < k' := fun k' hk' => by
        obtain ⟨j, hj, e⟩ := List.getElem_of_mem hk'
        rw [List.length_take] at hj
        rw [List.getElem_take] at e
        have z := List.pairwise_iff_getElem.mp desc j i (by omega) hil (by omega)
        rw [(List.getElem?_eq_some_iff.mp hk0).2, e] at z
        have ne : k' ≠ k := fun q => by
          have e2 : ns[j]? = ns[i]? := by rw [hk0, ← q, ← e, List.getElem?_eq_getElem]
          have := (List.getElem?_inj (by omega) ndn).mp e2
          omega
        omega
      obtain ⟨x0, hx0, hxk⟩ := (memn k).mp (List.mem_of_getElem? hk0)
      have hg0 : ∃ gl as, valV kvs (.inl k) = some (.ref gl) ∧ H4 gl = some (.lst (as.map V.ref)) ∧ Paired (SpotAt H4) as (grp num l k) := by
        rcases gr4 k with ⟨_, e⟩ | h
        · have z := mem_grp.mpr ⟨hx0, hxk⟩
          rw [e] at z
          cases z
        · exact h
      obtain ⟨gl, gas, hval, hgl, prg⟩ := hg0
      have nglB : gl ≠ Bt := ne_of hgl hBt4 (by intro z; cases z)
      refine ⟨_, rfl, _, rfl, Mb, _, rfl, dget_k (k := Sum.inl k) (hMX s5) hval, gl, rfl, ⟨_, SqL.of (s5 _ _ hgl nglB)⟩, ?_⟩
      refine for_it walk_list (fun j σ H' => H' = H6 ∧ ∃ most : Int, 0 ≤ most ∧ (∀ x ∈ (grp num l k).take j, ∀ ke ∈ mvG g x, (num ke.2 = num x ∧ ke.1 = 0) ∨ (num ke.2 ≠ num x ∧ bs ((num ke.2 : Nat) : Int) + ke.1 ≤ most)) ∧
          ∃ x5 x6 x8 x9 xa, σ = [some (.ref d), some (.ref Nd), some (.ref Mb), some (.ref Bt), some (.int k), x5, x6, some (.int most), x8, x9, xa])
        ⟨rfl, 0, Int.le_refl _, (fun x h => nomatch h), _, _, _, _, _, rfl⟩ (fun j σ H' _ h => by rw [h.1]; exact SqL.of (s5 _ _ hgl nglB)) ?_ ?_
      · rintro j v σ H7 H8 hj ⟨rfl, most, m0, mf, x5, x6, x8, x9, xa, rfl⟩ ⟨rfl, e1⟩
        obtain ⟨xa0, hxa0, rfl⟩ := map_ref e1
        obtain ⟨x, hx, hxA⟩ := L2.paired_get prg hxa0
        obtain ⟨hxl, hxk⟩ := mem_grp.mp (List.mem_of_getElem? hx)
        have hxn := (meml x).mp hxl
        have hxA8 : SpotAt H8 xa0 x := tpX4 s5 _ _ hxA
        obtain ⟨ax, ml, mas, hin, hml, prml⟩ := tab_get OK.nd prT hxn
        have hml8 : H8 ml = some (.lst (mas.map V.ref)) := sHX s5 _ _ hml
        refine ⟨_, rfl, _, rfl, d, xa0, spk x, es, ep, ax, .ref ml, rfl, rfl, hdX s5, koX s5, keyA_spot hxA8, hin, ml, rfl, ⟨_, SqL.of hml8⟩, ?_⟩
        refine for_it walk_list (fun u σ H' => H' = H8 ∧ ∃ most : Int, 0 ≤ most ∧ (∀ x ∈ (grp num l k).take j, ∀ ke ∈ mvG g x, (num ke.2 = num x ∧ ke.1 = 0) ∨ (num ke.2 ≠ num x ∧ bs ((num ke.2 : Nat) : Int) + ke.1 ≤ most)) ∧
            (∀ ke ∈ (mvG g x).take u, (num ke.2 = num x ∧ ke.1 = 0) ∨ (num ke.2 ≠ num x ∧ bs ((num ke.2 : Nat) : Int) + ke.1 ≤ most)) ∧
            ∃ x6 x8 x9 xa, σ = [some (.ref d), some (.ref Nd), some (.ref Mb), some (.ref Bt), some (.int k), some (.ref xa0), x6, some (.int most), x8, x9, xa])
          ⟨rfl, most, m0, mf, (fun ke h => nomatch h), _, _, _, _, rfl⟩ (fun u σ H' _ h => by rw [h.1]; exact SqL.of hml8) ?_ ?_
        · rintro u v σ H9 HA hu2 ⟨rfl, most, m0, mf, mu, x6, x8, x9, xa, rfl⟩ ⟨rfl, e1⟩
          obtain ⟨ma, hma, rfl⟩ := map_ref e1
          obtain ⟨ke, hke, mb, mc, hm1, hm2⟩ := L2.paired_get prml hma
          have hkm := List.mem_of_getElem? hke
          have hen := (OK.mv hxn).2 ke hkm
          have hel := (meml ke.2).mpr hen
          have hle := ord x hxn ke hkm
          obtain ⟨aN, hmN⟩ := entF_get prN hel
          have hec : SpotAt HA mc ke.2 := sHX s5 _ _ hm2
          have h01 : ke.1 = 0 ∨ ke.1 = 1 := by
            obtain ⟨ge, hge, e⟩ := List.mem_map.mp hxn
            have hkm2 := hkm
            rw [← e, mvG_of OK.nd hge] at hkm2
            exact m01 ge hge ke hkm2
          refine ⟨ma, _, rfl, SqT.of (sHX s5 _ _ hm1), rfl, _, _, rfl, _, _, rfl, _, _, rfl, rfl, ?_⟩
          refine ⟨_, rfl, _, rfl, Nd, mc, spk ke.2, esN, epN, aN, _, rfl, rfl, hNX s5, koNX s5, keyA_spot hec, hmN, _, rfl, rfl, _, rfl, ?_⟩
          have snoc : ∀ {most' : Int}, ((num ke.2 = num x ∧ ke.1 = 0) ∨ (num ke.2 ≠ num x ∧ bs ((num ke.2 : Nat) : Int) + ke.1 ≤ most')) → most ≤ most' → ∀ ke ∈ (mvG g x).take (u + 1), (num ke.2 = num x ∧ ke.1 = 0) ∨ (num ke.2 ≠ num x ∧ bs ((num ke.2 : Nat) : Int) + ke.1 ≤ most') := fun h1 h2 ke' hk' => by
            rw [take_snoc hke] at hk'
            rcases List.mem_append.mp hk' with z | z
            · exact (mu ke' z).imp id fun y => ⟨y.1, Int.le_trans y.2 h2⟩
            · rw [List.mem_singleton.mp z]
              exact h1
          by_cases hnk : num ke.2 = num x
          · have e1 : decide (V.int ((num ke.2 : Nat) : Int) = V.int k) = true := decide_eq_true (by rw [hnk, hxk])
            rw [show (!decide (V.int ((num ke.2 : Nat) : Int) = V.int k)) = false from by rw [e1]; rfl]
            refine iteF ⟨_, rfl, rfl, _, rfl, ?_⟩
            rcases h01 with h | h
            · rw [decide_eq_false (show ¬ V.int ke.1 = V.int 1 from fun z => by rw [h] at z; cases z)]
              exact iteF ⟨rfl, most, m0, mf, snoc (.inl ⟨hnk, h⟩) (Int.le_refl _), _, _, _, _, rfl⟩
            · rw [decide_eq_true (show V.int ke.1 = V.int 1 by rw [h])]
              exact iteT (qN (fun e => by rw [e] at hxn; exact nomatch hxn) _ (sHX s5))
          · have e1 : decide (V.int ((num ke.2 : Nat) : Int) = V.int k) = false := decide_eq_false fun z => by
              injection z with z
              exact hnk (by omega)
            rw [show (!decide (V.int ((num ke.2 : Nat) : Int) = V.int k)) = true from by rw [e1]; rfl]
            have hin2 := gt_in ((num ke.2 : Nat) : Int) ((memn _).mpr ⟨ke.2, hel, rfl⟩) (by omega)
            obtain ⟨hv2, hb0, _⟩ := fB _ hin2
            refine iteT ⟨_, rfl, _, rfl, _, rfl, _, rfl, _, rfl, Nd, mc, spk ke.2, esN, epN, aN, _, rfl, rfl, hNX s5, koNX s5, keyA_spot hec, hmN, Bt, _, rfl, dget_k (k := Sum.inl ((num ke.2 : Nat) : Int)) hB hv2, _, _, rfl, rfl, _, _, rfl, ?_⟩
            refine ⟨rfl, _, ?_, fun x' hx' ke' hk' => (mf x' hx' ke' hk').imp id fun y => ⟨y.1, Int.le_trans y.2 ?_⟩, snoc (.inr ⟨hnk, ?_⟩) ?_, _, _, _, _, rfl⟩
            all_goals (split <;> omega)
        · rintro σ H9 ⟨rfl, most, m0, mf, mu, x6, x8, x9, xa, rfl⟩
          have lml : (mas.map V.ref).length = (mvG g x).length := by rw [List.length_map]; exact Paired.length prml
          rw [lml, List.take_length] at mu
          refine ⟨rfl, most, m0, fun x' hx' => ?_, _, _, _, _, _, rfl⟩
          rw [take_snoc hx] at hx'
          rcases List.mem_append.mp hx' with z | z
          · exact mf x' z
          · rw [List.mem_singleton.mp z]
            exact mu
      · rintro σ H7 ⟨rfl, most, m0, mf, x5, x6, x8, x9, xa, rfl⟩
        have lgr : (gas.map V.ref).length = (grp num l k).length := by rw [List.length_map]; exact Paired.length prg
        rw [lgr, List.take_length] at mf
        refine ⟨_, rfl, _, rfl, _, rfl, Bt, _, rfl, DPut.k (k := Sum.inl k) hB (by omega), ?_⟩
        refine ⟨s5.self, ⟨_, fun z => if z = k then most else bs z, upd_same, Nat.le_trans (length_putK _ _ _) (Nat.succ_le_succ lB), fun k' hk' => ?_⟩, _, _, _, _, _, _, _, rfl⟩
        rw [take_snoc hk0] at hk'
        rcases List.mem_append.mp hk' with z | z
        · have hgt := take_gt k' z
          obtain ⟨h1, h2, h3⟩ := fB k' z
          refine ⟨?_, by simp only [if_neg (show k' ≠ k by omega)]; exact h2, fun x hx hxk' ke hke => ?_⟩
          · rw [valV_put, if_neg (fun q => by injection q with q; omega)]
            simp only [if_neg (show k' ≠ k by omega)]
            exact h1
          · have hle := ord x ((meml x).mp hx) ke hke
            rcases h3 x hx hxk' ke hke with y | ⟨y1, y2⟩
            · exact .inl y
            · refine .inr ⟨y1, ?_⟩
              simp only [if_neg (show k' ≠ k by omega), if_neg (show ((num ke.2 : Nat) : Int) ≠ k by omega)]
              exact y2
        · rw [List.mem_singleton.mp z]
          refine ⟨by rw [valV_put_same]; simp only [if_true], by simp only [if_true]; exact m0, fun x hx hxk' ke hke => ?_⟩
          have hle := ord x ((meml x).mp hx) ke hke
          rcases mf x (mem_grp.mpr ⟨hx, hxk'⟩) ke hke with y | ⟨y1, y2⟩
          · exact .inl y
          · refine .inr ⟨y1, ?_⟩
            simp only [if_true, if_neg (show ((num ke.2 : Nat) : Int) ≠ k by omega)]
            exact y2
    · rintro σ H5 ⟨s5, ⟨kvB, bs, hB, lB, fB⟩, x4, x5, x6, x7, x8, x9, xa, rfl⟩
      rw [lns, List.take_length] at fB
      have hNd5 := hNX s5
      refine ⟨_, rfl, Nd, esN, epN, rfl, hNd5, fun D nD => ?_⟩
      refine cc_it (U := fun D => DX P w D [] 0) walk_dxi (fun i H' => Same H5 H' ∧ FD P w H' D (l.take i) (fun x => .int (bs ((num x : Nat) : Int)))) ⟨same_new nD, ⟨[], 0, upd_same, KO.nil, .nil⟩⟩ (fun i H' _ h => h.1 _ _ hNd5) ?_ ?_
      · rintro i v H6 H7 hi ⟨s6, hD⟩ ⟨Tp, k9, a9, v9, e9, rfl, nTp, rfl⟩
        obtain ⟨sp, hsp, rfl, rfl, hsA⟩ := keyN e9
        have hil : i < l.length := (List.getElem?_eq_some_iff.mp hsp).1
        have sT := same_new (o := .tup [V.ref a9, natV (num sp)]) nTp
        obtain ⟨esD, epD, hDD, koD, prD⟩ := id (hD.same sT)
        have hsA7 : SpotAt (upd H6 Tp (.tup [V.ref a9, natV (num sp)])) a9 sp := sT _ _ (s6 _ _ (tpX s5 _ _ hsA))
        obtain ⟨hv2, _, _⟩ := fB ((num sp : Nat) : Int) ((memn _).mpr ⟨sp, List.mem_of_getElem? hsp, rfl⟩)
        have lD : esD.length ≤ i := by
          rw [Paired.length prD, List.length_take]
          omega
        have hnot : ¬ sp ∈ l.take i := fun z => by
          obtain ⟨j, hj, ej⟩ := List.getElem_of_mem z
          rw [List.length_take] at hj
          rw [List.getElem_take] at ej
          have e2 : l[j]? = l[i]? := by rw [hsp, ← ej, List.getElem?_eq_getElem]
          have := (List.getElem?_inj (by omega) ndl).mp e2
          omega
        refine ⟨Tp, _, rfl, SqT.of (new_at nTp), rfl, _, _, rfl, _, _, rfl, rfl, rfl, ?_⟩
        refine ⟨_, rfl, _, rfl, _, rfl, Bt, _, rfl, dget_k (k := Sum.inl ((num sp : Nat) : Int)) (sT _ _ (s6 _ _ hB)) hv2, a9, spk sp, esD, epD, rfl, hDD, koD, keyA_spot hsA7, by rw [entF_keys prD]; exact fun z => hnot (mem_spk.mp z), by omega, fun ep' => ?_⟩
        have tpP := Tups.put hDD (u := DX P w D (esD ++ [(spk sp, a9, V.int (bs ((num sp : Nat) : Int)))]) ep') (fun _ z => nomatch z)
        refine ⟨same_mut (s6.trans sT) nD, _, ep', upd_same, (koD.tups tpP).snoc ((keyA_spot hsA7).tups tpP), ?_⟩
        rw [take_snoc hsp]
        exact Paired.snoc prD ⟨rfl, rfl⟩
      · rintro H6 ⟨s6, hD⟩
        rw [lN, List.take_length] at hD
        refine q _ D l (fun x => bs ((num x : Nat) : Int)) ((sHX s5).trans s6) ((sHX s5).free nD) hD ndl meml (fun x hx => ?_) fun u hu2 ke hke => ?_
        · exact (fB _ ((memn _).mpr ⟨x, (meml x).mpr hx, rfl⟩)).2.1
        · rcases (fB _ ((memn _).mpr ⟨u, (meml u).mpr hu2, rfl⟩)).2.2 u ((meml u).mpr hu2) rfl ke hke with ⟨h1, h2⟩ | ⟨_, h2⟩
          · show bs _ + ke.1 ≤ bs _
            rw [h1, h2]
            omega
          · exact h2
end
end Kn

end
section
set_option maxHeartbeats 4000000
/-! checked_watches. -/
namespace Kn
open PySem PySem.Spec PyProof.Rows L2
theorem sc_CheckedWatches : FnScope ["machine", "watches", "fault", "rows"] ["machine", "watches", "fault"] (defScope sCheckedWatches) := ⟨rfl, rfl, rfl, by decide +kernel, rfl, by decide +kernel, by decide +kernel⟩
section
variable {P : Program} {w : World} {K : PySem.W.Frag} {mg : Str → Option Value} {base : Heap} {C CW : Addr}
def spCheckedWatches (C CW : Addr) : Sp := fun vs H Q _ => ∃ m M wl l ws f, vs = [.ref m, .ref l, .str f] ∧ MachAt C H m M wl ∧ WsAt CW H l ws ∧ 1 ≤ ws.length ∧ ws.length ≤ 3 ∧ M.ft.length ≤ 3 ∧ NameOk f ∧ (∃ q ∈ M.ft, q.2 = f) ∧
  ∀ H' p, Same H H' → WsAt CW H' p ws → Q (.ref p) H'
theorem ok_CheckedWatches {f : Addr} {fd : FuncData} (F : FnP K "checked_watches" "checked_watches" sCheckedWatches [] f fd) (C_check_watches : Cal P w K mg base 3 "check_watches" ["watches"] (spCheckWatches CW)) (C_check_fault : Cal P w K mg base 3 "check_fault" ["machine", "fault"] (spCheckFault C)) :
    FnOk P w K mg base CX0 4 f fd ["machine", "watches", "fault"] (spCheckedWatches C CW) := by
  refine mk_fn F sc_CheckedWatches (fun vs H Q E h => ?_) (fun cdv A outer s H vs Q E hr h => ?_)
  · obtain ⟨m, M, wl, l, ws, f, rfl, _⟩ := h
    rfl
  · obtain ⟨m, M, wl, l, ws, ff, rfl, hMa, hWs, w1, w3, f3, nf, inf, q⟩ := h
    refine ⟨_, (pss_cons (ps_set (i := 3) sc_CheckedWatches.nd rfl (Or.inl rfl) (pc C_check_watches hr (pa_cons (pv 1) pa_nil)))
        (pss_cons (ps_expr (pc C_check_fault hr (pa_cons (pv 0) (pa_cons (pv 2) pa_nil))))
        (pss_one (ps_ret (pv 3))))), ?_⟩
    refine ⟨_, rfl, l, ws, rfl, hWs, w1, w3, fun H1 p s1 np hW1 => ?_⟩
    refine ⟨_, rfl, _, rfl, m, M, wl, ff, rfl, hMa.same s1, f3, nf, inf, fun H2 s2 => ?_⟩
    exact ⟨_, rfl, q _ _ (s1.trans s2) (hW1.same s2)⟩
end
end Kn

end
section
set_option maxHeartbeats 4000000
/-! ranks. -/
namespace Kn
open PySem PySem.Spec PyProof.Rows L2
theorem sc_Ranks : FnScope ["machine", "watches", "fault", "rows", "table", "ahead", "behind", "spot"] ["machine", "watches", "fault"] (defScope sRanks) := ⟨rfl, rfl, rfl, by decide +kernel, rfl, by decide +kernel, by decide +kernel⟩
section
variable {P : Program} {w : World} {K : PySem.W.Frag} {mg : Str → Option Value} {base : Heap} {C CW : Addr}
/-- a dict's entries as pairs of address and spot -/
theorem ents_spots {H : Hp} {l : List (List Int)} : ∀ {es : List Ent}, es.map (·.1) = l.map spk → KO H es → ∃ bs : List (Addr × List Int), es.map (fun x => V.ref x.2.1) = bs.map (fun b => V.ref b.1) ∧ bs.map (·.2) = l ∧ ∀ b ∈ bs, SpotAt H b.1 b.2 := by
  induction l with
  | nil =>
    intro es e ko
    cases es with
    | nil => exact ⟨[], rfl, rfl, fun b h => nomatch h⟩
    | cons x es => exact nomatch e
  | cons sp l ih =>
    intro es e ko
    cases es with
    | nil => exact nomatch e
    | cons x es =>
      obtain ⟨h1, h2⟩ := List.cons.inj (show x.1 :: es.map (·.1) = spk sp :: l.map spk from e)
      obtain ⟨bs, b1, b2, b3⟩ := ih h2 fun y hy => ko y (List.mem_cons_of_mem _ hy)
      have k0 : KeyA H x.1 x.2.1 := ko x List.mem_cons_self
      rw [h1] at k0
      refine ⟨(x.2.1, sp) :: bs, ?_, ?_, ?_⟩
      · rw [List.map_cons, List.map_cons, b1]
      · rw [List.map_cons, b2]
      · intro b hb
        rcases List.mem_cons.mp hb with e | hb
        · rw [e]
          exact spotAt_of k0
        · exact b3 b hb
structure RkOk (M : Mach) (ws : List Tab) (f : Str) (l : List (List Int)) (rk : List Int → Int) : Prop where
  mem : ∀ sp, sp ∈ l ↔ Reach M ws f true sp
  nn : ∀ sp, Reach M ws f true sp → 0 ≤ rk sp
  side : ∀ sp e, Reach M ws f true sp → Side M ws f sp e → rk e ≤ rk sp
  main : ∀ c sp e, Reach M ws f true sp → Main M ws f c sp e → rk e + 1 ≤ rk sp
  le : l.length ≤ 1458
def spRanks (P : Program) (w : World) (C CW : Addr) : Sp := fun vs H Q _ => ∃ m M wl l ws f S, vs = [.ref m, .ref l, .str f] ∧ MachAt C H m M wl ∧ WsAt CW H l ws ∧ M.rows.length ≤ 80 ∧ 1 ≤ ws.length ∧ ws.length ≤ 2 ∧ M.ft.length ≤ 3 ∧ NameOk f ∧ (∃ q ∈ M.ft, q.2 = f) ∧ Sts M S ∧
  (Met M ws f → ∀ H', Same H H' → Q .non H') ∧
  ∀ (H' : Hp) (t : Addr) (x : V) (rd : Addr) (l : List (List Int)) (rk : List Int → Int), Same H H' → H' t = some (.tup [x, .ref rd]) → FD P w H' rd l (fun x => .int (rk x)) → RkOk M ws f l rk → Q (.ref t) H'
theorem nodup_take_not {α : Type} {l : List α} {i : Nat} {x : α} (hn : l.Nodup) (h : l[i]? = some x) : ¬ x ∈ l.take i := fun m => by
  have := hn.sublist (List.take_sublist (i + 1) l)
  rw [take_snoc h] at this
  exact (List.nodup_append.mp this).2.2 x m x (List.mem_singleton.mpr rfl) rfl
theorem entF_snoc {f : List Int → V} {es : List Ent} {l : List (List Int)} {a : Addr} {sp : List Int} (h : Paired (EntF f) es l) : Paired (EntF f) (es ++ [(spk sp, a, f sp)]) (l ++ [sp]) := Paired.snoc h ⟨rfl, rfl⟩
theorem ok_Ranks {f : Addr} {fd : FuncData} (F : FnP K "ranks" "ranks" sRanks [] f fd) (T : Tx K mg) (C_checked_watches : Cal P w K mg base 6 "checked_watches" ["machine", "watches", "fault"] (spCheckedWatches C CW)) (C_met_tuples : Cal P w K mg base 6 "met_tuples" ["machine", "rows", "fault"] (spMetTuples P w C CW))
    (C_behind_moves : Cal P w K mg base 6 "behind_moves" ["machine", "rows", "fault", "behind"] (spBehindMoves P w C CW)) (C_rank_table : Cal P w K mg base 6 "rank_table" ["table"] (spRankTable P w)) :
    FnOk P w K mg base CX0 7 f fd ["machine", "watches", "fault"] (spRanks P w C CW) := by
  refine mk_fn F sc_Ranks (fun vs H Q E h => ?_) (fun cdv A outer s H vs Q E hr h => ?_)
  · obtain ⟨m, M, wl, l, ws, f, S, rfl, _⟩ := h
    rfl
  · obtain ⟨m, M, wl, l, ws, ff, S, rfl, hMa, hWs, r80, w1, w2, f3, nf, inf, FS, qN, q⟩ := h
    have sl : (1000000 : Nat) < sizeLine := by decide
    refine ⟨_, (pss_cons (ps_set (i := 3) sc_Ranks.nd rfl (Or.inl rfl) (pc C_checked_watches hr (pa_cons (pv 0) (pa_cons (pv 1) (pa_cons (pv 2) pa_nil)))))
        (pss_cons (ps_asg (pc C_met_tuples hr (pa_cons (pv 0) (pa_cons (pv 3) (pa_cons (pv 2) pa_nil)))) (pg_tup (n := 2) rfl (pgs_cons (pg_name (i := 5) sc_Ranks.nd rfl (Or.inl rfl)) (pgs_cons (pg_name (i := 6) sc_Ranks.nd rfl (Or.inl rfl)) pgs_nil))))
        (pss_cons (ps_set (i := 4) sc_Ranks.nd rfl (Or.inr rfl) (pc C_rank_table hr (pa_cons (pc C_behind_moves hr (pa_cons (pv 0) (pa_cons (pv 3) (pa_cons (pv 2) (pa_cons (pv 6) pa_nil))))) pa_nil)))
        (pss_cons (ps_if (pt_cmpR op_isN (pv 4) pe_non (nomark _)) (pss_one (ps_ret pe_non)) pss_nil)
        (pss_one (ps_ret (pe_tup (pa_cons (pe_callB (cr_sortedX hr) (by rfl) T.sorted (by decide +kernel) (pa_cons (pe_callTy (call_list_dx rfl) (by rfl) T.list (by decide +kernel) (pa_cons (pv 5) pa_nil)) pa_nil)) (pa_cons (pe_dcX hr rfl sc_Ranks.nd (pi_list (pe_callB (cr_sortedX hr) (by rfl) T.sorted (by decide +kernel) (pa_cons (pe_callTy (call_list_dx rfl) (by rfl) T.list (by decide +kernel) (pa_cons (pv 6) pa_nil)) pa_nil))) (blkOk_by (own := [("spot", 7)]) (N := ["machine", "watches", "fault", "rows", "table", "ahead", "behind", "spot"]) (sc := defScope sRanks) (by decide +kernel)) (fun _ _ _ _ _ => (pg_name (i := 7) sc_Ranks.nd rfl (Or.inl rfl))) (fun _ _ _ _ _ => pts_nil) (fun _ _ _ _ _ => (pv 7)) (fun _ _ _ _ _ => (pe_ix (r := rDxGet P w) (ix_dx hr) (pv 4) (pv 7) (fun _ _ => rfl)))) pa_nil))))))))), ?_⟩
    refine ⟨_, rfl, _, rfl, _, rfl, m, M, wl, l, ws, ff, rfl, hMa, hWs, w1, by omega, f3, nf, inf, fun H1 p s1 hW1 => ?_⟩
    refine ⟨_, rfl, _, rfl, _, rfl, m, M, wl, p, ws, ff, S, rfl, hMa.same s1, hW1, r80, w2, FS, fun H2 t da db met s2 ht hA hB ndm mem m1458 => ?_⟩
    refine ⟨t, _, rfl, SqT.of ht, rfl, _, _, rfl, _, _, rfl, rfl, ?_⟩
    have s12 := s1.trans s2
    have ndb := sideL_nodup (b := true) ndm
    have memb : ∀ sp, sp ∈ sideL true met ↔ Reach M ws ff true sp := fun sp => mem_sideL.trans (mem (true, sp))
    have lb : (sideL true met).length ≤ 1458 := by
      unfold sideL
      rw [List.length_map]
      exact Nat.le_trans (List.length_filter_le _ _) m1458
    refine ⟨_, rfl, _, rfl, _, rfl, _, rfl, m, M, wl, p, ws, ff, db, sideL true met, rfl, hMa.same s12, hW1.same s2, r80, FS.few, w2, hB, ndb, lb, fun sp h => ((memb sp).mp h).len, fun H3 d g s3 nd hT eg hg => ?_⟩
    have gl : g.length ≤ 1458 := by rw [← List.length_map (f := (·.1)), eg]; exact lb
    have hgn : (g.map (·.1)).Nodup := by rw [eg]; exact ndb
    have hgr : ∀ ge ∈ g, Reach M ws ff true ge.1 := fun ge h => (memb _).mp (by rw [← eg]; exact List.mem_map.mpr ⟨_, h, rfl⟩)
    have OK : TabOk g := ⟨hgn, gl, fun ge h => (hg ge h).2, fun ge h ke hke => by
      rw [eg]
      refine (memb _).mpr ?_
      rcases ((hg ge h).1 ke.1 ke.2).mp hke with ⟨_, z⟩ | ⟨_, c, z⟩
      · exact .side (hgr ge h) z
      · exact .main (c := c) (b := true) (hgr ge h) z⟩
    have s123 := s12.trans s3
    refine ⟨d, g, rfl, hT, OK, fun ge h ke hke => ?_, fun hne H4 s4 => ?_, fun H4 rd l4 rk s4 nrd hF ndl meml rkn rke => ?_⟩
    · rcases ((hg ge h).1 ke.1 ke.2).mp hke with ⟨z, _⟩ | ⟨z, _⟩
      · exact .inl z
      · exact .inr z
    · refine ⟨_, rfl, rfl, _, rfl, ?_⟩
      refine iteT (qN ?_ _ (s123.trans s4))
      cases g with
      | nil => exact absurd rfl hne
      | cons ge g => exact ⟨ge.1, hgr ge List.mem_cons_self⟩
    · have s1234 := s123.trans s4
      have hR : RkOk M ws ff (sideL true met) rk := by
        have inl : ∀ {sp}, Reach M ws ff true sp → sp ∈ g.map (·.1) := fun h => by rw [eg]; exact (memb _).mpr h
        have edge : ∀ {sp k e}, Reach M ws ff true sp → ((k = 0 ∧ Side M ws ff sp e) ∨ (k = 1 ∧ ∃ c, Main M ws ff c sp e)) → rk e + k ≤ rk sp := fun {sp k e} h z => by
          obtain ⟨ge, hge, e1⟩ := List.mem_map.mp (inl h)
          have y := ((hg ge hge).1 k e).mpr (by rw [e1]; exact z)
          have u := rke sp (inl h) (k, e) (by rw [← e1, mvG_of hgn hge]; exact y)
          exact u
        refine ⟨memb, fun sp h => rkn _ (inl h), fun sp e h z => ?_, fun c sp e h z => ?_, lb⟩
        · have := edge h (.inl ⟨rfl, z⟩)
          omega
        · exact edge h (.inr ⟨rfl, c, z⟩)
      obtain ⟨esA, epA, hA1, koA, ekA⟩ := hA.same (s3.trans s4)
      obtain ⟨esB, epB, hB1, koB, ekB⟩ := hB.same (s3.trans s4)
      obtain ⟨bsA, ea1, ea2, ea3⟩ := ents_spots ekA koA
      obtain ⟨bsB, eb1, eb2, eb3⟩ := ents_spots ekB koB
      obtain ⟨esF, epF, hF1, koF, prF⟩ := hF
      refine ⟨_, rfl, rfl, _, rfl, iteF ?_⟩
      refine ⟨_, rfl, da, esA, epA, rfl, hA1, fun p1 np1 => ?_⟩
      have q1 := same_new (o := .lst (esA.map fun x => V.ref x.2.1)) np1
      have neA : ∀ b ∈ bsA, b.2 ≠ [] := fun b hb e => by
        have z := ((mem (false, b.2)).mp (mem_sideL.mp (by rw [← ea2]; exact List.mem_map.mpr ⟨_, hb, rfl⟩))).len
        rw [e] at z
        exact nomatch z
      have neB : ∀ b ∈ bsB, b.2 ≠ [] := fun b hb e => by
        have z := ((memb b.2).mp (by rw [← eb2]; exact List.mem_map.mpr ⟨_, hb, rfl⟩)).len
        rw [e] at z
        exact nomatch z
      refine ⟨p1, bsA, rfl, SqL.of (by rw [upd_same, ea1]), fun b hb => ⟨q1 _ _ (ea3 b hb), neA b hb⟩, fun p2 cs pm np2 => ?_⟩
      have q2 := q1.trans (same_new (o := .lst (cs.map fun b => V.ref b.1)) np2)
      generalize upd (upd H4 p1 (.lst (esA.map fun x => V.ref x.2.1))) p2 (.lst (cs.map fun b => V.ref b.1)) = H5 at q2 ⊢
      refine ⟨_, rfl, db, esB, epB, rfl, q2 _ _ hB1, fun p3 np3 => ?_⟩
      have q3 := q2.trans (same_new (o := .lst (esB.map fun x => V.ref x.2.1)) np3)
      refine ⟨p3, bsB, rfl, SqL.of (by rw [upd_same, eb1]), fun b hb => ⟨q3 _ _ (eb3 b hb), neB b hb⟩, fun p4 ds pmB np4 => ?_⟩
      have hp4 : upd (upd H5 p3 (.lst (esB.map fun x => V.ref x.2.1))) p4 (.lst (ds.map fun b => V.ref b.1)) p4 = some (.lst (ds.map fun b => V.ref b.1)) := upd_same
      have q4 := q3.trans (same_new (o := .lst (ds.map fun b => V.ref b.1)) np4)
      generalize upd (upd H5 p3 (.lst (esB.map fun x => V.ref x.2.1))) p4 (.lst (ds.map fun b => V.ref b.1)) = H6 at q4 hp4 ⊢
      have pm2 : (ds.map (·.2)).Perm (sideL true met) := by rw [← eb2]; exact pmB.map _
      have nd2 : (ds.map (·.2)).Nodup := pm2.nodup_iff.mpr ndb
      have l2 : ds.length ≤ 1458 := by
        have := pm2.length_eq
        rw [List.length_map] at this
        omega
      refine ⟨p4, rfl, ⟨_, SqL.of hp4⟩, fun D nD => ?_⟩
      refine cc_it (U := fun D => DX P w D [] 0) walk_list (fun i H' => Same H6 H' ∧ ∃ es ep, H' D = some (DX P w D es ep) ∧ KO H' es ∧ Paired (EntF (fun x => V.int (rk x))) es ((ds.map (·.2)).take i)) ⟨same_new nD, [], 0, upd_same, KO.nil, .nil⟩ (fun i H' _ h => SqL.of (h.1 _ _ hp4)) ?_ ?_
      · rintro i v H7 H8 hi ⟨s7, es, ep, hD, ko, pr⟩ ⟨rfl, e1⟩
        rw [List.getElem?_map] at e1
        obtain ⟨b, hb, e2⟩ := Option.map_eq_some_iff.mp e1
        subst e2
        have hbm := pmB.mem_iff.mp (List.mem_of_getElem? hb)
        have hsp : SpotAt H8 b.1 b.2 := s7 _ _ (q4 _ _ (eb3 b hbm))
        have hbt : (ds.map (·.2))[i]? = some b.2 := by rw [List.getElem?_map, hb]; rfl
        have hl4 : b.2 ∈ l4 := (meml _).mpr (by rw [eg, ← eb2]; exact List.mem_map.mpr ⟨_, hbm, rfl⟩)
        obtain ⟨aF, hmF⟩ := entF_get prF hl4
        refine ⟨rfl, _, rfl, _, rfl, _, rfl, rd, b.1, spk b.2, esF, epF, aF, _, rfl, rfl, s7 _ _ (q4 _ _ hF1), koF.tups (.of (q4.trans s7)), keyA_spot hsp, hmF, ?_⟩
        have lle : es.length ≤ 1458 := by
          have := Paired.length pr
          rw [List.length_take, List.length_map] at this
          omega
        have tp := fun ep' => Tups.put hD (u := DX P w D (es ++ [(spk b.2, b.1, V.int (rk b.2))]) ep') (fun _ z => nomatch z)
        refine ⟨b.1, spk b.2, es, ep, rfl, hD, ko, keyA_spot hsp, fun z => ?_, by omega, fun ep' => ⟨same_mut s7 nD, _, ep', upd_same, (ko.tups (tp ep')).snoc ((keyA_spot hsp).tups (tp ep')), ?_⟩⟩
        · rw [entF_keys pr] at z
          have z2 := mem_spk.mp z
          exact nodup_take_not nd2 hbt z2
        · rw [take_snoc hbt]
          exact entF_snoc pr
      · rintro H7 ⟨s7, es, ep, hD, ko, pr⟩
        have ef : (ds.map (·.2)).take (ds.map fun b => V.ref b.1).length = ds.map (·.2) := by
          rw [List.length_map]
          exact List.take_of_length_le (by rw [List.length_map]; exact Nat.le_refl _)
        rw [ef] at pr
        refine ⟨by show 2 ≤ sizeLine; decide, fun t5 nt5 => ?_⟩
        have s8 := same_new (o := .tup [V.ref p2, V.ref D]) nt5
        have R2 : RkOk M ws ff (ds.map (·.2)) rk := ⟨fun sp => pm2.mem_iff.trans (memb sp), hR.nn, hR.side, hR.main, by rw [List.length_map]; exact l2⟩
        exact q _ t5 _ D _ rk (s1234.trans (q4.trans (s7.trans s8))) upd_same ⟨es, ep, s8 _ _ hD, ko.tups (.of s8), pr⟩ R2
end
end Kn

end
section
set_option maxHeartbeats 4000000
/-! late. -/
namespace Kn
open PySem PySem.Spec PyProof.Rows L2
theorem sc_Late : FnScope ["machine", "watches", "fault", "found"] ["machine", "watches", "fault"] (defScope sLate) := ⟨rfl, rfl, rfl, by decide +kernel, rfl, by decide +kernel, by decide +kernel⟩
section
variable {P : Program} {w : World} {K : PySem.W.Frag} {mg : Str → Option Value} {base : Heap} {C CW : Addr}
theorem entF_vals {rk : List Int → Int} {es : List Ent} {l : List (List Int)} (h : Paired (EntF (fun x => V.int (rk x))) es l) : es.map (·.2.2) = (l.map rk).map V.int := by
  induction h with
  | nil => rfl
  | cons h _ ih => rw [List.map_cons, List.map_cons, List.map_cons, ih, h.2]
def spLate (P : Program) (w : World) (C CW : Addr) : Sp := fun vs H Q _ => ∃ m M wl l ws f S, vs = [.ref m, .ref l, .str f] ∧ MachAt C H m M wl ∧ WsAt CW H l ws ∧ M.rows.length ≤ 80 ∧ 1 ≤ ws.length ∧ ws.length ≤ 2 ∧ M.ft.length ≤ 3 ∧ NameOk f ∧ (∃ q ∈ M.ft, q.2 = f) ∧ Sts M S ∧
  (¬ Met M ws f → ∀ H', Same H H' → Q (.int 0) H') ∧ (Met M ws f → ∀ H', Same H H' → Q .non H' ∧ ∀ n : Int, 0 < n → (∃ N φ, Pot M ws f N φ) → Q (.int n) H')
theorem ok_Late {f : Addr} {fd : FuncData} (F : FnP K "late" "late" sLate [] f fd) (T : Tx K mg) (C_ranks : Cal P w K mg base 7 "ranks" ["machine", "watches", "fault"] (spRanks P w C CW)) :
    FnOk P w K mg base CX0 8 f fd ["machine", "watches", "fault"] (spLate P w C CW) := by
  refine mk_fn F sc_Late (fun vs H Q E h => ?_) (fun cdv A outer s H vs Q E hr h => ?_)
  · obtain ⟨m, M, wl, l, ws, f, S, rfl, _⟩ := h
    rfl
  · obtain ⟨m, M, wl, l, ws, ff, S, rfl, hMa, hWs, r80, w1, w2, f3, nf, inf, FS, q0, q1⟩ := h
    have sl : (1000000 : Nat) < sizeLine := by decide
    refine ⟨_, (pss_cons (ps_set (i := 3) sc_Late.nd rfl (Or.inl rfl) (pc C_ranks hr (pa_cons (pv 0) (pa_cons (pv 1) (pa_cons (pv 2) pa_nil)))))
        (pss_cons (ps_if (pt_cmpR op_isN (pv 3) pe_non (nomark _)) (pss_one (ps_ret pe_non)) pss_nil)
        (pss_one (ps_ret (pe_op op_add (pe_callBK (Kn.cr_maxD rfl hr) (by rfl) T.max (by decide +kernel) (pa_cons (pe_callTy (call_list_vals rfl) (by rfl) T.list (by decide +kernel) (pa_cons (pe_vals (pe_ix ix_tup (pv 3) pe_int (fun _ _ => rfl))) pa_nil)) pa_nil) (pk_cons (pe_un un_neg pe_int) pk_nil)) pe_int))))), ?_⟩
    refine ⟨_, rfl, _, rfl, _, rfl, m, M, wl, l, ws, ff, S, rfl, hMa, hWs, r80, w1, w2, f3, nf, inf, FS, fun hm H1 s1 => ?_, fun H1 t x rd l1 rk s1 ht hF R => ?_⟩
    · exact ⟨_, rfl, rfl, _, rfl, iteT (q1 hm _ s1).1⟩
    · refine ⟨_, rfl, rfl, _, rfl, iteF ?_⟩
      obtain ⟨es, ep, hd, ko, pr⟩ := hF
      have lle : es.length ≤ 1458 := by
        rw [Paired.length pr]
        exact R.le
      refine ⟨_, rfl, t, _, _, _, rfl, rfl, SqT.of ht, atI_nat (j := 1) rfl, rd, rfl, ⟨_, .inr ⟨es, ep, hd, rfl⟩⟩, fun v nv => ?_⟩
      have sv := same_new (o := VwO v rd) nv
      refine ⟨v, rd, _, rfl, upd_same, .inr ⟨es, ep, sv _ _ hd, rfl⟩, fun p np => ?_⟩
      have sp := sv.trans (same_new (o := .lst (es.map (·.2.2))) np)
      refine ⟨1, rfl, p, l1.map rk, -1, rfl, rfl, SqL.of (by rw [upd_same, entF_vals pr]), fun e => ?_, fun n hn => ?_⟩
      · have e2 : l1 = [] := List.map_eq_nil_iff.mp e
        have nm : ¬ Met M ws ff := fun ⟨sp, h⟩ => by
          have z := (R.mem sp).mpr h
          rw [e2] at z
          exact nomatch z
        exact ⟨_, _, rfl, rfl, q0 nm _ (s1.trans sp)⟩
      · obtain ⟨u, hu, rfl⟩ := List.mem_map.mp hn
        have hr := (R.mem u).mp hu
        have z := R.nn u hr
        refine ⟨_, _, rfl, rfl, (q1 ⟨u, hr⟩ _ (s1.trans sp)).2 _ (by omega) ⟨1, fun x => - rk x, fun sp h => ?_, fun sp e h y => ?_, fun c sp e h y => ?_⟩⟩
        · have := R.nn sp h
          show - rk sp < 1
          omega
        · have := R.side sp e h y
          show - rk sp ≤ - rk e
          omega
        · have := R.main c sp e h y
          show - rk sp < - rk e
          omega
end
end Kn

end
section
set_option maxHeartbeats 4000000
/-! law helpers: mix, cell, row. -/
namespace Kn
open PySem PySem.Spec PyProof.Rows L2
theorem sc_LawMix : FnScope ["_law_cell_here", "_law_k", "_law_number"] ["_law_cell_here", "_law_k"] (defScope sLawMix) := ⟨rfl, rfl, rfl, by decide +kernel, rfl, by decide +kernel, by decide +kernel⟩
theorem sc_LawCell : FnScope ["_law_script", "_law_k"] ["_law_script", "_law_k"] (defScope sLawCell) := ⟨rfl, rfl, rfl, by decide +kernel, rfl, by decide +kernel, by decide +kernel⟩
theorem sc_LawRow : FnScope ["_law_cell_here", "_law_sizes", "_law_row_here", "_law_rest", "_law_k"] ["_law_cell_here", "_law_sizes"] (defScope sLawRow) := ⟨rfl, rfl, rfl, by decide +kernel, rfl, by decide +kernel, by decide +kernel⟩
section
variable {P : Program} {w : World} {K : PySem.W.Frag} {mg : Str → Option Value} {base : Heap} {C CW : Addr}
theorem atI_int {α : Type} {l : List α} {i : Int} {v : α} (h0 : 0 ≤ i) (h : l[i.toNat]? = some v) : atI l i = some v := by
  have e : i = ((i.toNat : Nat) : Int) := by omega
  rw [e]
  exact atI_nat h
theorem atI_ints {l : List Int} {i : Int} (h0 : 0 ≤ i) (h : i < (l.length : Int)) : ∃ n, atI (List.map V.int l) i = some (.int n) ∧ l[i.toNat]? = some n := by
  have h2 : i.toNat < l.length := by omega
  exact ⟨l[i.toNat], atI_int h0 (by rw [List.getElem?_map, List.getElem?_eq_getElem h2]; rfl), List.getElem?_eq_getElem h2⟩
theorem cmulM (x y : Int) : CMul (x % 2147483647) y := by
  have h1 := Int.emod_nonneg x (show (2147483647 : Int) ≠ 0 by decide)
  have h2 := Int.emod_lt_of_pos x (show (0 : Int) < 2147483647 by decide)
  have p64 : (2 : Int) ^ 64 = 18446744073709551616 := by decide
  exact .inl ⟨by omega, by omega⟩
def spLawMix : Sp := fun vs H Q _ => ∃ c k : Int, vs = [.int c, .int k] ∧ ∀ n, Q (.int n) H
theorem ok_LawMix {f : Addr} {fd : FuncData} (F : FnP K "_law_mix" "_law_mix" sLawMix [] f fd) (T : Tx K mg) : FnOk P w K mg base CX0 1 f fd ["_law_cell_here", "_law_k"] spLawMix := by
  refine mk_fn F sc_LawMix (fun vs H Q E h => ?_) (fun cdv A outer s H vs Q E hr h => ?_)
  · obtain ⟨c, k, rfl, _⟩ := h
    rfl
  · obtain ⟨c, k, rfl, q⟩ := h
    refine ⟨_, (pss_cons (ps_set (i := 2) sc_LawMix.nd rfl (Or.inl rfl) (pe_op op_mod (pe_op op_mul (pe_callTy call_int1 (by rfl) T.int (by decide +kernel) (pa_cons (pe_op op_add (pe_op op_add (pe_callTy call_int1 (by rfl) T.int (by decide +kernel) (pa_cons (pv 0) pa_nil)) (pe_op op_mul pe_int (pv 1))) pe_int) pa_nil)) pe_int) pe_int))
        (pss_cons (ps_set (i := 2) sc_LawMix.nd rfl (Or.inl rfl) (pe_op op_mod (pe_callTy call_int1 (by rfl) T.int (by decide +kernel) (pa_cons (pe_op op_mul (pv 2) (pe_op op_add (pe_op op_fdiv (pv 2) pe_int) pe_int)) pa_nil)) pe_int))
        (pss_one (ps_ret (pe_op op_mod (pe_callTy call_int1 (by rfl) T.int (by decide +kernel) (pa_cons (pe_op op_mul (pv 2) (pe_op op_add (pe_op op_fdiv (pv 2) pe_int) pe_int)) pa_nil)) pe_int))))), ?_⟩
    refine ⟨_, rfl, .inl ⟨_, rfl, _, rfl, _, _, rfl, rfl, .inl ⟨by decide, by decide⟩, _, _, rfl, rfl, _, _, rfl, rfl, .inl ⟨_, rfl, ?_⟩⟩⟩
    refine ⟨_, _, rfl, rfl, .inr ⟨by decide, by decide⟩, _, _, rfl, rfl, by show (0 : Int) < 2147483647; decide, ?_⟩
    refine ⟨_, rfl, _, rfl, _, _, rfl, rfl, ⟨by decide, by decide⟩, _, _, rfl, rfl, _, _, rfl, rfl, cmulM _ _, .inl ⟨_, rfl, _, _, rfl, rfl, by show (0 : Int) < 2147483647; decide, ?_⟩⟩
    exact ⟨_, rfl, _, rfl, _, _, rfl, rfl, ⟨by decide, by decide⟩, _, _, rfl, rfl, _, _, rfl, rfl, cmulM _ _, .inl ⟨_, rfl, _, _, rfl, rfl, by show (0 : Int) < 2147483399; decide, q _⟩⟩
def spLawCell (K : PySem.W.Frag) : Sp := fun vs H Q _ => ∃ a ns k, vs = [.ref a, .int k] ∧ SqL K H a (List.map V.int ns) ∧ ns.length ≤ 63 ∧ 0 ≤ k ∧ ∀ n, Q (.int n) H
theorem ok_LawCell {f : Addr} {fd : FuncData} (F : FnP K "_law_cell" "_law_cell" sLawCell [] f fd) (T : Tx K mg) (C__law_mix : Cal P w K mg base 1 "_law_mix" ["_law_cell_here", "_law_k"] spLawMix) : FnOk P w K mg base CX0 2 f fd ["_law_script", "_law_k"] (spLawCell K) := by
  refine mk_fn F sc_LawCell (fun vs H Q E h => ?_) (fun cdv A outer s H vs Q E hr h => ?_)
  · obtain ⟨a, ns, k, rfl, _⟩ := h
    rfl
  · obtain ⟨a, ns, k, rfl, hs, l63, k0, q⟩ := h
    refine ⟨_, (pss_cons (ps_if (pt_cmpR op_lt (pv 1) (pe_callB call_len_seq (by rfl) T.len PySem.boot_len (pa_cons (pv 0) pa_nil)) (nomark _)) (pss_one (ps_ret (pe_callTy call_int1 (by rfl) T.int (by decide +kernel) (pa_cons (pe_ix ix_list (pv 0) (pv 1) (fun _ _ => rfl)) pa_nil)))) pss_nil)
        (pss_cons (ps_if (pt_cmpR op_eq (pe_callB call_len_seq (by rfl) T.len PySem.boot_len (pa_cons (pv 0) pa_nil)) pe_int (nomark _)) (pss_one (ps_ret (pv 1))) pss_nil)
        (pss_one (ps_ret (pc C__law_mix hr (pa_cons (pe_ix ix_list (pv 0) (pe_op op_mod (pe_callTy call_int1 (by rfl) T.int (by decide +kernel) (pa_cons (pv 1) pa_nil)) (pe_callB call_len_seq (by rfl) T.len PySem.boot_len (pa_cons (pv 0) pa_nil))) (fun _ _ => rfl)) (pa_cons (pv 1) pa_nil))))))), ?_⟩
    refine ⟨_, rfl, _, rfl, a, _, rfl, .inl hs, _, _, rfl, rfl, _, rfl, ?_⟩
    have el : (List.map V.int ns).length = ns.length := List.length_map _
    by_cases hk : k < ((List.map V.int ns).length : Nat)
    · rw [decide_eq_true hk]
      obtain ⟨n, hn, _⟩ := atI_ints k0 (show k < (ns.length : Int) by omega)
      exact iteT ⟨_, rfl, _, rfl, a, _, k, .int n, rfl, rfl, hs, hn, .inl ⟨_, rfl, q _⟩⟩
    · rw [decide_eq_false hk]
      refine iteF ⟨_, rfl, a, _, rfl, .inl hs, ?_⟩
      by_cases h0 : ns = []
      · subst h0
        exact ⟨rfl, _, rfl, iteT ⟨_, rfl, q _⟩⟩
      · have hl : 0 < ns.length := List.length_pos_iff.mpr h0
        refine ⟨rfl, _, rfl, ?_⟩
        rw [decide_eq_false (show ¬ V.int ((List.map V.int ns).length : Nat) = V.int 0 from fun z => by
          have z2 := V.int.inj z
          omega)]
        refine iteF ⟨_, rfl, _, rfl, .inl ⟨_, rfl, ?_⟩⟩
        have b1 := Int.emod_nonneg k (show (((List.map V.int ns).length : Nat) : Int) ≠ 0 by omega)
        have b2 := Int.emod_lt_of_pos k (show 0 < (((List.map V.int ns).length : Nat) : Int) by omega)
        obtain ⟨n, hn, _⟩ := atI_ints (l := ns) b1 (by rw [el] at b2 ⊢; exact b2)
        refine ⟨_, rfl, a, _, rfl, .inl hs, _, _, rfl, rfl, by show 0 < (((List.map V.int ns).length : Nat) : Int); omega, ?_⟩
        exact ⟨a, _, _, .int n, rfl, rfl, hs, hn, _, rfl, _, _, rfl, q⟩
/-- a row of digits for the sizes -/
def DigOk (rs sizes : List Int) : Prop := rs.length = sizes.length ∧ ∀ (k : Nat) (r s : Int), rs[k]? = some r → sizes[k]? = some s → 0 ≤ r ∧ r < s
def spLawRow : Sp := fun vs H Q _ => ∃ c a sizes, vs = [.int c, .ref a] ∧ H a = some (.lst (List.map V.int sizes)) ∧ sizes.length ≤ 100 ∧ (∀ s ∈ sizes, 0 < s ∧ s < 1000) ∧
  ∀ H' p rs, Same H H' → H p = none → H' p = some (.lst (List.map V.int rs)) → DigOk rs sizes → Q (.ref p) H'
theorem ok_LawRow {f : Addr} {fd : FuncData} (F : FnP K "_law_row" "_law_row" sLawRow [] f fd) (T : Tx K mg) (C__law_mix : Cal P w K mg base 1 "_law_mix" ["_law_cell_here", "_law_k"] spLawMix) : FnOk P w K mg base CX0 2 f fd ["_law_cell_here", "_law_sizes"] spLawRow := by
  refine mk_fn F sc_LawRow (fun vs H Q E h => ?_) (fun cdv A outer s H vs Q E hr h => ?_)
  · obtain ⟨c, a, sizes, rfl, _⟩ := h
    rfl
  · obtain ⟨c, a, sizes, rfl, ha, l100, sz, q⟩ := h
    have sl : (1000000 : Nat) < sizeLine := by decide
    refine ⟨_, (pss_cons (ps_set (i := 2) sc_LawRow.nd rfl (Or.inl rfl) (pe_lst pa_nil))
        (pss_cons (ps_set (i := 3) sc_LawRow.nd rfl (Or.inl rfl) (pe_callTy call_int1 (by rfl) T.int (by decide +kernel) (pa_cons (pv 0) pa_nil)))
        (pss_cons (ps_for PassesOwn.never rfl (pi_range1 rfl T.range (pa_cons (pe_callB call_len_seq (by rfl) T.len PySem.boot_len (pa_cons (pv 1) pa_nil)) pa_nil)) (pg_name (i := 4) sc_LawRow.nd rfl (Or.inl rfl))
        (pss_one (ps_if (pt_cmpR op_ge (pv 0) (pe_op op_pow pe_int pe_int) (nomark _)) (pss_cons (ps_expr (pe_bm PySem.F.plainAttrs_list PySem.F.slot_list_append PySem.F.type_list_append mt_append (pv 2) (pa_cons (pe_op op_mod (pe_callTy call_int1 (by rfl) T.int (by decide +kernel) (pa_cons (pv 3) pa_nil)) (pe_ix ix_list (pv 1) (pv 4) (fun _ _ => rfl))) pa_nil)))
        (pss_one (ps_set (i := 3) sc_LawRow.nd rfl (Or.inl rfl) (pe_op op_fdiv (pv 3) (pe_ix ix_list (pv 1) (pv 4) (fun _ _ => rfl)))))) (pss_one (ps_expr (pe_bm PySem.F.plainAttrs_list PySem.F.slot_list_append PySem.F.type_list_append mt_append (pv 2) (pa_cons (pe_op op_mod (pe_callTy call_int1 (by rfl) T.int (by decide +kernel) (pa_cons (pc C__law_mix hr (pa_cons (pv 0) (pa_cons (pv 4) pa_nil))) pa_nil)) (pe_ix ix_list (pv 1) (pv 4) (fun _ _ => rfl))) pa_nil)))))))
        (pss_one (ps_ret (pv 2)))))), ?_⟩
    refine ⟨Nat.zero_le _, fun R nR => ?_⟩
    have s1 := same_new (o := .lst []) nR
    refine ⟨_, rfl, .inl ⟨_, rfl, ?_⟩⟩
    have el : (List.map V.int sizes).length = sizes.length := List.length_map _
    refine ⟨_, rfl, a, _, rfl, .inl (SqL.of (s1 _ _ ha)), _, rfl, by omega, by omega, ?_⟩
    rw [Int.toNat_natCast, el]
    refine for_it walk_range (fun i σ H' => ∃ (rs : List Int) (rest : Int) (x4 : Option V), Same H H' ∧ H' R = some (.lst (List.map V.int rs)) ∧ DigOk rs (sizes.take i) ∧ σ = [some (.int c), some (.ref a), some (.ref R), some (.int rest), x4]) ⟨[], c, _, s1, upd_same, ⟨rfl, fun k r s h => nomatch h⟩, rfl⟩ (fun _ _ _ _ _ => trivial) ?_ ?_
    · rintro i v σ H1 H2 hi ⟨rs, rest, x4, s2, hR, dg, rfl⟩ ⟨rfl, rfl⟩
      have hz : sizes[i]? = some sizes[i] := List.getElem?_eq_getElem hi
      have hsz := sz _ (List.getElem_mem hi)
      have hix : atI (List.map V.int sizes) (0 + (i : Int)) = some (V.int sizes[i]) := by
        rw [Int.zero_add]
        exact atI_nat (by rw [List.getElem?_map, hz]; rfl)
      have ll : rs.length = i := by rw [dg.1, List.length_take]; omega
      have dsnoc : ∀ r : Int, 0 ≤ r → r < sizes[i] → DigOk (rs ++ [r]) (sizes.take (i + 1)) := fun r r0 r1 => by
        rw [take_snoc hz]
        refine ⟨by rw [List.length_append, List.length_append, dg.1]; rfl, fun k r' s' h1 h2 => ?_⟩
        by_cases e : k < rs.length
        · rw [List.getElem?_append_left e] at h1
          rw [List.getElem?_append_left (by rw [← dg.1]; exact e)] at h2
          exact dg.2 k r' s' h1 h2
        · rw [List.getElem?_append_right (by omega)] at h1
          rw [List.getElem?_append_right (by rw [← dg.1]; omega), ← dg.1] at h2
          cases e2 : k - rs.length with
          | zero =>
            rw [e2] at h1 h2
            cases h1
            cases h2
            exact ⟨r0, r1⟩
          | succ m =>
            rw [e2] at h1
            exact nomatch h1
      have fin : ∀ r : Int, 0 ≤ r → r < sizes[i] → ∃ L xs y, V.ref R = V.ref L ∧ [V.int r] = [y] ∧ H2 L = some (.lst xs) ∧ xs.length < sizeLine ∧ ∃ rs' : List Int, Same H (upd H2 L (.lst (xs ++ [y]))) ∧ upd H2 L (.lst (xs ++ [y])) R = some (.lst (List.map V.int rs')) ∧ DigOk rs' (sizes.take (i + 1)) := fun r r0 r1 =>
        ⟨R, _, _, rfl, rfl, hR, by rw [List.length_map]; omega, rs ++ [r], same_mut s2 nR, by rw [upd_same, List.map_append]; rfl, dsnoc r r0 r1⟩
      refine ⟨_, rfl, _, _, rfl, rfl, ⟨by decide, by decide, by decide⟩, _, _, rfl, rfl, _, rfl, ?_⟩
      by_cases hc : (10 : Int) ^ (18 : Int).toNat ≤ c
      · rw [decide_eq_true hc]
        refine iteT ?_
        refine ⟨_, rfl, .inl ⟨rfl, _, SqL.of hR⟩, _, rfl, .inl ⟨_, rfl, _, rfl, _, rfl, a, _, _, _, rfl, rfl, SqL.of (s2 _ _ ha), hix, _, _, rfl, rfl, hsz.1, ?_⟩⟩
        obtain ⟨L, xs, y, e1, e2, h1, h2, rs', h3, h4, h5⟩ := fin (rest % sizes[i]) (Int.emod_nonneg _ (by omega)) (Int.emod_lt_of_pos _ hsz.1)
        refine ⟨L, xs, y, e1, e2, h1, h2, ?_⟩
        refine ⟨_, rfl, _, rfl, _, rfl, a, _, _, _, rfl, rfl, SqL.of (h3 _ _ ha), hix, _, _, rfl, rfl, ⟨hsz.1, by omega⟩, ?_⟩
        exact ⟨rs', _, _, h3, h4, h5, rfl⟩
      · rw [decide_eq_false hc]
        refine iteF ?_
        refine ⟨_, rfl, .inl ⟨rfl, _, SqL.of hR⟩, _, rfl, _, rfl, _, _, rfl, fun n => .inl ⟨_, rfl, _, rfl, _, rfl, a, _, _, _, rfl, rfl, SqL.of (s2 _ _ ha), hix, _, _, rfl, rfl, hsz.1, ?_⟩⟩
        obtain ⟨L, xs, y, e1, e2, h1, h2, rs', h3, h4, h5⟩ := fin (n % sizes[i]) (Int.emod_nonneg _ (by omega)) (Int.emod_lt_of_pos _ hsz.1)
        exact ⟨L, xs, y, e1, e2, h1, h2, rs', _, _, h3, h4, h5, rfl⟩
    · rintro σ H1 ⟨rs, rest, x4, s2, hR, dg, rfl⟩
      rw [List.take_length] at dg
      exact ⟨_, rfl, q _ R rs s2 nR hR dg⟩
end
end Kn

end
section
set_option maxHeartbeats 4000000
/-! law helpers: names. -/
namespace Kn
open PySem PySem.Spec PyProof.Rows L2
theorem sc_LawNames : FnScope ["_law_cell_here", "_law_many", "_law_row_here", "_law_names_here", "_law_k", "_law_own", "_law_text", "_law_at", "_law_letter", "_law_digit"] ["_law_cell_here", "_law_many"] (defScope sLawNames) := ⟨rfl, rfl, rfl, by decide +kernel, rfl, by decide +kernel, by decide +kernel⟩
def sgn (z : Str) : List Nat := z.cps.toList.filter fun c => decide (110 ≤ c)
/-- the k-th name of a row of names, with seed r -/
structure NmAt (r : Int) (k : Nat) (z : Str) : Prop where
  sg : sgn z = [110 + ((r + 5 * (k : Int)) % 13).toNat]
  le : z.length ≤ 6
  ab : ∀ c ∈ z.cps.toList, 97 ≤ c ∧ c ≤ 122
def sizesN : List Int := [13, 2, 6] ++ (List.replicate 9 [6, 13, 13, 13, 13, 13]).flatten
theorem sizesN_at : ∀ k : Nat, k < 9 → sizesN[3 + 6 * k]? = some 6 ∧ ∀ j : Nat, j < 5 → sizesN[3 + 6 * k + 1 + j]? = some 13 := by
  intro k hk
  have h : ∀ k : Fin 9, sizesN[3 + 6 * k.val]? = some 6 ∧ ∀ j : Fin 5, sizesN[3 + 6 * k.val + 1 + j.val]? = some 13 := by decide +kernel
  exact ⟨(h ⟨k, hk⟩).1, fun j hj => (h ⟨k, hk⟩).2 ⟨j, hj⟩⟩
theorem low_at : ∀ j : Nat, j < 13 → ("abcdefghijklm" : Str).cps.toList[j]? = some (97 + j) := by
  intro j hj
  have h : ∀ j : Fin 13, ("abcdefghijklm" : Str).cps.toList[j.val]? = some (97 + j.val) := by decide +kernel
  exact h ⟨j, hj⟩
theorem high_at : ∀ j : Nat, j < 13 → ("nopqrstuvwxyz" : Str).cps.toList[j]? = some (110 + j) := by
  intro j hj
  have h : ∀ j : Fin 13, ("nopqrstuvwxyz" : Str).cps.toList[j.val]? = some (110 + j.val) := by decide +kernel
  exact h ⟨j, hj⟩
theorem cps_append (a b : Str) : (a ++ b).cps.toList = a.cps.toList ++ b.cps.toList := by
  show (a.cps ++ b.cps).toList = _
  exact Array.toList_append
theorem join_chars : ∀ l : List Nat, (PySem.Str.join ("" : Str) (l.map fun c => (⟨#[c]⟩ : Str))).cps.toList = l
  | [] => by decide +kernel
  | [c] => rfl
  | c :: d :: l => by
    have ih := join_chars (d :: l)
    rw [List.map_cons] at ih
    show ((⟨#[c]⟩ : Str) ++ ("" : Str) ++ PySem.Str.join ("" : Str) ((⟨#[d]⟩ : Str) :: l.map fun c => (⟨#[c]⟩ : Str))).cps.toList = _
    rw [cps_append, cps_append, ih]
    rfl
theorem cutV_map (l : List Int) (b n : Nat) : cutV (l.map V.int) (some (b : Int)) (some ((b + n : Nat) : Int)) = ((l.drop b).take n).map V.int := by
  unfold cutV
  rw [HT.sIx_nat, HT.sIx_nat, List.length_map]
  by_cases h : b ≤ l.length
  · rw [Nat.min_eq_left h]
    rw [← List.map_drop, ← List.map_take]
    by_cases h2 : b + n ≤ l.length
    · rw [Nat.min_eq_left h2, Nat.add_sub_cancel_left]
    · rw [Nat.min_eq_right (by omega), List.take_of_length_le (by rw [List.length_drop]; exact Nat.le_refl _), List.take_of_length_le (by rw [List.length_drop]; omega)]
  · rw [Nat.min_eq_right (by omega), Nat.min_eq_right (by omega), Nat.sub_self, List.take_zero, List.drop_of_length_le (by omega : l.length ≤ b), List.take_nil]
    rfl
/-- what a digit row tells of a cut -/
structure OwnAt (own : List Int) : Prop where
  len : own.length = 6
  h0 : ∃ n : Nat, n ≤ 5 ∧ own[0]? = some (n : Int)
  hd : ∀ (j : Nat) (d : Int), own[1 + j]? = some d → 0 ≤ d ∧ d < 13
theorem own_at {rs : List Int} (D : DigOk rs sizesN) {k : Nat} (hk : k < 9) : OwnAt ((rs.drop (3 + 6 * k)).take 6) := by
  have l57 : rs.length = 57 := D.1.trans (by decide +kernel)
  obtain ⟨h1, h2⟩ := sizesN_at k hk
  have g : ∀ j, j < 6 → ((rs.drop (3 + 6 * k)).take 6)[j]? = rs[3 + 6 * k + j]? := fun j hj => by
    rw [List.getElem?_take_of_lt hj, List.getElem?_drop]
  refine ⟨by rw [List.length_take, List.length_drop]; omega, ?_, fun j d h => ?_⟩
  · have hl : 3 + 6 * k < rs.length := by omega
    have := D.2 (3 + 6 * k) _ _ (List.getElem?_eq_getElem hl) h1
    refine ⟨rs[3 + 6 * k].toNat, by omega, ?_⟩
    rw [g 0 (by omega), Nat.add_zero, List.getElem?_eq_getElem hl]
    congr 1
    omega
  · have hj : 1 + j < 6 := by
      have := (List.getElem?_eq_some_iff.mp h).1
      rw [List.length_take] at this
      omega
    rw [g _ hj] at h
    have := D.2 (3 + 6 * k + (1 + j)) d 13 h (by rw [← Nat.add_assoc]; exact h2 j (by omega))
    exact this
section
variable {P : Program} {w : World} {K : PySem.W.Frag} {mg : Str → Option Value} {base : Heap} {C CW : Addr}
/-- nine names -/
structure NmsAt (r : Int) (zs : List Str) : Prop where
  at_ : ∀ k z, zs[k]? = some z → NmAt r k z
theorem nm_of {own : List Int} (O : OwnAt own) {m : Nat} (hm : own[0]? = some (m : Int)) (hm5 : m ≤ 5) {r : Int} {k : Nat} {txt : Str} {at_ : Nat} (ht : txt.cps.toList = ((own.drop 1).take m).map fun d => 97 + d.toNat) (hat : at_ ≤ txt.length) {zc : Nat} (hc : zc = 110 + ((r + 5 * (k : Int)) % 13).toNat) :
    NmAt r k (cutS txt none (some (at_ : Int)) ++ (⟨#[zc]⟩ : Str) ++ cutS txt (some (at_ : Int)) none) := by
  have ln : txt.length = txt.cps.toList.length := rfl
  have e : (cutS txt none (some (at_ : Int)) ++ (⟨#[zc]⟩ : Str) ++ cutS txt (some (at_ : Int)) none).cps.toList = txt.cps.toList.take at_ ++ [zc] ++ txt.cps.toList.drop at_ := by
    rw [cps_append, cps_append]
    have e1 : (cutS txt none (some (at_ : Int))).cps.toList = txt.cps.toList.take at_ := by
      show (txt.cps.toList.drop 0).take (HT.sIx txt.length txt.length (some (at_ : Int)) - 0) = _
      rw [HT.sIx_nat, Nat.min_eq_left hat]
      rfl
    have e2 : (cutS txt (some (at_ : Int)) none).cps.toList = txt.cps.toList.drop at_ := by
      show (txt.cps.toList.drop (HT.sIx txt.length 0 (some (at_ : Int)))).take (txt.length - HT.sIx txt.length 0 (some (at_ : Int))) = _
      rw [HT.sIx_nat, Nat.min_eq_left hat, List.take_of_length_le (by rw [List.length_drop]; exact Nat.le_refl _)]
    rw [e1, e2]
  have low : ∀ c ∈ txt.cps.toList, 97 ≤ c ∧ c < 110 := fun c hc => by
    rw [ht] at hc
    obtain ⟨d, hd, rfl⟩ := List.mem_map.mp hc
    obtain ⟨j, hj⟩ := List.mem_iff_getElem?.mp (List.mem_of_mem_take hd)
    rw [List.getElem?_drop] at hj
    have := O.hd j d hj
    omega
  have b := Int.emod_nonneg (r + 5 * (k : Int)) (show (13 : Int) ≠ 0 by decide)
  have b2 := Int.emod_lt_of_pos (r + 5 * (k : Int)) (show (0 : Int) < 13 by decide)
  refine ⟨?_, ?_, ?_⟩
  · unfold sgn
    rw [e, List.filter_append, List.filter_append]
    have f1 : (txt.cps.toList.take at_).filter (fun c => decide (110 ≤ c)) = [] := List.filter_eq_nil_iff.mpr fun c hc => by
      have := low c (List.mem_of_mem_take hc)
      simp only [decide_eq_true_eq]
      omega
    have f2 : (txt.cps.toList.drop at_).filter (fun c => decide (110 ≤ c)) = [] := List.filter_eq_nil_iff.mpr fun c hc => by
      have := low c (List.mem_of_mem_drop hc)
      simp only [decide_eq_true_eq]
      omega
    rw [f1, f2, List.filter_cons, if_pos (decide_eq_true (show 110 ≤ zc by omega)), ← hc]
    rfl
  · show (cutS txt none (some (at_ : Int)) ++ (⟨#[zc]⟩ : Str) ++ cutS txt (some (at_ : Int)) none).cps.toList.length ≤ 6
    rw [e, List.length_append, List.length_append, List.length_take, List.length_drop, ht, List.length_map, List.length_take]
    show _ + 1 + _ ≤ 6
    omega
  · intro c hc'
    rw [e] at hc'
    rcases List.mem_append.mp hc' with h | h
    · rcases List.mem_append.mp h with h | h
      · have := low c (List.mem_of_mem_take h)
        omega
      · rw [List.mem_singleton.mp h]
        omega
    · have := low c (List.mem_of_mem_drop h)
      omega
def spLawNames : Sp := fun vs H Q _ => ∃ c, vs = [.int c, .int 9] ∧
  ∀ H' p r zs, Same H H' → H p = none → H' p = some (.lst (List.map V.str zs)) → zs.length = 9 → NmsAt r zs → Q (.ref p) H'
theorem ok_LawNames {f : Addr} {fd : FuncData} (F : FnP K "_law_names" "_law_names" sLawNames [] f fd) (T : Tx K mg) (C__law_row : Cal P w K mg base 2 "_law_row" ["_law_cell_here", "_law_sizes"] spLawRow) : FnOk P w K mg base CX0 3 f fd ["_law_cell_here", "_law_many"] spLawNames := by
  refine mk_fn F sc_LawNames (fun vs H Q E h => ?_) (fun cdv A outer s H vs Q E hr h => ?_)
  · obtain ⟨c, rfl, _⟩ := h
    rfl
  · obtain ⟨c, rfl, q⟩ := h
    have sl : (1000000 : Nat) < sizeLine := by decide
    refine ⟨_, (pss_cons (ps_set (i := 2) sc_LawNames.nd rfl (Or.inl rfl) (pc C__law_row hr (pa_cons (pv 0) (pa_cons (pe_op op_cat (pe_lst (pa_cons pe_int (pa_cons pe_int (pa_cons pe_int pa_nil)))) (pe_op op_rep (pe_lst (pa_cons pe_int (pa_cons pe_int (pa_cons pe_int (pa_cons pe_int (pa_cons pe_int (pa_cons pe_int pa_nil))))))) (pv 1))) pa_nil))))
        (pss_cons (ps_set (i := 3) sc_LawNames.nd rfl (Or.inl rfl) (pe_lst pa_nil))
        (pss_cons (ps_for PassesOwn.never rfl (pi_range1 rfl T.range (pa_cons (pv 1) pa_nil)) (pg_name (i := 4) sc_LawNames.nd rfl (Or.inl rfl))
        (pss_cons (ps_set (i := 5) sc_LawNames.nd rfl (Or.inl rfl) (pe_slice sl_list (pv 2) (po_some (pe_op op_add pe_int (pe_op op_mul pe_int (pv 4)))) (po_some (pe_op op_add pe_int (pe_op op_mul pe_int (pv 4))))))
        (pss_cons (ps_if (pt_cmpR op_eq (pe_ix ix_list (pv 2) pe_int (fun _ _ => rfl)) pe_int (nomark _)) (pss_one (ps_set (i := 5) sc_LawNames.nd rfl (Or.inl rfl) (pe_slice sl_list (pv 2) (po_some pe_int) (po_some pe_int)))) pss_nil)
        (pss_cons (ps_set (i := 6) sc_LawNames.nd rfl (Or.inl rfl) (pe_join pe_str (pe_lc rfl sc_LawNames.nd (pi_list (pe_slice sl_list (pv 5) (po_some pe_int) (po_some (pe_op op_add pe_int (pe_ix ix_list (pv 5) pe_int (fun _ _ => rfl)))))) (blkOk_by (own := [("_law_digit", 9)]) (N := ["_law_cell_here", "_law_many", "_law_row_here", "_law_names_here", "_law_k", "_law_own", "_law_text", "_law_at", "_law_letter", "_law_digit"]) (sc := defScope sLawNames) (by decide +kernel)) (fun _ _ _ _ _ => (pg_name (i := 9) sc_LawNames.nd rfl (Or.inl rfl))) (fun _ _ _ _ _ => pts_nil) (fun _ _ _ _ _ => (pe_ix ix_str pe_str (pv 9) (fun _ _ => rfl))))))
        (pss_cons (ps_set (i := 7) sc_LawNames.nd rfl (Or.inl rfl) (pe_op op_mod (pe_callTy call_int1 (by rfl) T.int (by decide +kernel) (pa_cons (pe_ix ix_list (pv 2) pe_int (fun _ _ => rfl)) pa_nil)) (pe_op op_add (pe_callB call_len_str (by rfl) T.len PySem.boot_len (pa_cons (pv 6) pa_nil)) pe_int)))
        (pss_cons (ps_set (i := 8) sc_LawNames.nd rfl (Or.inl rfl) (pe_ix ix_str pe_str (pe_op op_mod (pe_callTy call_int1 (by rfl) T.int (by decide +kernel) (pa_cons (pe_op op_add (pe_ix ix_list (pv 2) pe_int (fun _ _ => rfl)) (pe_op op_mul pe_int (pv 4))) pa_nil)) pe_int) (fun _ _ => rfl)))
        (pss_one (ps_expr (pe_bm PySem.F.plainAttrs_list PySem.F.slot_list_append PySem.F.type_list_append mt_append (pv 3) (pa_cons (pe_op op_add_str (pe_op op_add_str (pe_slice sl_str (pv 6) po_none (po_some (pv 7))) (pv 8)) (pe_slice sl_str (pv 6) (po_some (pv 7)) po_none)) pa_nil))))))))))
        (pss_one (ps_ret (pv 3)))))), ?_⟩
    refine ⟨_, rfl, by show 3 ≤ sizeLine; decide, fun a1 n1 => ⟨by show 6 ≤ sizeLine; decide, fun a2 n2 => ⟨_, rfl, a2, 9, _, rfl, rfl, upd_same, by decide, by decide, by show 6 * 9 ≤ sizeLine; decide, fun a3 n3 => ?_⟩⟩⟩
    have t1 := same_new (o := .lst [V.int 13, V.int 2, V.int 6]) n1
    have t2 := same_new (o := .lst [V.int 6, V.int 13, V.int 13, V.int 13, V.int 13, V.int 13]) n2
    have t3 := same_new (o := .lst (List.replicate (9 : Int).toNat [V.int 6, V.int 13, V.int 13, V.int 13, V.int 13, V.int 13]).flatten) n3
    refine ⟨a1, a3, _, _, rfl, rfl, t3 _ _ (t2 _ _ upd_same), upd_same, by show 57 ≤ sizeLine; decide, fun a4 n4 => ?_⟩
    refine ⟨c, a4, sizesN, rfl, by rw [upd_same]; rfl, by decide, by decide, fun H1 R rs s0 nR0 hR D => ?_⟩
    have s1 := ((t1.trans t2).trans t3).trans ((same_new n4).trans s0)
    have nR := ((t1.trans t2).trans t3).trans (same_new (o := _) n4) |>.free nR0
    refine ⟨Nat.zero_le _, fun N nN => ?_⟩
    have s2 := same_new (o := .lst []) nN
    have l57 : rs.length = 57 := D.1.trans (by decide +kernel)
    have hR2 := s2 _ _ hR
    have nNR : N ≠ R := Ne.symm (ne_new hR nN)
    have nN0 := s1.free nN
    refine ⟨_, rfl, _, rfl, by decide, by decide, ?_⟩
    obtain ⟨r0, hr0⟩ : ∃ r0, rs[0]? = some r0 := ⟨_, List.getElem?_eq_getElem (by omega)⟩
    obtain ⟨r1, hr1⟩ : ∃ r1, rs[1]? = some r1 := ⟨_, List.getElem?_eq_getElem (by omega)⟩
    obtain ⟨r2, hr2⟩ : ∃ r2, rs[2]? = some r2 := ⟨_, List.getElem?_eq_getElem (by omega)⟩
    have ai : ∀ {j : Nat} {r : Int}, rs[j]? = some r → atI (List.map V.int rs) (j : Int) = some (.int r) := fun h => atI_nat (by rw [List.getElem?_map, h]; rfl)
    refine for_it walk_range (fun i σ H' => ∃ (zs : List Str) (x4 x5 x6 x7 x8 x9 : Option V), Same H H' ∧ H' R = some (.lst (List.map V.int rs)) ∧ H' N = some (.lst (List.map V.str zs)) ∧ zs.length = i ∧ NmsAt r0 zs ∧ σ = [some (.int c), some (.int 9), some (.ref R), some (.ref N), x4, x5, x6, x7, x8, x9])
      ⟨[], _, _, _, _, _, _, s1.trans s2, hR2, upd_same, rfl, ⟨fun k z h => nomatch h⟩, rfl⟩ (fun _ _ _ _ _ => trivial) ?_ ?_
    · rintro i v σ H3 H4 hi ⟨zs, x4, x5, x6, x7, x8, x9, s3, hR3, hN3, lz, nz, rfl⟩ ⟨rfl, rfl⟩
      have hi9 : i < 9 := hi
      refine ⟨_, rfl, _, rfl, _, _, rfl, rfl, .inl ⟨by decide, by decide⟩, _, _, rfl, rfl, _, rfl, _, rfl, _, _, rfl, rfl, .inl ⟨by decide, by decide⟩, _, _, rfl, rfl, _, rfl, R, _, rfl, SqL.of hR3, fun O nO => ?_⟩
      have eb : (3 : Int) + 6 * (0 + (i : Int)) = ((3 + 6 * i : Nat) : Int) := by omega
      have eb2 : (9 : Int) + 6 * (0 + (i : Int)) = ((3 + 6 * i + 6 : Nat) : Int) := by omega
      have hO := upd_same (H := H4) (a := O) (o := .lst (cutV (List.map V.int rs) (some (3 + 6 * (0 + (i : Int)))) (some (9 + 6 * (0 + (i : Int))))))
      have so := same_new (o := .lst (cutV (List.map V.int rs) (some (3 + 6 * (0 + (i : Int)))) (some (9 + 6 * (0 + (i : Int)))))) nO
      rw [eb, eb2, cutV_map] at hO so ⊢
      have sO := s3.trans so
      have hR5 := so _ _ hR3
      have hN5 := so _ _ hN3
      generalize upd H4 O (.lst (List.map V.int ((rs.drop (3 + 6 * i)).take 6))) = H5 at hO so sO hR5 hN5 ⊢
      obtain ⟨own, hown, eown⟩ : ∃ own, OwnAt own ∧ (rs.drop (3 + 6 * i)).take 6 = own := ⟨_, own_at D hi9, rfl⟩
      rw [eown] at hO
      refine ⟨_, rfl, R, _, _, _, rfl, rfl, SqL.of hR5, ai hr1, rfl, _, rfl, ?_⟩
      clear so eown
      by_cases h1 : V.int r1 = V.int 1
      case' pos =>
        rw [decide_eq_true h1]
        refine iteT ⟨_, rfl, _, rfl, _, rfl, R, _, rfl, SqL.of hR5, fun O nO => ?_⟩
        have e1 : cutV (List.map V.int rs) (some 3) (some 9) = ((rs.drop 3).take 6).map V.int := cutV_map rs 3 6
        have so := same_new (o := .lst (((rs.drop 3).take 6).map V.int)) nO
        have hO := upd_same (H := H5) (a := O) (o := .lst (((rs.drop 3).take 6).map V.int))
        rw [e1]
        have sO := sO.trans so
        have hR5 := so _ _ hR5
        have hN5 := so _ _ hN5
        generalize upd H5 O (.lst (List.map V.int ((rs.drop 3).take 6))) = H5 at hO so sO hR5 hN5 ⊢
        obtain ⟨own, hown, eown⟩ : ∃ own, OwnAt own ∧ (rs.drop 3).take 6 = own := ⟨_, own_at D (k := 0) (by decide), rfl⟩
        rw [eown] at hO
        clear so eown
      case' neg =>
        rw [decide_eq_false h1]
        refine iteF ?_
      all_goals
        obtain ⟨m, hm5, hm⟩ := hown.h0
        obtain ⟨dg, hdg⟩ : ∃ dg, dg = (own.drop 1).take m := ⟨_, rfl⟩
        have dg13 : ∀ (j : Nat) (d : Int), dg[j]? = some d → 0 ≤ d ∧ d < 13 := fun j d h => by
          rw [hdg] at h
          obtain ⟨hj, _⟩ := List.getElem?_eq_some_iff.mp h
          rw [List.length_take] at hj
          rw [List.getElem?_take_of_lt (by omega), List.getElem?_drop] at h
          exact hown.hd j d h
        have ldg : dg.length ≤ 5 := by rw [hdg, List.length_take]; omega
        have ai5 : atI (List.map V.int own) (0 : Int) = some (.int (m : Int)) := atI_nat (j := 0) (by rw [List.getElem?_map, hm]; rfl)
        have ec : cutV (List.map V.int own) (some 1) (some (1 + (m : Int))) = dg.map V.int := by
          have := cutV_map own 1 m
          rw [← hdg] at this
          rw [← this]
          congr 2
        refine ⟨⟨_, rfl⟩, _, rfl, _, rfl, _, rfl, O, _, _, _, rfl, rfl, SqL.of hO, ai5, _, _, rfl, rfl, _, rfl, O, _, rfl, SqL.of hO, fun G nG => ?_⟩
        rw [ec]
        refine ⟨G, rfl, ⟨_, SqL.of upd_same⟩, fun J nJ => ?_⟩
        have sg := same_new (o := .lst (dg.map V.int)) nG
        have hG := upd_same (H := H5) (a := G) (o := .lst (dg.map V.int))
        generalize upd H5 G (.lst (dg.map V.int)) = H6 at sg hG nJ ⊢
        refine lc_it walk_list (fun i H' => Same H6 H' ∧ H' J = some (.lst (((dg.take i).map fun d => (⟨#[97 + d.toNat]⟩ : Str)).map V.str))) ⟨same_new nJ, upd_same⟩ (fun i H' _ h => SqL.of (h.1 _ _ hG)) ?_ ?_
        · rintro j v H7 H8 hj ⟨s7, hJ⟩ ⟨rfl, e1⟩
          rw [List.getElem?_map] at e1
          obtain ⟨d, hd, e2⟩ := Option.map_eq_some_iff.mp e1
          subst e2
          have hd13 := dg13 j d hd
          refine ⟨rfl, _, rfl, _, d, 97 + d.toNat, rfl, rfl, by show 13 ≤ sizeLine; decide, atI_int hd13.1 (low_at _ (by omega)), _, hJ, by rw [List.length_map, List.length_map, List.length_take]; omega, same_mut s7 nJ, ?_⟩
          rw [upd_same, take_snoc hd, List.map_append, List.map_append]
          rfl
        · rintro H7 ⟨s7, hJ⟩
          have ef : dg.take (dg.map V.int).length = dg := by
            rw [List.length_map]
            exact List.take_length
          rw [ef] at hJ
          have sI := sO.trans (sg.trans s7)
          have hR7 := s7 _ _ (sg _ _ hR5)
          have hN7 := s7 _ _ (sg _ _ hN5)
          have hls : ∀ l : List Int, ((l.map fun d => (⟨#[97 + d.toNat]⟩ : Str)).map (·.length)).sum = l.length := fun l => by
            induction l with
            | nil => rfl
            | cons x l ih =>
              rw [List.map_cons, List.map_cons, List.sum_cons, ih, List.length_cons]
              show 1 + _ = _
              omega
          have hcps : (Txt.join ("" : Str) (dg.map fun d => (⟨#[97 + d.toNat]⟩ : Str))).cps.toList = dg.map fun d => 97 + d.toNat := by
            rw [TL.join_eq]
            have z := join_chars (dg.map fun d => 97 + d.toNat)
            rw [List.map_map] at z
            exact z
          refine ⟨_, J, dg.map fun d => (⟨#[97 + d.toNat]⟩ : Str), rfl, rfl, .inl (SqL.of hJ), by rw [hls, List.length_map, show ("" : Str).length = 0 by decide +kernel]; omega, ?_⟩
          generalize Txt.join ("" : Str) (dg.map fun d => (⟨#[97 + d.toNat]⟩ : Str)) = txt at hcps ⊢
          have lt : txt.length ≤ 5 := by
            show txt.cps.toList.length ≤ 5
            rw [hcps, List.length_map]
            exact ldg
          refine ⟨_, rfl, R, _, _, _, rfl, rfl, SqL.of hR7, ai hr2, .inl ⟨_, rfl, _, rfl, _, rfl, by omega, _, _, rfl, rfl, _, _, rfl, rfl, by show (0 : Int) < (txt.length : Int) + 1; omega, ?_⟩⟩
          have a1 := Int.emod_nonneg r2 (show ((txt.length : Int) + 1) ≠ 0 by omega)
          have a2 := Int.emod_lt_of_pos r2 (show 0 < ((txt.length : Int) + 1) by omega)
          obtain ⟨at_, hat⟩ : ∃ at_ : Nat, r2 % ((txt.length : Int) + 1) = (at_ : Int) := ⟨(r2 % ((txt.length : Int) + 1)).toNat, by omega⟩
          have b1 := Int.emod_nonneg (r0 + 5 * (0 + (i : Int))) (show (13 : Int) ≠ 0 by decide)
          have b2 := Int.emod_lt_of_pos (r0 + 5 * (0 + (i : Int))) (show (0 : Int) < 13 by decide)
          refine ⟨_, rfl, R, _, _, _, rfl, rfl, SqL.of hR7, ai hr0, _, rfl, _, _, rfl, rfl, .inl ⟨by decide, by decide⟩, _, _, rfl, rfl, .inl ⟨_, rfl, _, _, rfl, rfl, by show (0 : Int) < 13; decide, _, _, 110 + ((r0 + 5 * (0 + (i : Int))) % 13).toNat, rfl, rfl, by show 13 ≤ sizeLine; decide, atI_int b1 (high_at _ (by omega)), ?_⟩⟩
          have nm := nm_of (at_ := at_) hown hm hm5 (r := r0) (k := i) (txt := txt) (zc := 110 + ((r0 + 5 * (0 + (i : Int))) % 13).toNat) (by rw [hcps, hdg]) (by omega) (by rw [Int.zero_add])
          rw [← hat] at nm
          have lN : (List.map V.str zs).length < sizeLine := by rw [List.length_map]; omega
          have ltot := nm.le
          have lpre : (cutS txt none (some (r2 % ((txt.length : Int) + 1)))).length + 1 ≤ 6 ∧ ((cutS txt none (some (r2 % ((txt.length : Int) + 1)))).length + 1) + (cutS txt (some (r2 % ((txt.length : Int) + 1))) none).length ≤ 6 := by
            have e : (cutS txt none (some (r2 % ((txt.length : Int) + 1))) ++ (⟨#[110 + ((r0 + 5 * (0 + (i : Int))) % 13).toNat]⟩ : Str) ++ cutS txt (some (r2 % ((txt.length : Int) + 1))) none).cps.toList.length ≤ 6 := ltot
            rw [cps_append, cps_append, List.length_append, List.length_append] at e
            constructor
            · show (cutS txt none (some (r2 % ((txt.length : Int) + 1)))).cps.toList.length + 1 ≤ 6
              have : ([110 + ((r0 + 5 * (0 + (i : Int))) % 13).toNat] : List Nat).length = 1 := rfl
              simp only [List.length_cons, List.length_nil] at e
              omega
            · exact e
          refine ⟨_, rfl, .inl ⟨rfl, _, SqL.of hN7⟩, _, rfl, _, rfl, _, rfl, _, rfl, by omega, _, rfl, _, _, rfl, rfl, by show _ + 1 ≤ sizeLine; omega, _, rfl, _, rfl, _, rfl, _, rfl, by omega, _, _, rfl, rfl, ?_, N, _, _, rfl, rfl, hN7, lN, ?_⟩
          · refine Nat.le_trans (show ((cutS txt none (some (r2 % ((txt.length : Int) + 1)))) ++ (⟨#[110 + ((r0 + 5 * (0 + (i : Int))) % 13).toNat]⟩ : Str)).cps.toList.length + (cutS txt (some (r2 % ((txt.length : Int) + 1))) none).cps.toList.length ≤ 6 from ?_) (by omega)
            rw [cps_append, List.length_append]
            exact lpre.2
          · refine ⟨zs ++ [_], _, _, _, _, _, _, same_mut sI nN0, up_ne hR7 (Ne.symm nNR), by rw [upd_same, List.map_append]; rfl, by rw [List.length_append, lz]; rfl, ⟨fun k z hk => ?_⟩, rfl⟩
            by_cases e : k < zs.length
            · rw [List.getElem?_append_left e] at hk
              exact nz.at_ k z hk
            · rw [List.getElem?_append_right (by omega)] at hk
              have hk0 : k - zs.length = 0 := by
                cases e2 : k - zs.length with
                | zero => rfl
                | succ m =>
                  rw [e2] at hk
                  exact nomatch hk
              rw [hk0] at hk
              have ek : k = i := by omega
              rw [ek, ← Option.some.inj hk]
              exact nm
    · rintro σ H3 ⟨zs, x4, x5, x6, x7, x8, x9, s3, hR3, hN3, lz, nz, rfl⟩
      exact ⟨_, rfl, q _ N r0 zs s3 nN0 hN3 lz nz⟩
end
end Kn

end
section
set_option maxHeartbeats 4000000
/-! law helpers: machine. -/
namespace Kn
open PySem PySem.Spec PyProof.Rows L2
theorem sc_LawMachine : FnScope ["_law_cell_here", "_law_names_here", "_law_most", "_law_extra", "_law_sizes", "_law_row_here", "_law_many", "_law_stride", "_law_labels", "_law_steps", "_law_k", "_law_turn", "_law_word", "_law_at", "_law_step", "_law_target"] ["_law_cell_here", "_law_names_here", "_law_most", "_law_extra"] (defScope sLawMachine) := ⟨rfl, rfl, rfl, by decide +kernel, rfl, by decide +kernel, by decide +kernel⟩
def sizesM : List Int := [3, 2, 100, 8, 64] ++ (List.replicate 3 [3, 3]).flatten ++ (List.replicate 1 [3, 6, 3]).flatten
theorem sizesM_at : ∀ j : Nat, j < 6 → sizesM[5 + j]? = some 3 := by
  intro k hk
  have h : ∀ k : Fin 6, sizesM[5 + k.val]? = some 3 := by decide +kernel
  exact h ⟨k, hk⟩
/-- the rows that the law draws -/
structure LM (labs : List Int) (zs : List Str) (n : Nat) (rows : List Row) : Prop where
  src : ∀ r ∈ rows, r.1 ∈ labs ∧ r.2.2 ∈ labs ∧ r.2.1 ∈ zs
  live : ∀ l ∈ labs, ∃ r ∈ rows, r.1 = l
  nd : rows.Nodup
  few : ∀ s, cnt rows s ≤ n
  len : rows.length ≤ 2 + n
theorem LM.snoc {labs : List Int} {zs : List Str} {n : Nat} {rows : List Row} (h : LM labs zs n rows) {r : Row} (hn : ¬ r ∈ rows) (h1 : r.1 ∈ labs) (h2 : r.2.2 ∈ labs) (h3 : r.2.1 ∈ zs) : LM labs zs (n + 1) (rows ++ [r]) where
  src := fun x hx => by
    rcases List.mem_append.mp hx with z | z
    · exact h.src x z
    · rw [List.mem_singleton.mp z]
      exact ⟨h1, h2, h3⟩
  live := fun l hl => let ⟨x, a, b⟩ := h.live l hl; ⟨x, List.mem_append_left _ a, b⟩
  nd := nodup_snoc h.nd hn
  few := fun s => by
    rw [cnt_snoc]
    have := h.few s
    split <;> omega
  len := by
    rw [List.length_append]
    have := h.len
    show _ + 1 ≤ _
    omega
theorem LM.mono {labs : List Int} {zs : List Str} {n m : Nat} {rows : List Row} (h : LM labs zs n rows) (hm : n ≤ m) : LM labs zs m rows := ⟨h.src, h.live, h.nd, fun s => Nat.le_trans (h.few s) hm, Nat.le_trans h.len (by omega)⟩
theorem LM.perm {labs : List Int} {zs : List Str} {n : Nat} {rows rows' : List Row} (h : LM labs zs n rows) (p : rows'.Perm rows) : LM labs zs n rows' where
  src := fun x hx => h.src x (p.mem_iff.mp hx)
  live := fun l hl => let ⟨x, a, b⟩ := h.live l hl; ⟨x, p.mem_iff.mpr a, b⟩
  nd := p.nodup_iff.mpr h.nd
  few := fun s => by
    have : cnt rows' s = cnt rows s := (p.filter _).length_eq
    rw [this]
    exact h.few s
  len := by rw [p.length_eq]; exact h.len
theorem cnt_le_one : ∀ {rows : List Row}, (rows.map (·.1)).Nodup → ∀ s, cnt rows s ≤ 1
  | [], _, s => Nat.zero_le _
  | r :: rows, h, s => by
    obtain ⟨h1, h2⟩ := List.nodup_cons.mp (show (r.1 :: rows.map (·.1)).Nodup from h)
    have ih := cnt_le_one h2 s
    unfold cnt at ih ⊢
    rw [List.filter_cons]
    by_cases e : r.1 = s
    · rw [if_pos (decide_eq_true e)]
      have z : rows.filter (fun r => decide (r.1 = s)) = [] := List.filter_eq_nil_iff.mpr fun x hx y => h1 (List.mem_map.mpr ⟨x, hx, (of_decide_eq_true y).trans e.symm⟩)
      rw [z]
      exact Nat.le_refl _
    · rw [if_neg (by simp [e])]
      exact ih
theorem nodup_of_map {α β : Type} {f : α → β} : ∀ {l : List α}, (l.map f).Nodup → l.Nodup
  | [], _ => List.nodup_nil
  | x :: l, h => by
    obtain ⟨h1, h2⟩ := List.nodup_cons.mp (show (f x :: l.map f).Nodup from h)
    exact List.nodup_cons.mpr ⟨fun m => h1 (List.mem_map.mpr ⟨x, m, rfl⟩), nodup_of_map h2⟩
theorem stride_at {r : Int} (h0 : 0 ≤ r) (h : r < 8) : ∃ st : Int, atI [V.int 1, V.int 3, V.int 7, V.int 9, V.int 11, V.int 13, V.int 17, V.int 19] r = some (.int st) ∧ (st = 1 ∨ st = 3 ∨ st = 7 ∨ st = 9 ∨ st = 11 ∨ st = 13 ∨ st = 17 ∨ st = 19) := by
  have : r = 0 ∨ r = 1 ∨ r = 2 ∨ r = 3 ∨ r = 4 ∨ r = 5 ∨ r = 6 ∨ r = 7 := by omega
  rcases this with rfl | rfl | rfl | rfl | rfl | rfl | rfl | rfl
  · exact ⟨1, atI_nat (j := 0) rfl, by omega⟩
  · exact ⟨3, atI_nat (j := 1) rfl, by omega⟩
  · exact ⟨7, atI_nat (j := 2) rfl, by omega⟩
  · exact ⟨9, atI_nat (j := 3) rfl, by omega⟩
  · exact ⟨11, atI_nat (j := 4) rfl, by omega⟩
  · exact ⟨13, atI_nat (j := 5) rfl, by omega⟩
  · exact ⟨17, atI_nat (j := 6) rfl, by omega⟩
  · exact ⟨19, atI_nat (j := 7) rfl, by omega⟩
theorem Paired_drop {α β : Type} {F : α → β → Prop} : ∀ {a : List α} {b : List β} (i : Nat), Paired F a b → Paired F (a.drop i) (b.drop i)
  | _, _, 0, h => h
  | _, _, _ + 1, .nil => .nil
  | _, _, i + 1, .cons _ h => Paired_drop i h
theorem Paired_app {α β : Type} {F : α → β → Prop} {a : List α} {b : List β} {c : List α} {d : List β} (h : Paired F a b) (h' : Paired F c d) : Paired F (a ++ c) (b ++ d) := by
  induction h with
  | nil => exact h'
  | cons x _ ih => exact .cons x ih
def lab (a st : Int) (k : Nat) : Int := (a + st * (0 + (k : Int))) % 100
theorem lab_inj {a st : Int} (hs : st = 1 ∨ st = 3 ∨ st = 7 ∨ st = 9 ∨ st = 11 ∨ st = 13 ∨ st = 17 ∨ st = 19) {i j : Nat} (hi : i < 3) (hj : j < 3) (e : lab a st i = lab a st j) : i = j := by
  unfold lab at e
  rcases hs with rfl | rfl | rfl | rfl | rfl | rfl | rfl | rfl <;> omega
theorem labs_nodup {a st : Int} (hs : st = 1 ∨ st = 3 ∨ st = 7 ∨ st = 9 ∨ st = 11 ∨ st = 13 ∨ st = 17 ∨ st = 19) : ∀ n : Nat, n ≤ 3 → ((List.range n).map (lab a st)).Nodup
  | 0, _ => List.nodup_nil
  | n + 1, h => by
    rw [List.range_succ, List.map_append]
    refine nodup_snoc (labs_nodup hs n (by omega)) fun m => ?_
    obtain ⟨k, hk, e⟩ := List.mem_map.mp m
    have hk2 := List.mem_range.mp hk
    have := lab_inj hs (by omega) (by omega) e
    omega
theorem atI_strs {zs : List Str} {i : Int} (h0 : 0 ≤ i) (h : i < (zs.length : Int)) : ∃ z, atI (List.map V.str zs) i = some (.str z) ∧ z ∈ zs := by
  have h2 : i.toNat < zs.length := by omega
  exact ⟨zs[i.toNat], atI_int h0 (by rw [List.getElem?_map, List.getElem?_eq_getElem h2]; rfl), List.getElem_mem h2⟩
section
variable {P : Program} {w : World} {K : PySem.W.Frag} {mg : Str → Option Value} {base : Heap} {C CW : Addr}
def spLawMachine : Sp := fun vs H Q _ => ∃ c n z0 z1 z2 z3, vs = [.int c, .ref n, .int 3, .int 1] ∧ H n = some (.lst (List.map V.str [z0, z1, z2, z3])) ∧ (∀ z ∈ [z0, z1, z2, z3], NameOk z) ∧
  ∀ (H' : Hp) (p a b : Addr) (labs : List Int) (rows : List Row), Same H H' → H' p = some (.lst [.ref a, .ref b]) → H' a = some (.lst (List.map V.int labs)) → RowsAt H' b rows → labs ≠ [] → labs.length ≤ 3 → (∀ l ∈ labs, 0 ≤ l ∧ l ≤ 99) → LM labs [z0, z1, z2, z3] 3 rows → (∃ r ∈ rows, r.2.1 = z0) → Q (.ref p) H'
theorem ok_LawMachine {f : Addr} {fd : FuncData} (F : FnP K "_law_machine" "_law_machine" sLawMachine [] f fd) (T : Tx K mg) (C__law_row : Cal P w K mg base 2 "_law_row" ["_law_cell_here", "_law_sizes"] spLawRow) : FnOk P w K mg base CX0 3 f fd ["_law_cell_here", "_law_names_here", "_law_most", "_law_extra"] spLawMachine := by
  refine mk_fn F sc_LawMachine (fun vs H Q E h => ?_) (fun cdv A outer s H vs Q E hr h => ?_)
  · obtain ⟨c, n, z0, z1, z2, z3, rfl, _⟩ := h
    rfl
  · obtain ⟨c, n, z0, z1, z2, z3, rfl, hn, nmz, q⟩ := h
    have sl : (1000000 : Nat) < sizeLine := by decide
    refine ⟨_, (pss_cons (ps_set (i := 4) sc_LawMachine.nd rfl (Or.inl rfl) (pe_op op_cat (pe_lst (pa_cons (pv 2) (pa_cons (pe_op op_add (pv 3) pe_int) (pa_cons pe_int (pa_cons pe_int (pa_cons pe_int pa_nil)))))) (pe_op op_rep (pe_lst (pa_cons (pe_op op_sub (pe_callB call_len_seq (by rfl) T.len PySem.boot_len (pa_cons (pv 1) pa_nil)) pe_int) (pa_cons (pv 2) pa_nil))) (pv 2))))
        (pss_cons (ps_set (i := 5) sc_LawMachine.nd rfl (Or.inr rfl) (pc C__law_row hr (pa_cons (pv 0) (pa_cons (pe_op op_cat (pv 4) (pe_op op_rep (pe_lst (pa_cons (pv 2) (pa_cons (pe_op op_add (pe_callB call_len_seq (by rfl) T.len PySem.boot_len (pa_cons (pv 1) pa_nil)) pe_int) (pa_cons (pv 2) pa_nil)))) (pv 3))) pa_nil))))
        (pss_cons (ps_set (i := 6) sc_LawMachine.nd rfl (Or.inl rfl) (pe_op op_add pe_int (pe_ix ix_list (pv 5) pe_int (fun _ _ => rfl))))
        (pss_cons (ps_set (i := 7) sc_LawMachine.nd rfl (Or.inr rfl) (pe_ix ix_list (pe_lst (pa_cons pe_int (pa_cons pe_int (pa_cons pe_int (pa_cons pe_int (pa_cons pe_int (pa_cons pe_int (pa_cons pe_int (pa_cons pe_int pa_nil))))))))) (pe_ix ix_list (pv 5) pe_int (fun _ _ => rfl)) (fun _ _ => rfl)))
        (pss_cons (ps_setLc (i := 8) rfl sc_LawMachine.nd rfl rfl (sw_true rfl rfl rfl (by decide +kernel)) (pi_range1 rfl T.range (pa_cons (pv 6) pa_nil)) (blkOk_by (own := [("_law_k", 10)]) (N := ["_law_cell_here", "_law_names_here", "_law_most", "_law_extra", "_law_sizes", "_law_row_here", "_law_many", "_law_stride", "_law_labels", "_law_steps", "_law_k", "_law_turn", "_law_word", "_law_at", "_law_step", "_law_target"]) (sc := defScope sLawMachine) (by decide +kernel)) (fun _ _ _ _ _ => (pg_name (i := 10) sc_LawMachine.nd rfl (Or.inl rfl))) (fun _ _ _ _ _ => pts_nil) (fun _ _ _ _ _ => (pe_op op_mod (pe_callTy call_int1 (by rfl) T.int (by decide +kernel) (pa_cons (pe_op op_add (pe_ix (r := rIxL K) ix_list (pv 5) pe_int (fun _ _ => rfl)) (pe_op op_mul (pv 7) (pv 10))) pa_nil)) pe_int)))
        (pss_cons (ps_set (i := 9) sc_LawMachine.nd rfl (Or.inl rfl) (pe_lst pa_nil))
        (pss_cons (ps_for PassesOwn.never rfl (pi_range1 rfl T.range (pa_cons (pv 6) pa_nil)) (pg_name (i := 10) sc_LawMachine.nd rfl (Or.inl rfl))
        (pss_cons (ps_set (i := 12) sc_LawMachine.nd rfl (Or.inl rfl) (pe_ix ix_list (pv 1) (pe_op op_add pe_int (pe_ix ix_list (pv 5) (pe_op op_add pe_int (pe_op op_mul pe_int (pv 10))) (fun _ _ => rfl))) (fun _ _ => rfl)))
        (pss_one (ps_expr (pe_bm PySem.F.plainAttrs_list PySem.F.slot_list_append PySem.F.type_list_append mt_append (pv 9) (pa_cons (pe_tup (pa_cons (pe_ix ix_list (pv 8) (pv 10) (fun _ _ => rfl)) (pa_cons (pv 12) (pa_cons (pe_ix ix_list (pv 8) (pe_op op_mod (pe_callTy call_int1 (by rfl) T.int (by decide +kernel) (pa_cons (pe_ix ix_list (pv 5) (pe_op op_add pe_int (pe_op op_mul pe_int (pv 10))) (fun _ _ => rfl)) pa_nil)) (pv 6)) (fun _ _ => rfl)) pa_nil)))) pa_nil))))))
        (pss_cons (ps_for PassesOwn.never rfl (pi_range1 rfl T.range (pa_cons (pe_ix ix_list (pv 5) pe_int (fun _ _ => rfl)) pa_nil)) (pg_name (i := 10) sc_LawMachine.nd rfl (Or.inl rfl))
        (pss_cons (ps_set (i := 13) sc_LawMachine.nd rfl (Or.inl rfl) (pe_op op_add (pe_callB call_len_seq (by rfl) T.len PySem.boot_len (pa_cons (pv 4) pa_nil)) (pe_op op_mul pe_int (pv 10))))
        (pss_cons (ps_set (i := 12) sc_LawMachine.nd rfl (Or.inl rfl) (pe_ix ix_list (pv 1) (pe_op op_mod (pe_callTy call_int1 (by rfl) T.int (by decide +kernel) (pa_cons (pe_ix ix_list (pv 5) (pe_op op_add (pv 13) pe_int) (fun _ _ => rfl)) pa_nil)) (pe_callB call_len_seq (by rfl) T.len PySem.boot_len (pa_cons (pv 1) pa_nil))) (fun _ _ => rfl)))
        (pss_cons (ps_set (i := 14) sc_LawMachine.nd rfl (Or.inl rfl) (pe_tup (pa_cons (pe_ix ix_list (pv 8) (pe_op op_mod (pe_callTy call_int1 (by rfl) T.int (by decide +kernel) (pa_cons (pe_ix ix_list (pv 5) (pv 13) (fun _ _ => rfl)) pa_nil)) (pv 6)) (fun _ _ => rfl)) (pa_cons (pv 12) pa_nil))))
        (pss_cons (ps_set (i := 14) sc_LawMachine.nd rfl (Or.inl rfl) (pe_op op_catT (pv 14) (pe_tup (pa_cons (pe_ix ix_list (pv 8) (pe_op op_mod (pe_callTy call_int1 (by rfl) T.int (by decide +kernel) (pa_cons (pe_ix ix_list (pv 5) (pe_op op_add (pv 13) pe_int) (fun _ _ => rfl)) pa_nil)) (pv 6)) (fun _ _ => rfl)) pa_nil))))
        (pss_one (ps_if (pt_cmpR (op_notInD (hu65 hr)) (pv 14) (pv 9) rfl) (pss_one (ps_expr (pe_bm PySem.F.plainAttrs_list PySem.F.slot_list_append PySem.F.type_list_append mt_append (pv 9) (pa_cons (pv 14) pa_nil)))) pss_nil)))))))
        (pss_cons (ps_if (pt_cmpR op_eq (pe_callB call_len_seq (by rfl) T.len PySem.boot_len (pa_cons (pe_lc rfl sc_LawMachine.nd (pi_list (pv 9)) (blkOk_by (own := [("_law_step", 14)]) (N := ["_law_cell_here", "_law_names_here", "_law_most", "_law_extra", "_law_sizes", "_law_row_here", "_law_many", "_law_stride", "_law_labels", "_law_steps", "_law_k", "_law_turn", "_law_word", "_law_at", "_law_step", "_law_target"]) (sc := defScope sLawMachine) (by decide +kernel)) (fun _ _ _ _ _ => (pg_name (i := 14) sc_LawMachine.nd rfl (Or.inl rfl))) (fun _ _ _ _ _ => pts_one (pt_cmpR op_eq (pe_ix (r := rIxT K) ix_tup (pv 14) pe_int (fun _ _ => rfl)) (pe_ix (r := rIxL K) ix_list (pv 1) pe_int (fun _ _ => rfl)) (nomark _))) (fun _ _ _ _ _ => (pv 14))) pa_nil)) pe_int (nomark _)) (pss_cons (ps_set (i := 15) sc_LawMachine.nd rfl (Or.inl rfl) (pe_ix ix_list (pv 8) (pe_op op_mod (pe_callTy call_int1 (by rfl) T.int (by decide +kernel) (pa_cons (pe_op op_fdiv (pe_ix ix_list (pv 5) pe_int (fun _ _ => rfl)) pe_int) pa_nil)) (pv 6)) (fun _ _ => rfl)))
        (pss_one (ps_expr (pe_bm PySem.F.plainAttrs_list PySem.F.slot_list_append PySem.F.type_list_append mt_append (pv 9) (pa_cons (pe_tup (pa_cons (pe_ix ix_list (pv 8) (pe_op op_mod (pe_callTy call_int1 (by rfl) T.int (by decide +kernel) (pa_cons (pe_ix ix_list (pv 5) pe_int (fun _ _ => rfl)) pa_nil)) (pv 6)) (fun _ _ => rfl)) (pa_cons (pe_ix ix_list (pv 1) pe_int (fun _ _ => rfl)) (pa_cons (pv 15) pa_nil)))) pa_nil))))) pss_nil)
        (pss_cons (ps_set (i := 11) sc_LawMachine.nd rfl (Or.inl rfl) (pe_op op_mod (pe_callTy call_int1 (by rfl) T.int (by decide +kernel) (pa_cons (pe_ix ix_list (pv 5) pe_int (fun _ _ => rfl)) pa_nil)) (pe_callB call_len_seq (by rfl) T.len PySem.boot_len (pa_cons (pv 9) pa_nil))))
        (pss_one (ps_ret (pe_lst (pa_cons (pv 8) (pa_cons (pe_op op_cat (pe_slice sl_list (pv 9) (po_some (pv 11)) po_none) (pe_slice sl_list (pv 9) po_none (po_some (pv 11)))) pa_nil))))))))))))))), ?_⟩
    refine ⟨_, rfl, _, rfl, _, _, rfl, rfl, by show 5 ≤ sizeLine; decide, fun a1 n1 => ?_⟩
    have t1 := same_new (o := .lst [V.int 3, V.int (1 + 1), V.int 100, V.int 8, V.int 64]) n1
    refine ⟨_, rfl, n, _, rfl, .inl (SqL.of (t1 _ _ hn)), _, _, rfl, rfl, _, rfl, by show 2 ≤ sizeLine; decide, fun a2 n2 => ⟨_, rfl, a2, 3, _, rfl, rfl, upd_same, by decide, by decide, by show 2 * 3 ≤ sizeLine; decide, fun a3 n3 => ?_⟩⟩
    have t2 := same_new (o := .lst [V.int (((List.map V.str [z0, z1, z2, z3]).length : Int) - 1), V.int 3]) n2
    have t3 := same_new (o := .lst (List.replicate (3 : Int).toNat [V.int (((List.map V.str [z0, z1, z2, z3]).length : Int) - 1), V.int 3]).flatten) n3
    refine ⟨a1, a3, _, _, rfl, rfl, t3 _ _ (t2 _ _ upd_same), upd_same, by show 11 ≤ sizeLine; decide, fun Z nZ => ?_⟩
    have hZ : ∀ (HH : Hp) (xs : List V), xs = List.map V.int [3, 2, 100, 8, 64, 3, 3, 3, 3, 3, 3] → upd HH Z (.lst xs) Z = some (.lst (List.map V.int [3, 2, 100, 8, 64, 3, 3, 3, 3, 3, 3])) := fun HH xs e => by rw [upd_same, e]
    have t4 := ((t1.trans t2).trans t3).trans (same_new (o := .lst (List.map V.int [3, 2, 100, 8, 64, 3, 3, 3, 3, 3, 3])) nZ)
    refine ⟨_, rfl, _, rfl, _, rfl, _, rfl, n, _, rfl, .inl (SqL.of (t4 _ _ hn)), _, _, rfl, rfl, _, rfl, by show 3 ≤ sizeLine; decide, fun a5 n5 => ⟨_, rfl, a5, 1, _, rfl, rfl, upd_same, by decide, by decide, by show 3 * 1 ≤ sizeLine; decide, fun a6 n6 => ?_⟩⟩
    have t5 := same_new (o := .lst [V.int 3, V.int (((List.map V.str [z0, z1, z2, z3]).length : Int) + 2), V.int 3]) n5
    have t6 := same_new (o := .lst (List.replicate (1 : Int).toNat [V.int 3, V.int (((List.map V.str [z0, z1, z2, z3]).length : Int) + 2), V.int 3]).flatten) n6
    refine ⟨Z, a6, _, _, rfl, rfl, t6 _ _ (t5 _ _ upd_same), upd_same, by show 14 ≤ sizeLine; decide, fun a7 n7 => ?_⟩
    have s7 := same_new (o := .lst (List.map V.int sizesM)) n7
    have hZ7 := s7 _ _ (t6 _ _ (t5 _ _ (hZ _ _ rfl)))
    have t7 := ((t4.trans t5).trans t6).trans (same_new (o := .lst (List.map V.int sizesM)) n7)
    refine ⟨c, a7, sizesM, rfl, upd_same, by decide, by decide, fun H1 R rs s0 nR0 hR D => ?_⟩
    have s1 := t7.trans s0
    have hZ1 : H1 Z = some (.lst (List.map V.int [3, 2, 100, 8, 64, 3, 3, 3, 3, 3, 3])) := s0 _ _ hZ7
    clear hZ7 t1 t2 t3 t4 t5 t6 t7
    have l14 : rs.length = 14 := D.1.trans (by decide +kernel)
    have dig : ∀ {j : Nat} {s : Int}, sizesM[j]? = some s → ∃ r, atI (List.map V.int rs) (j : Int) = some (.int r) ∧ 0 ≤ r ∧ r < s := fun {j s} h => by
      have hj : j < rs.length := by
        have := (List.getElem?_eq_some_iff.mp h).1
        rw [D.1]
        exact this
      exact ⟨rs[j], atI_nat (by rw [List.getElem?_map, List.getElem?_eq_getElem hj]; rfl), D.2 j _ _ (List.getElem?_eq_getElem hj) h⟩
    obtain ⟨r0, hr0, r00, r03⟩ := dig (j := 0) (s := 3) (by decide +kernel)
    obtain ⟨r1, hr1, r10, r12⟩ := dig (j := 1) (s := 2) (by decide +kernel)
    obtain ⟨r2, hr2, r20, r2h⟩ := dig (j := 2) (s := 100) (by decide +kernel)
    obtain ⟨r3, hr3, r30, r38⟩ := dig (j := 3) (s := 8) (by decide +kernel)
    obtain ⟨r4, hr4, r40, r4h⟩ := dig (j := 4) (s := 64) (by decide +kernel)
    obtain ⟨rb, hrb, rb0, rb3⟩ := dig (j := 11) (s := 3) (by decide +kernel)
    obtain ⟨rc, hrc, rc0, rc6⟩ := dig (j := 12) (s := 6) (by decide +kernel)
    obtain ⟨rd, hrd, rd0, rd3⟩ := dig (j := 13) (s := 3) (by decide +kernel)
    obtain ⟨m, rfl⟩ : ∃ m : Nat, r0 = (m : Int) := ⟨r0.toNat, by omega⟩
    refine ⟨_, rfl, R, _, _, _, rfl, rfl, SqL.of hR, hr0, _, _, rfl, rfl, ?_⟩
    obtain ⟨st, hst, stv⟩ := stride_at r30 r38
    refine ⟨by show 8 ≤ sizeLine; decide, fun a8 n8 => ?_⟩
    have s8 := same_new (o := .lst [V.int 1, V.int 3, V.int 7, V.int 9, V.int 11, V.int 13, V.int 17, V.int 19]) n8
    refine ⟨_, rfl, R, _, _, _, rfl, rfl, SqL.of (s8 _ _ hR), hr3, a8, _, _, _, rfl, rfl, SqL.of upd_same, hst, ?_⟩
    have s2 := s1.trans s8
    have hR2 := s8 _ _ hR
    have hZ2 := s8 _ _ hZ1
    generalize upd H1 a8 (.lst [V.int 1, V.int 3, V.int 7, V.int 9, V.int 11, V.int 13, V.int 17, V.int 19]) = H2 at s2 hR2 hZ2 ⊢
    clear s8 hR hZ1 s1 s0 n8
    refine ⟨_, rfl, _, rfl, by omega, by omega, fun L nL => ?_⟩
    have em : ((1 : Int) + (m : Int)).toNat = m + 1 := by omega
    rw [em]
    refine lc_it walk_range (fun i H' => Same H2 H' ∧ H' L = some (.lst (((List.range i).map (lab r2 st)).map V.int))) ⟨same_new nL, upd_same⟩ (fun _ _ _ _ => trivial) ?_ ?_
    · rintro i v H3 H4 hi ⟨s3, hL⟩ ⟨rfl, rfl⟩
      have p64 : (2 : Int) ^ 64 = 18446744073709551616 := by decide
      refine ⟨rfl, _, rfl, R, _, _, _, rfl, rfl, SqL.of (s3 _ _ hR2), hr2, _, rfl, _, rfl, _, _, rfl, rfl, .inl ⟨by omega, by omega⟩, _, _, rfl, rfl, .inl ⟨_, rfl, _, _, rfl, rfl, by show (0 : Int) < 100; decide, _, hL, by rw [List.length_map, List.length_map, List.length_range]; omega, same_mut s3 nL, ?_⟩⟩
      rw [upd_same, List.range_succ, List.map_append, List.map_append]
      rfl
    · rintro H3 ⟨s3, hL⟩
      obtain ⟨labs, elb⟩ : ∃ labs, labs = (List.range (m + 1)).map (lab r2 st) := ⟨_, rfl⟩
      rw [← elb] at hL
      have ll : labs.length = m + 1 := by rw [elb, List.length_map, List.length_range]
      have lnd : labs.Nodup := by rw [elb]; exact labs_nodup stv (m + 1) (by omega)
      have l99 : ∀ l ∈ labs, 0 ≤ l ∧ l ≤ 99 := fun l h => by
        rw [elb] at h
        obtain ⟨k, _, rfl⟩ := List.mem_map.mp h
        unfold lab
        constructor <;> omega
      have sA := s2.trans s3
      have hR3 := s3 _ _ hR2
      have hZ3 := s3 _ _ hZ2
      have nL0 := s2.free nL
      clear s3 elb hR2 hZ2 s2
      refine ⟨Nat.zero_le _, fun S nS => ?_⟩
      have nS0 := sA.free nS
      have nRS := ne_new hR3 nS
      have nZS := ne_new hZ3 nS
      have nLS := ne_new hL nS
      have s4 := same_new (o := .lst []) nS
      have pick : ∀ x : Int, ∃ l, atI (List.map V.int labs) (x % (1 + (m : Int))) = some (.int l) ∧ l ∈ labs := fun x => by
        have b1 := Int.emod_nonneg x (show (1 + (m : Int)) ≠ 0 by omega)
        have b2 := Int.emod_lt_of_pos x (show 0 < (1 + (m : Int)) by omega)
        obtain ⟨l, h1, h2⟩ := atI_ints (l := labs) b1 (by rw [ll]; omega)
        exact ⟨l, h1, List.mem_of_getElem? h2⟩
      have mpos : (0 : Int) < 1 + (m : Int) := by omega
      refine ⟨_, rfl, _, rfl, by omega, by omega, ?_⟩
      rw [em]
      refine for_it walk_range (fun i σ H' => ∃ (ts : List Addr) (rows : List Row) (x10 x11 x12 x13 x14 x15 : Option V), Same H H' ∧ H' R = some (.lst (List.map V.int rs)) ∧ H' Z = some (.lst (List.map V.int [3, 2, 100, 8, 64, 3, 3, 3, 3, 3, 3])) ∧ H' L = some (.lst (List.map V.int labs)) ∧ H' S = some (.lst (ts.map V.ref)) ∧ Paired (RowAt H') ts rows ∧ rows.map (·.1) = labs.take i ∧
          (∀ r ∈ rows, r.2.1 ∈ [z0, z1, z2, z3] ∧ r.2.2 ∈ labs) ∧ σ = [some (.int c), some (.ref n), some (.int 3), some (.int 1), some (.ref Z), some (.ref R), some (.int (1 + (m : Int))), some (.int st), some (.ref L), some (.ref S), x10, x11, x12, x13, x14, x15])
        ⟨[], [], _, _, _, _, _, _, sA.trans s4, s4 _ _ hR3, s4 _ _ hZ3, s4 _ _ hL, upd_same, .nil, rfl, (fun r h => nomatch h), rfl⟩ (fun _ _ _ _ _ => trivial) ?_ ?_
      · rintro i v σ H4 H5 hi ⟨ts, rows, x10, x11, x12, x13, x14, x15, sH, hR4, hZ4, hL4, hS4, prS, emap, inr, rfl⟩ ⟨rfl, rfl⟩
        have hi3 : i < 3 := by omega
        obtain ⟨d1, hd1, d10, d13⟩ := dig (j := 5 + 2 * i) (s := 3) (sizesM_at (2 * i) (by omega))
        obtain ⟨d2, hd2, d20, d23⟩ := dig (j := 6 + 2 * i) (s := 3) (by have := sizesM_at (1 + 2 * i) (by omega); rw [← Nat.add_assoc] at this; exact this)
        have e1 : (5 : Int) + 2 * (0 + (i : Int)) = ((5 + 2 * i : Nat) : Int) := by omega
        have e2 : (6 : Int) + 2 * (0 + (i : Int)) = ((6 + 2 * i : Nat) : Int) := by omega
        rw [← e1] at hd1
        rw [← e2] at hd2
        obtain ⟨z, hz, hzm⟩ := atI_strs (zs := [z0, z1, z2, z3]) (i := 1 + d1) (by omega) (by show 1 + d1 < 4; omega)
        obtain ⟨l1, hl1⟩ : ∃ l1, labs[i]? = some l1 := ⟨_, List.getElem?_eq_getElem (by omega)⟩
        have hl1' : atI (List.map V.int labs) (0 + (i : Int)) = some (.int l1) := by
          rw [Int.zero_add]
          exact atI_nat (by rw [List.getElem?_map, hl1]; rfl)
        obtain ⟨l2, hl2, hl2m⟩ := pick d2
        have hn4 := sH _ _ hn
        refine ⟨_, rfl, _, rfl, _, rfl, _, _, rfl, rfl, .inl ⟨by decide, by decide⟩, _, _, rfl, rfl, R, _, _, _, rfl, rfl, SqL.of hR4, hd1, _, _, rfl, rfl, n, _, _, _, rfl, rfl, SqL.of hn4, hz, ?_⟩
        refine ⟨_, rfl, .inl ⟨rfl, _, SqL.of hS4⟩, _, rfl, _, rfl, L, _, _, _, rfl, rfl, SqL.of hL4, hl1', _, rfl, _, rfl, _, rfl, _, rfl, _, _, rfl, rfl, .inl ⟨by decide, by decide⟩, _, _, rfl, rfl, R, _, _, _, rfl, rfl, SqL.of hR4, hd2, .inl ⟨_, rfl, _, rfl, _, _, rfl, rfl, mpos, L, _, _, _, rfl, rfl, SqL.of hL4, hl2, by show 3 ≤ sizeLine; decide, fun t nt => ?_⟩⟩
        have st' := same_new (o := .tup [V.int l1, V.str z, V.int l2]) nt
        have hS5 := st' _ _ hS4
        have lts : ts.length = i := by
          rw [Paired.length prS, ← List.length_map (f := (·.1)), emap, List.length_take]
          omega
        refine ⟨S, _, _, rfl, rfl, hS5, by rw [List.length_map]; omega, ?_⟩
        have tp := (Tups.of st').trans (Tups.put hS5 (u := .lst (ts.map V.ref ++ [V.ref t])) (fun _ z => nomatch z))
        have ntS : t ≠ S := Ne.symm (ne_new hS4 nt)
        have ne : ∀ {b : Addr} {o : HO}, H5 b = some o → b ≠ S → upd (upd H5 t (.tup [V.int l1, V.str z, V.int l2])) S (.lst (ts.map V.ref ++ [V.ref t])) b = some o := fun h1 h2 => up_ne (st' _ _ h1) h2
        refine ⟨ts ++ [t], rows ++ [(l1, z, l2)], _, _, _, _, _, _, same_mut (sH.trans st') nS0, ne hR4 nRS, ne hZ4 nZS, ne hL4 nLS, by rw [upd_same, List.map_append]; rfl, Paired.snoc (rows_tups tp prS) (up_ne (new_at nt) ntS), by rw [List.map_append, emap, take_snoc hl1]; rfl, fun r hr => ?_, rfl⟩
        rcases List.mem_append.mp hr with h | h
        · exact inr r h
        · rw [List.mem_singleton.mp h]
          exact ⟨hzm, hl2m⟩
      · rintro σ H4 ⟨ts, rows, x10, x11, x12, x13, x14, x15, sH, hR4, hZ4, hL4, hS4, prS, emap, inr, rfl⟩
        have em2 : rows.map (·.1) = labs := by rw [emap, ← ll, List.take_length]
        have hM : LM labs [z0, z1, z2, z3] 1 rows := ⟨fun r hr => ⟨by rw [← em2]; exact List.mem_map.mpr ⟨r, hr, rfl⟩, (inr r hr).2, (inr r hr).1⟩, fun l hl => by
            rw [← em2] at hl
            obtain ⟨r, h1, h2⟩ := List.mem_map.mp hl
            exact ⟨r, h1, h2⟩, nodup_of_map (f := (·.1)) (by rw [em2]; exact lnd), cnt_le_one (by rw [em2]; exact lnd), by rw [← List.length_map (f := (·.1)), em2, ll]; omega⟩
        clear em2 emap inr
        refine ⟨_, rfl, R, _, _, _, rfl, rfl, SqL.of hR4, hr1, _, rfl, by omega, by omega, ?_⟩
        refine for_it walk_range (fun i σ H' => ∃ (ts : List Addr) (rows : List Row) (x10 x11 x12 x13 x14 x15 : Option V), Same H H' ∧ H' R = some (.lst (List.map V.int rs)) ∧ H' Z = some (.lst (List.map V.int [3, 2, 100, 8, 64, 3, 3, 3, 3, 3, 3])) ∧ H' L = some (.lst (List.map V.int labs)) ∧ H' S = some (.lst (ts.map V.ref)) ∧ Paired (RowAt H') ts rows ∧ LM labs [z0, z1, z2, z3] (1 + i) rows ∧
            σ = [some (.int c), some (.ref n), some (.int 3), some (.int 1), some (.ref Z), some (.ref R), some (.int (1 + (m : Int))), some (.int st), some (.ref L), some (.ref S), x10, x11, x12, x13, x14, x15])
          ⟨ts, rows, _, _, _, _, _, _, sH, hR4, hZ4, hL4, hS4, prS, hM, rfl⟩ (fun _ _ _ _ _ => trivial) ?_ ?_
        · clear hM prS hS4 hL4 hZ4 hR4 sH
          rintro i v σ H4 H5 hi ⟨ts, rows, x10, x11, x12, x13, x14, x15, sH, hR4, hZ4, hL4, hS4, prS, hM, rfl⟩ ⟨rfl, rfl⟩
          have hi0 : i = 0 := by omega
          subst hi0
          have hn4 := sH _ _ hn
          have lts : ts.length = rows.length := Paired.length prS
          have lrs := hM.len
          obtain ⟨z, hz, hzm⟩ := atI_strs (zs := [z0, z1, z2, z3]) (i := rc % 4) (Int.emod_nonneg _ (by decide)) (Int.emod_lt_of_pos _ (by decide))
          obtain ⟨l1, hl1, hl1m⟩ := pick rb
          obtain ⟨l2, hl2, hl2m⟩ := pick rd
          refine ⟨_, rfl, Z, _, rfl, .inl (SqL.of hZ4), _, rfl, _, _, rfl, rfl, .inl ⟨by decide, by decide⟩, _, _, rfl, rfl, ?_⟩
          refine ⟨_, rfl, _, rfl, _, rfl, _, _, rfl, rfl, R, _, _, _, rfl, rfl, SqL.of hR4, hrc, .inl ⟨_, rfl, _, rfl, n, _, rfl, .inl (SqL.of hn4), _, _, rfl, rfl, by show (0 : Int) < 4; decide, n, _, _, _, rfl, rfl, SqL.of hn4, hz, ?_⟩⟩
          refine ⟨_, rfl, _, rfl, _, rfl, R, _, _, _, rfl, rfl, SqL.of hR4, hrb, .inl ⟨_, rfl, _, rfl, _, _, rfl, rfl, mpos, L, _, _, _, rfl, rfl, SqL.of hL4, hl1, _, rfl, by show 2 ≤ sizeLine; decide, fun t1 nt1 => ?_⟩⟩
          have u1 := same_new (o := .tup [V.int l1, V.str z]) nt1
          refine ⟨_, rfl, _, rfl, _, rfl, _, rfl, _, _, rfl, rfl, R, _, _, _, rfl, rfl, SqL.of (u1 _ _ hR4), hrd, .inl ⟨_, rfl, _, rfl, _, _, rfl, rfl, mpos, L, _, _, _, rfl, rfl, SqL.of (u1 _ _ hL4), hl2, by show 1 ≤ sizeLine; decide, fun t2 nt2 => ?_⟩⟩
          have u2 := same_new (o := .tup [V.int l2]) nt2
          refine ⟨t1, t2, _, _, rfl, rfl, SqT.of (u2 _ _ upd_same), SqT.of upd_same, (fun z => nomatch z), by show 3 ≤ sizeLine; decide, (fun z => nomatch z), fun _ t3 nt3 => ?_⟩
          have u3 := same_new (o := .tup ([V.int l1, V.str z] ++ [V.int l2])) nt3
          have u := (u1.trans u2).trans u3
          have hrow : RowAt _ t3 (l1, z, l2) := new_at (o := .tup ([V.int l1, V.str z] ++ [V.int l2])) nt3
          have hS5 := u _ _ hS4
          have hR5 := u _ _ hR4
          have hZ5 := u _ _ hZ4
          have hL5 := u _ _ hL4
          have pr5 := rows_tups (.of u) prS
          have nz := nmz z hzm
          have nt3S : t3 ≠ S := Ne.symm (ne_new (u2 _ _ (u1 _ _ hS4)) nt3)
          have s5 := sH.trans u
          refine ⟨_, rfl, _, rfl, rowD (l1, z, l2), rows.map rowD, dp_row hrow, .lst (SqL.of hS5) (dp_rows pr5), shaped_row nz, shaped_rows fun r2 h2 => nmz _ (hM.src r2 h2).2.2, _, rfl, ?_⟩
          rw [any_row]
          by_cases hin : (l1, z, l2) ∈ rows
          · rw [decide_eq_true hin]
            exact iteF ⟨ts, rows, _, _, _, _, _, _, s5, hR5, hZ5, hL5, hS5, pr5, hM.mono (by omega), rfl⟩
          · rw [decide_eq_false hin]
            refine iteT ⟨_, rfl, .inl ⟨rfl, _, SqL.of hS5⟩, _, rfl, S, _, _, rfl, rfl, hS5, by rw [List.length_map]; omega, ?_⟩
            have tp := Tups.put hS5 (u := .lst (ts.map V.ref ++ [V.ref t3])) (fun _ z => nomatch z)
            exact ⟨ts ++ [t3], rows ++ [(l1, z, l2)], _, _, _, _, _, _, same_mut s5 nS0, up_ne hR5 nRS, up_ne hZ5 nZS, up_ne hL5 nLS, by rw [upd_same, List.map_append]; rfl, Paired.snoc (rows_tups tp pr5) (up_ne hrow nt3S), hM.snoc hin hl1m hl2m hzm, rfl⟩
        · clear hM prS hS4 hL4 hZ4 hR4 sH
          rintro σ H4 ⟨ts, rows, x10, x11, x12, x13, x14, x15, sH, hR4, hZ4, hL4, hS4, prS, hM0, rfl⟩
          have hM : LM labs [z0, z1, z2, z3] 2 rows := hM0.mono (by omega)
          clear hM0
          have lts : ts.length = rows.length := Paired.length prS
          have lrs := hM.len
          refine ⟨_, rfl, S, rfl, ⟨_, SqL.of hS4⟩, fun J nJ => ?_⟩
          refine lc_it walk_list (fun i H' => Same H4 H' ∧ ∃ as : List Addr, H' J = some (.lst (as.map V.ref)) ∧ as.length ≤ i ∧ (as = [] ↔ ∀ r ∈ rows.take i, r.2.1 ≠ z0)) ⟨same_new nJ, [], upd_same, Nat.le_refl _, ⟨(fun _ r h => nomatch h), fun _ => rfl⟩⟩ (fun i H' _ h => SqL.of (h.1 _ _ hS4)) ?_ ?_
          · rintro i v H5 H6 hi ⟨s5, as, hJ, las, ha⟩ ⟨rfl, e1⟩
            obtain ⟨t, ht, rfl⟩ := map_ref e1
            obtain ⟨r, hr, hrA⟩ := L2.paired_get prS ht
            refine ⟨rfl, _, rfl, t, _, _, _, rfl, rfl, SqT.of (s5 _ _ hrA), atI_nat (j := 1) rfl, _, rfl, n, _, _, _, rfl, rfl, SqL.of (s5 _ _ (sH _ _ hn)), atI_nat (j := 0) rfl, rfl, _, rfl, ?_⟩
            by_cases e : r.2.1 = z0
            · rw [decide_eq_true (show V.str r.2.1 = V.str z0 by rw [e])]
              refine iteT ⟨_, rfl, _, hJ, by rw [List.length_map]; have : i < rows.length := by { rw [List.length_map] at hi; omega }; omega, same_mut s5 nJ, as ++ [t], by rw [upd_same, List.map_append]; rfl, by rw [List.length_append]; show _ + 1 ≤ _; omega, ⟨fun z => absurd z (by simp), fun z => ?_⟩⟩
              exact absurd e (z r (by rw [take_snoc hr]; exact List.mem_append_right _ (by simp)))
            · rw [decide_eq_false (show ¬ V.str r.2.1 = V.str z0 from fun z => e (V.str.inj z))]
              refine iteF ⟨s5, as, hJ, by omega, ha.trans ⟨fun z x hx => ?_, fun z x hx => z x (by rw [take_snoc hr]; exact List.mem_append_left _ hx)⟩⟩
              rw [take_snoc hr] at hx
              rcases List.mem_append.mp hx with h | h
              · exact z x h
              · rw [List.mem_singleton.mp h]
                exact e
          · rintro H5 ⟨s5, as, hJ, las, ha⟩
            rw [List.length_map, lts, List.take_length] at ha
            have hS5 := s5 _ _ hS4
            have hR5 := s5 _ _ hR4
            have hL5 := s5 _ _ hL4
            have hn5 := s5 _ _ (sH _ _ hn)
            have pr5 := rows_tups (.of s5) prS
            have sH5 := sH.trans s5
            clear hS4 hR4 hL4 prS sH hZ4 s5
            refine ⟨J, _, rfl, .inl (SqL.of hJ), rfl, _, rfl, ?_⟩
            by_cases e : as = []
            case' pos =>
              have hno := ha.mp e
              subst e
              obtain ⟨l1, hl1, hl1m⟩ := pick r4
              obtain ⟨l2, hl2, hl2m⟩ := pick (r4 / 8)
              refine iteT ⟨_, rfl, _, rfl, R, _, _, _, rfl, rfl, SqL.of hR5, hr4, _, _, rfl, rfl, ⟨by decide, by decide⟩, .inl ⟨_, rfl, _, rfl, _, _, rfl, rfl, mpos, L, _, _, _, rfl, rfl, SqL.of hL5, hl2, ?_⟩⟩
              refine ⟨_, rfl, .inl ⟨rfl, _, SqL.of hS5⟩, _, rfl, _, rfl, R, _, _, _, rfl, rfl, SqL.of hR5, hr4, .inl ⟨_, rfl, _, rfl, _, _, rfl, rfl, mpos, L, _, _, _, rfl, rfl, SqL.of hL5, hl1, _, rfl, n, _, _, _, rfl, rfl, SqL.of hn5, atI_nat (j := 0) rfl, _, rfl, by show 3 ≤ sizeLine; decide, fun t nt => ?_⟩⟩
              have st' := same_new (o := .tup [V.int l1, V.str z0, V.int l2]) nt
              have hSt := st' _ _ hS5
              have ntS : t ≠ S := Ne.symm (ne_new hS5 nt)
              refine ⟨S, _, _, rfl, rfl, hSt, by rw [List.length_map]; omega, ?_⟩
              have tp := (Tups.of st').trans (Tups.put hSt (u := .lst (ts.map V.ref ++ [V.ref t])) (fun _ z => nomatch z))
              have pr5 := Paired.snoc (rows_tups tp pr5) (show RowAt (upd (upd H5 t (.tup [V.int l1, V.str z0, V.int l2])) S (.lst (ts.map V.ref ++ [V.ref t]))) t (l1, z0, l2) from up_ne (new_at nt) ntS)
              have sH5 : Same H (upd (upd H5 t (.tup [V.int l1, V.str z0, V.int l2])) S (.lst (ts.map V.ref ++ [V.ref t]))) := same_mut (sH5.trans st') nS0
              have hR5 := up_ne (u := .lst (ts.map V.ref ++ [V.ref t])) (st' _ _ hR5) nRS
              have hL5 := up_ne (u := .lst (ts.map V.ref ++ [V.ref t])) (st' _ _ hL5) nLS
              have hS5 : upd (upd H5 t (.tup [V.int l1, V.str z0, V.int l2])) S (.lst (ts.map V.ref ++ [V.ref t])) S = some (.lst ((ts ++ [t]).map V.ref)) := by rw [upd_same, List.map_append]; rfl
              have hM : LM labs [z0, z1, z2, z3] 3 (rows ++ [(l1, z0, l2)]) := hM.snoc (fun m => hno _ m rfl) hl1m hl2m (by simp)
              have hw : ∃ r ∈ rows ++ [(l1, z0, l2)], r.2.1 = z0 := ⟨_, List.mem_append_right _ (List.mem_singleton.mpr rfl), rfl⟩
              have lts : (ts ++ [t]).length = (rows ++ [(l1, z0, l2)]).length := Paired.length pr5
              generalize rows ++ [(l1, z0, l2)] = rows at pr5 hM hw lts
              generalize ts ++ [t] = ts' at pr5 hS5 lts
              generalize upd (upd H5 t (.tup [V.int l1, V.str z0, V.int l2])) S (.lst (ts.map V.ref ++ [V.ref t])) = H5 at pr5 sH5 hR5 hL5 hS5 ⊢
              generalize hts : ts' = ts at pr5 hS5 lts
              clear hSt st' nt
            case' neg =>
              rw [decide_eq_false (show ¬ V.int ((as.map V.ref).length : Nat) = V.int 0 from fun z => e (List.length_eq_zero_iff.mp (by have := V.int.inj z; rw [List.length_map] at this; omega)))]
              refine iteF ?_
              have hM : LM labs [z0, z1, z2, z3] 3 rows := hM.mono (by omega)
              have hw : ∃ r ∈ rows, r.2.1 = z0 := Classical.byContradiction fun z => e (ha.mpr fun r hr x => z ⟨r, hr, x⟩)
            all_goals
              have hw2 := hw
              obtain ⟨rr, hrr, _⟩ := hw2
              have lpos : 0 < rows.length := List.length_pos_of_mem hrr
              have lm : (ts.map V.ref).length = rows.length := by rw [List.length_map]; exact lts
              have lpos2 : (0 : Int) < (((ts.map V.ref).length : Nat) : Int) := by omega
              have lrs := hM.len
              refine ⟨_, rfl, R, _, _, _, rfl, rfl, SqL.of hR5, hr4, .inl ⟨_, rfl, _, rfl, S, _, rfl, .inl (SqL.of hS5), _, _, rfl, rfl, lpos2, ?_⟩⟩
              have b1 := Int.emod_nonneg r4 (show (((ts.map V.ref).length : Nat) : Int) ≠ 0 by omega)
              have b2 := Int.emod_lt_of_pos r4 lpos2
              obtain ⟨tn, htn⟩ : ∃ tn : Nat, r4 % (((ts.map V.ref).length : Nat) : Int) = (tn : Int) := ⟨(r4 % (((ts.map V.ref).length : Nat) : Int)).toNat, by omega⟩
              have tnl : tn ≤ ts.length := by omega
              have c1 : cutV (ts.map V.ref) (some (r4 % (((ts.map V.ref).length : Nat) : Int))) none = (ts.drop tn).map V.ref := by
                rw [htn]
                unfold cutV
                rw [HT.sIx_nat, HT.sIx_none, List.length_map, Nat.min_eq_left tnl, ← List.map_drop, List.take_of_length_le (by rw [List.length_map, List.length_drop]; exact Nat.le_refl _)]
              have c2 : cutV (ts.map V.ref) none (some (r4 % (((ts.map V.ref).length : Nat) : Int))) = (ts.take tn).map V.ref := by
                rw [htn]
                unfold cutV
                rw [HT.sIx_nat, HT.sIx_none, List.length_map, Nat.min_eq_left tnl, List.drop_zero, Nat.sub_zero, List.map_take]
              refine ⟨_, rfl, _, rfl, _, rfl, _, rfl, S, _, rfl, SqL.of hS5, fun p1 np1 => ?_⟩
              rw [c1]
              have v1 := same_new (o := .lst ((ts.drop tn).map V.ref)) np1
              refine ⟨_, rfl, _, rfl, _, rfl, S, _, rfl, SqL.of (v1 _ _ hS5), fun p2 np2 => ?_⟩
              rw [c2]
              have v2 := same_new (o := .lst ((ts.take tn).map V.ref)) np2
              refine ⟨p1, p2, _, _, rfl, rfl, v2 _ _ upd_same, upd_same, by rw [List.length_map, List.length_map, List.length_take, List.length_drop]; omega, fun p3 np3 => ?_⟩
              have v3 := same_new (o := .lst ((ts.drop tn).map V.ref ++ (ts.take tn).map V.ref)) np3
              refine ⟨by show 2 ≤ sizeLine; decide, fun p np => ?_⟩
              have v4 := same_new (o := .lst [V.ref L, V.ref p3]) np
              have v := ((v1.trans v2).trans v3).trans v4
              have hp3 := v4 _ _ (v3 _ _ upd_same |> fun _ => upd_same (H := _) (a := p3) (o := .lst ((ts.drop tn).map V.ref ++ (ts.take tn).map V.ref)))
              have pm : (rows.drop tn ++ rows.take tn).Perm rows := List.perm_append_comm.trans (by rw [List.take_append_drop])
              refine q _ p L p3 labs (rows.drop tn ++ rows.take tn) (sH5.trans v) upd_same (v _ _ hL5) ⟨ts.drop tn ++ ts.take tn, by rw [List.map_append]; exact hp3, ?_⟩ (fun z => by rw [z] at ll; exact nomatch ll) (by rw [ll]; omega) l99 (hM.perm pm) ?_
              · exact Paired_app (Paired_drop tn (rows_tups (.of v) pr5)) (Paired_take tn (rows_tups (.of v) pr5))
              · obtain ⟨r, h1, h2⟩ := hw
                exact ⟨r, pm.mem_iff.mpr h1, h2⟩
end
end Kn

end
section
set_option maxHeartbeats 4000000
/-! law helpers: sights, alone. -/
namespace Kn
open PySem PySem.Spec PyProof.Rows L2
theorem sc_LawSights : FnScope ["_law_cell_here", "_law_names_here", "_law_marks", "_law_wide", "_law_row_here", "_law_table", "_law_k"] ["_law_cell_here", "_law_names_here", "_law_marks"] (defScope sLawSights) := ⟨rfl, rfl, rfl, by decide +kernel, rfl, by decide +kernel, by decide +kernel⟩
theorem sc_LawAlone : FnScope ["_law_machine_here", "_law_tables", "_law_fault", "_law_told", "_law_sights_here"] ["_law_machine_here", "_law_tables", "_law_fault"] (defScope sLawAlone) := ⟨rfl, rfl, rfl, by decide +kernel, rfl, by decide +kernel, by decide +kernel⟩
open Classical in
noncomputable def dueV (p : Prop) : V := if p then .non else .int 0
theorem dueV_t {p : Prop} (h : p) : dueV p = .non := if_pos h
theorem dueV_f {p : Prop} (h : ¬ p) : dueV p = .int 0 := if_neg h
section
variable {P : Program} {w : World} {K : PySem.W.Frag} {mg : Str → Option Value} {base : Heap} {C CW : Addr}
def spLawSights : Sp := fun vs H Q _ => ∃ c n mk z0 z1 z2 z3 y, vs = [.int c, .ref n, .ref mk] ∧ H n = some (.lst (List.map V.str [z0, z1, z2, z3])) ∧ H mk = some (.lst [.str y]) ∧ [z0, z1, z2, z3].Nodup ∧
  ∀ (H' : Hp) (d : Addr) (t : Tab), Same H H' → H d = none → H' d = some (.dK (tabK t)) → (t.map (·.1)).Nodup → t.length ≤ 4 → (∀ p ∈ t, p.1 ∈ [z0, z1, z2, z3] ∧ (p.2 = p.1 ∨ p.2 = y)) → Q (.ref d) H'
theorem ok_LawSights {f : Addr} {fd : FuncData} (F : FnP K "_law_sights" "_law_sights" sLawSights [] f fd) (T : Tx K mg) (C__law_row : Cal P w K mg base 2 "_law_row" ["_law_cell_here", "_law_sizes"] spLawRow) : FnOk P w K mg base CX0 3 f fd ["_law_cell_here", "_law_names_here", "_law_marks"] spLawSights := by
  refine mk_fn F sc_LawSights (fun vs H Q E h => ?_) (fun cdv A outer s H vs Q E hr h => ?_)
  · obtain ⟨c, n, mk, z0, z1, z2, z3, y, rfl, _⟩ := h
    rfl
  · obtain ⟨c, n, mk, z0, z1, z2, z3, y, rfl, hn, hmk, znd, q⟩ := h
    have hu := hu_of hr
    have sl : (1000000 : Nat) < sizeLine := by decide
    refine ⟨_, (pss_cons (ps_set (i := 3) sc_LawSights.nd rfl (Or.inl rfl) (pe_op op_add (pe_callB call_len_seq (by rfl) T.len PySem.boot_len (pa_cons (pv 2) pa_nil)) pe_int))
        (pss_cons (ps_set (i := 4) sc_LawSights.nd rfl (Or.inl rfl) (pc C__law_row hr (pa_cons (pv 0) (pa_cons (pe_op op_cat (pe_lst (pa_cons (pe_op op_mul pe_int (pv 3)) pa_nil)) (pe_op op_rep (pe_lst (pa_cons (pv 3) pa_nil)) (pe_op op_sub (pe_callB call_len_seq (by rfl) T.len PySem.boot_len (pa_cons (pv 1) pa_nil)) pe_int))) pa_nil))))
        (pss_cons (ps_set (i := 5) sc_LawSights.nd rfl (Or.inl rfl) pe_dnewK)
        (pss_cons (ps_for PassesOwn.never rfl (pi_range1 rfl T.range (pa_cons (pe_callB call_len_seq (by rfl) T.len PySem.boot_len (pa_cons (pv 1) pa_nil)) pa_nil)) (pg_name (i := 6) sc_LawSights.nd rfl (Or.inl rfl))
        (pss_one (ps_if (pt_cmpR op_eq (pe_ix ix_list (pv 4) (pv 6) (fun _ _ => rfl)) pe_int (nomark _)) (pss_one (ps_dput hu (pv 5) (pe_ix ix_list (pv 1) (pv 6) (fun _ _ => rfl)) (pe_ix ix_list (pv 1) (pv 6) (fun _ _ => rfl)) rfl)) (pss_one (ps_if (pt_chain op_le op_lt pe_int (pe_ix ix_list (pv 4) (pv 6) (fun _ _ => rfl)) (pv 3)) (pss_one (ps_dput hu (pv 5) (pe_ix ix_list (pv 1) (pv 6) (fun _ _ => rfl)) (pe_ix ix_list (pv 2) (pe_op op_sub (pe_ix ix_list (pv 4) (pv 6) (fun _ _ => rfl)) pe_int) (fun _ _ => rfl)) rfl)) pss_nil)))))
        (pss_one (ps_ret (pv 5))))))), ?_⟩
    refine ⟨_, rfl, mk, _, rfl, .inl (SqL.of hmk), _, _, rfl, rfl, ?_⟩
    refine ⟨_, rfl, _, rfl, _, _, rfl, rfl, .inl ⟨by decide, by decide⟩, by show 1 ≤ sizeLine; decide, fun a1 n1 => ?_⟩
    have t1 := same_new (o := .lst [V.int 9]) n1
    have hZ : ∀ (HH : Hp) (xs : List V), xs = [V.int 9] → upd HH a1 (.lst xs) a1 = some (.lst [V.int 9]) := fun HH xs e => by rw [upd_same, e]
    refine ⟨_, rfl, by show 1 ≤ sizeLine; decide, fun a2 n2 => ?_⟩
    have t2 := same_new (o := .lst [V.int 3]) n2
    refine ⟨_, rfl, n, _, rfl, .inl (SqL.of (t2 _ _ (t1 _ _ hn))), _, _, rfl, rfl, a2, 3, _, rfl, rfl, upd_same, by decide, by decide, by show 1 * 3 ≤ sizeLine; decide, fun a3 n3 => ?_⟩
    have t3 := same_new (o := .lst [V.int 3, V.int 3, V.int 3]) n3
    refine ⟨a1, a3, _, _, rfl, rfl, t3 _ _ (t2 _ _ (hZ _ _ rfl)), upd_same, by show 4 ≤ sizeLine; decide, fun a4 n4 => ?_⟩
    have t4 := ((t1.trans t2).trans t3).trans (same_new (o := .lst (List.map V.int [9, 3, 3, 3])) n4)
    refine ⟨c, a4, [9, 3, 3, 3], rfl, upd_same, by decide, by decide, fun H1 R rs s0 nR0 hR D => ?_⟩
    have s1 := t4.trans s0
    clear t1 t2 t3 t4 hZ
    have l4 : rs.length = 4 := D.1
    intro d nd
    have sd := same_new (o := .dK []) nd
    have nd0 := s1.free nd
    have hR2 := sd _ _ hR
    have s2 := s1.trans sd
    have nRd := ne_new hR nd
    refine ⟨_, rfl, n, _, rfl, .inl (SqL.of (s2 _ _ hn)), _, rfl, by show -(2 ^ 62) ≤ (4 : Int); decide, by show (4 : Int) < 2 ^ 62; decide, ?_⟩
    refine for_it walk_range (fun i σ H' => ∃ (t : Tab) (x6 : Option V), Same H H' ∧ H' R = some (.lst (List.map V.int rs)) ∧ H' d = some (.dK (tabK t)) ∧ (t.map (·.1)).Nodup ∧ t.length ≤ i ∧ (∀ p ∈ t, p.1 ∈ [z0, z1, z2, z3].take i ∧ (p.2 = p.1 ∨ p.2 = y)) ∧ σ = [some (.int c), some (.ref n), some (.ref mk), some (.int 3), some (.ref R), some (.ref d), x6])
      ⟨[], _, s2, hR2, upd_same, List.nodup_nil, Nat.le_refl _, (fun p h => nomatch h), rfl⟩ (fun _ _ _ _ _ => trivial) ?_ ?_
    · rintro i v σ H3 H4 hi ⟨t, x6, s3, hR3, hd3, tnd, tl, tok, rfl⟩ ⟨rfl, rfl⟩
      have hi4 : i < 4 := hi
      have h4 : ∀ i : Nat, i < 4 → ∃ s : Int, ([9, 3, 3, 3] : List Int)[i]? = some s := fun i h => ⟨_, List.getElem?_eq_getElem h⟩
      obtain ⟨sz, hsz⟩ := h4 i hi4
      have hri : rs[i]? = some rs[i] := List.getElem?_eq_getElem (by omega)
      have hb := D.2 i _ _ hri hsz
      generalize rs[i] = r at hri hb
      have har : atI (List.map V.int rs) (0 + (i : Int)) = some (.int r) := by
        rw [Int.zero_add]
        exact atI_nat (by rw [List.getElem?_map, hri]; rfl)
      obtain ⟨z, hz⟩ : ∃ z, [z0, z1, z2, z3][i]? = some z := ⟨_, List.getElem?_eq_getElem hi4⟩
      have haz : atI (List.map V.str [z0, z1, z2, z3]) (0 + (i : Int)) = some (.str z) := by
        rw [Int.zero_add]
        exact atI_nat (by rw [List.getElem?_map, hz]; rfl)
      have zno : ¬ z ∈ t.map (·.1) := fun m => by
        obtain ⟨p, hp, e⟩ := List.mem_map.mp m
        exact nodup_take_not znd hz (by rw [← e]; exact (tok p hp).1)
      have hn3 := s3 _ _ hn
      have hmk3 := s3 _ _ hmk
      have tk1 : [z0, z1, z2, z3].take (i + 1) = [z0, z1, z2, z3].take i ++ [z] := take_snoc hz
      have lk : (tabK t).length < sizeLine := by
        show (List.map _ t).length < _
        rw [List.length_map]
        omega
      have put : ∀ x : Str, x = z ∨ x = y → ∃ (t' : Tab) (x6 : Option V), Same H (upd H4 d (.dK (putK (tabK t) (.inr z) (.str x)))) ∧ upd H4 d (.dK (putK (tabK t) (.inr z) (.str x))) R = some (.lst (List.map V.int rs)) ∧ upd H4 d (.dK (putK (tabK t) (.inr z) (.str x))) d = some (.dK (tabK t')) ∧ (t'.map (·.1)).Nodup ∧ t'.length ≤ i + 1 ∧ (∀ p ∈ t', p.1 ∈ [z0, z1, z2, z3].take (i + 1) ∧ (p.2 = p.1 ∨ p.2 = y)) ∧
          [some (.int c), some (.ref n), some (.ref mk), some (.int 3), some (.ref R), some (.ref d), some (.int (0 + (i : Int)))] = [some (.int c), some (.ref n), some (.ref mk), some (.int 3), some (.ref R), some (.ref d), x6] := fun x hx => by
        refine ⟨t ++ [(z, x)], _, same_mut s3 nd0, up_ne hR3 nRd, by rw [upd_same, put_tab zno], ?_, by rw [List.length_append]; show _ + 1 ≤ _; omega, fun p hp => ?_, rfl⟩
        · rw [List.map_append]
          exact nodup_snoc tnd zno
        · rw [tk1]
          rcases List.mem_append.mp hp with h | h
          · exact ⟨List.mem_append_left _ (tok p h).1, (tok p h).2⟩
          · rw [List.mem_singleton.mp h]
            exact ⟨List.mem_append_right _ (List.mem_singleton.mpr rfl), hx⟩
      refine ⟨_, rfl, _, rfl, R, _, _, _, rfl, rfl, SqL.of hR3, har, rfl, _, rfl, ?_⟩
      by_cases h1 : r = 1
      · rw [decide_eq_true (show V.int r = V.int 1 by rw [h1])]
        refine iteT ⟨_, rfl, _, rfl, n, _, _, _, rfl, rfl, SqL.of hn3, haz, _, rfl, _, rfl, _, rfl, n, _, _, _, rfl, rfl, SqL.of hn3, haz, d, _, rfl, DPut.k (k := Sum.inr z) hd3 lk, ?_⟩
        exact put z (.inl rfl)
      · rw [decide_eq_false (show ¬ V.int r = V.int 1 from fun z => h1 (V.int.inj z))]
        refine iteF ⟨_, rfl, _, rfl, R, _, _, _, rfl, rfl, SqL.of hR3, har, _, _, rfl, rfl, _, rfl, ?_⟩
        have skip : ∃ (t' : Tab) (x6 : Option V), Same H H4 ∧ H4 R = some (.lst (List.map V.int rs)) ∧ H4 d = some (.dK (tabK t')) ∧ (t'.map (·.1)).Nodup ∧ t'.length ≤ i + 1 ∧ (∀ p ∈ t', p.1 ∈ [z0, z1, z2, z3].take (i + 1) ∧ (p.2 = p.1 ∨ p.2 = y)) ∧
          [some (.int c), some (.ref n), some (.ref mk), some (.int 3), some (.ref R), some (.ref d), some (.int (0 + (i : Int)))] = [some (.int c), some (.ref n), some (.ref mk), some (.int 3), some (.ref R), some (.ref d), x6] :=
          ⟨t, _, s3, hR3, hd3, tnd, by omega, fun p hp => ⟨by rw [tk1]; exact List.mem_append_left _ (tok p hp).1, (tok p hp).2⟩, rfl⟩
        by_cases h2 : (2 : Int) ≤ r
        · rw [if_pos (decide_eq_true h2)]
          refine ⟨_, rfl, _, _, rfl, rfl, _, rfl, ?_⟩
          by_cases h3 : r < 3
          · have hr2 : r = 2 := by omega
            subst hr2
            rw [decide_eq_true (show (2 : Int) < 3 by decide)]
            refine iteT ⟨_, rfl, _, rfl, _, rfl, R, _, _, _, rfl, rfl, SqL.of hR3, har, _, _, rfl, rfl, mk, _, _, _, rfl, rfl, SqL.of hmk3, atI_nat (j := 0) rfl, _, rfl, _, rfl, _, rfl, n, _, _, _, rfl, rfl, SqL.of hn3, haz, d, _, rfl, DPut.k (k := Sum.inr z) hd3 lk, ?_⟩
            exact put y (.inr rfl)
          · exact ite2 (fun e => absurd (of_decide_eq_true e) h3) (fun _ => skip)
        · rw [if_neg (show ¬ decide ((2 : Int) ≤ r) = true from fun z => h2 (of_decide_eq_true z))]
          exact ⟨_, rfl, iteF skip⟩
    · rintro σ H3 ⟨t, x6, s3, hR3, hd3, tnd, tl, tok, rfl⟩
      exact ⟨_, rfl, q _ d t s3 nd0 hd3 tnd tl fun p hp => tok p hp⟩
def spLawAlone (C CW : Addr) : Sp := fun vs H Q _ => ∃ m M wl l ds ts f S, vs = [.ref m, .ref l, .str f] ∧ MachAt C H m M wl ∧ H l = some (.lst (List.map V.ref ds)) ∧ Paired (fun d t => H d = some (.dK (tabK t))) ds ts ∧ (∀ t ∈ ts, (t.map (·.1)).Nodup ∧ t.length ≤ 100 ∧ ∀ p ∈ t, NameOk p.1 ∧ NameOk p.2) ∧
  M.rows.length ≤ 80 ∧ 1 ≤ ts.length ∧ ts.length ≤ 2 ∧ M.ft.length ≤ 3 ∧ NameOk f ∧ (∃ q ∈ M.ft, q.2 = f) ∧ Sts M S ∧ ∀ H', Same H H' → Q (dueV (Met M ts f)) H'
theorem ok_LawAlone {f : Addr} {fd : FuncData} (F : FnP K "_law_alone" "_law_alone" sLawAlone [] f fd) (T : Tx K mg) (C_late : Cal P w K mg base 8 "late" ["machine", "watches", "fault"] (spLate P w C CW)) (C_Watch : CalC P w K mg base 8 CW "Watch" ["self", "sights"] (spWatchInit CW)) :
    FnOk P w K mg base CX0 9 f fd ["_law_machine_here", "_law_tables", "_law_fault"] (spLawAlone C CW) := by
  refine mk_fn F sc_LawAlone (fun vs H Q E h => ?_) (fun cdv A outer s H vs Q E hr h => ?_)
  · obtain ⟨m, M, wl, l, ds, ts, f, S, rfl, _⟩ := h
    rfl
  · obtain ⟨m, M, wl, l, ds, ts, ff, S, rfl, hMa, hl, pr, tok, r80, w1, w2, f3, nf, inf, FS, q⟩ := h
    have q1 : Met M ts ff → ∀ H', Same H H' → Q .non H' := fun hm H' s' => by
      have z := q H' s'
      rw [dueV_t hm] at z
      exact z
    have q0 : ¬ Met M ts ff → ∀ H', Same H H' → Q (.int 0) H' := fun hm H' s' => by
      have z := q H' s'
      rw [dueV_f hm] at z
      exact z
    have sl : (1000000 : Nat) < sizeLine := by decide
    have lds : ds.length = ts.length := Paired.length pr
    refine ⟨_, (pss_cons (ps_set (i := 3) sc_LawAlone.nd rfl (Or.inl rfl) (pc C_late hr (pa_cons (pv 0) (pa_cons (pe_lc rfl sc_LawAlone.nd (pi_list (pv 1)) (blkOk_by (own := [("_law_sights_here", 4)]) (N := ["_law_machine_here", "_law_tables", "_law_fault", "_law_told", "_law_sights_here"]) (sc := defScope sLawAlone) (by decide +kernel)) (fun _ _ _ _ _ => (pg_name (i := 4) sc_LawAlone.nd rfl (Or.inl rfl))) (fun _ _ _ _ _ => pts_nil) (fun _ _ _ _ _ => (pmk C_Watch hr (pa_cons (pv 4) pa_nil)))) (pa_cons (pv 2) pa_nil)))))
        (pss_cons (ps_if (PW.pt (pw_or (pt_cmpR op_isN (pv 3) pe_non (nomark _)) (pw_or1 (pt_cmpR op_gt (pv 3) pe_int (nomark _))))) (pss_one (ps_ret pe_non)) pss_nil)
        (pss_one (ps_ret pe_int)))), ?_⟩
    refine ⟨_, rfl, _, rfl, l, rfl, ⟨_, SqL.of hl⟩, fun J nJ => ?_⟩
    refine lc_it walk_list (fun i H' => Same H H' ∧ ∃ as : List Addr, H' J = some (.lst (as.map V.ref)) ∧ Paired (WatchAt CW H') as (ts.take i)) ⟨same_new nJ, [], upd_same, .nil⟩ (fun i H' _ h => SqL.of (h.1 _ _ hl)) ?_ ?_
    · rintro i v H1 H2 hi ⟨s1, as, hJ, prW⟩ ⟨rfl, e1⟩
      obtain ⟨d, hd, rfl⟩ := map_ref e1
      obtain ⟨t, ht, hdt⟩ := L2.paired_get pr hd
      obtain ⟨t1, t2, t3⟩ := tok t (List.mem_of_getElem? ht)
      refine ⟨rfl, _, rfl, fun x dx nx ndx nxd => ?_⟩
      have hx : ∀ a o, H2 a = some o → a ≠ x := fun a o e => ne_new e nx
      have sX : Same H2 (upd (upd H2 dx (.own x)) x (.ins CW dx [])) := same_add (same_new ndx) (by rw [upd_ne (Ne.symm nxd)]; exact nx)
      refine ⟨x, d, dx, t, rfl, upd_same, sX _ _ (s1 _ _ hdt), t1, t2, t3, fun H3 sx hW => ⟨rfl, ?_⟩⟩
      have s3 : Same H2 H3 := fun b o e => sx _ _ (sX _ _ e) (hx _ _ e)
      have hJ3 := s3 _ _ hJ
      have las : as.length ≤ i := by rw [Paired.length prW, List.length_take]; omega
      refine ⟨_, hJ3, by rw [List.length_map]; rw [List.length_map] at hi; omega, same_mut (s1.trans s3) nJ, as ++ [x], by rw [upd_same, List.map_append]; rfl, ?_⟩
      rw [take_snoc ht]
      have putW : ∀ {a : Addr} {t : Tab}, WatchAt CW H3 a t → WatchAt CW (upd H3 J (.lst (as.map V.ref ++ [V.ref x]))) a t := fun ⟨dx, fs, ad, h1, h2, h3⟩ => ⟨dx, fs, ad, up_ne h1 (ne_of h1 hJ3 (by intro z; cases z)), h2, up_ne h3 (ne_of h3 hJ3 (by intro z; cases z))⟩
      exact Paired.snoc (Paired.mapP prW fun _ _ z => putW (z.same s3)) (putW hW)
    · rintro H1 ⟨s1, as, hJ, prW⟩
      rw [List.length_map, lds, List.take_length] at prW
      refine ⟨_, rfl, m, M, wl, J, ts, ff, S, rfl, hMa.same s1, ⟨as, hJ, prW⟩, r80, w1, w2, f3, nf, inf, FS, fun nm H2 s2 => ?_, fun hm H2 s2 => ⟨?_, fun n hn _ => ?_⟩⟩
      · have s12 := s1.trans s2
        exact ⟨_, rfl, rfl, _, rfl, iteF ⟨_, rfl, _, _, rfl, rfl, _, rfl, iteF (q0 nm _ s12)⟩⟩
      · have s12 := s1.trans s2
        exact ⟨_, rfl, rfl, _, rfl, iteT (iteT (q1 hm _ s12))⟩
      · have s12 := s1.trans s2
        refine ⟨_, rfl, rfl, _, rfl, iteF ⟨_, rfl, _, _, rfl, rfl, _, rfl, ?_⟩⟩
        rw [decide_eq_true hn]
        exact iteT (q1 hm _ s12)
end
end Kn

end
section
set_option maxHeartbeats 4000000
/-! The plain side of the law: names, halves, views. -/
namespace Kn
open PySem PySem.Spec PyProof.Rows L2
theorem letters_all : ∀ c : Nat, 97 ≤ c → c ≤ 122 → c ∈ ("abcdefghijklmnopqrstuvwxyz" : Str).cps.toList := fun c h1 h2 => by
  have h : ∀ j : Fin 26, 97 + j.val ∈ ("abcdefghijklmnopqrstuvwxyz" : Str).cps.toList := by decide +kernel
  have := h ⟨c - 97, by omega⟩
  rw [show 97 + (c - 97) = c by omega] at this
  exact this
abbrev SG (r : Int) (k : Nat) (z : Str) : Prop := sgn z = [110 + ((r + 5 * (k : Int)) % 13).toNat]
theorem SG.pos {r : Int} {k : Nat} {z : Str} (h : SG r k z) : 1 ≤ z.length := by
  show 1 ≤ z.cps.toList.length
  cases e : z.cps.toList with
  | nil =>
    have h2 : sgn z = _ := h
    unfold sgn at h2
    rw [e] at h2
    exact nomatch h2
  | cons => simp
theorem SG.ne {r : Int} {i j : Nat} {x y : Str} (hx : SG r i x) (hy : SG r j y) (hi : i < 13) (hj : j < 13) (ne : i ≠ j) : x ≠ y := fun e => by
  subst e
  have h : [110 + ((r + 5 * (i : Int)) % 13).toNat] = [110 + ((r + 5 * (j : Int)) % 13).toNat] := hx.symm.trans hy
  have h2 := (List.cons.inj h).1
  have b1 := Int.emod_nonneg (r + 5 * (i : Int)) (show (13 : Int) ≠ 0 by decide)
  have b2 := Int.emod_nonneg (r + 5 * (j : Int)) (show (13 : Int) ≠ 0 by decide)
  omega
theorem NmAt.ok {r : Int} {k : Nat} {z : Str} (h : NmAt r k z) : NameOk z := ⟨SG.pos h.sg, by have := h.le; omega, fun c hc => letters_all c (h.ab c hc).1 (h.ab c hc).2⟩
def mate (z : Str) : Str := z ++ ("a" : Str)
theorem mate_cps (z : Str) : (mate z).cps.toList = z.cps.toList ++ [97] := by
  unfold mate
  rw [cps_append]
  congr 1
theorem mate_sg {r : Int} {k : Nat} {z : Str} (h : SG r k z) : SG r k (mate z) := by
  show sgn (mate z) = _
  unfold sgn
  rw [mate_cps, List.filter_append]
  have e : ([97] : List Nat).filter (fun c => decide (110 ≤ c)) = [] := rfl
  rw [e, List.append_nil]
  exact h
theorem mate_ok {r : Int} {k : Nat} {z : Str} (h : NmAt r k z) : NameOk (mate z) := by
  refine ⟨SG.pos (mate_sg h.sg), ?_, fun c hc => ?_⟩
  · show (mate z).cps.toList.length ≤ 12
    rw [mate_cps, List.length_append]
    have : z.cps.toList.length ≤ 6 := h.le
    show _ + 1 ≤ 12
    omega
  · rw [mate_cps] at hc
    rcases List.mem_append.mp hc with m | m
    · exact letters_all c (h.ab c m).1 (h.ab c m).2
    · rw [List.mem_singleton.mp m]
      exact letters_all 97 (by omega) (by omega)
theorem mate_ne (z : Str) : z ≠ mate z := fun e => by
  have h := congrArg (fun x : Str => x.cps.toList.length) e
  simp only [mate_cps, List.length_append, List.length_cons, List.length_nil] at h
  omega
/-- the nine names, their mates -/
structure Nine (r : Int) (n0 n1 n2 n3 n4 n5 n6 n7 n8 : Str) : Prop where
  h0 : NmAt r 0 n0
  h1 : NmAt r 1 n1
  h2 : NmAt r 2 n2
  h3 : NmAt r 3 n3
  h5 : NmAt r 5 n5
  h6 : NmAt r 6 n6
  h7 : NmAt r 7 n7
  h8 : NmAt r 8 n8
section
variable {r : Int} {n0 n1 n2 n3 n4 n5 n6 n7 n8 : Str}
abbrev Wd (n0 n1 n2 n3 : Str) : List Str := [n0, n1, n2, n3]
abbrev Md (n0 n1 n2 n3 : Str) : List Str := [mate n0, mate n1, mate n2, mate n3]
theorem Nine.of {zs : List Str} (h : NmsAt r zs) (hl : zs.length = 9) : ∃ n0 n1 n2 n3 n4 n5 n6 n7 n8, zs = [n0, n1, n2, n3, n4, n5, n6, n7, n8] ∧ Nine r n0 n1 n2 n3 n4 n5 n6 n7 n8 := by
  match zs, hl with
  | [n0, n1, n2, n3, n4, n5, n6, n7, n8], _ => exact ⟨n0, n1, n2, n3, n4, n5, n6, n7, n8, rfl, ⟨h.at_ 0 _ rfl, h.at_ 1 _ rfl, h.at_ 2 _ rfl, h.at_ 3 _ rfl, h.at_ 5 _ rfl, h.at_ 6 _ rfl, h.at_ 7 _ rfl, h.at_ 8 _ rfl⟩⟩
theorem nd4 {a b c d : Str} (h1 : a ≠ b) (h2 : a ≠ c) (h3 : a ≠ d) (h4 : b ≠ c) (h5 : b ≠ d) (h6 : c ≠ d) : [a, b, c, d].Nodup := by
  simp [h1, h2, h3, h4, h5, h6]
theorem Nine.wnd (N : Nine r n0 n1 n2 n3 n4 n5 n6 n7 n8) : (Wd n0 n1 n2 n3).Nodup :=
  nd4 (SG.ne N.h0.sg N.h1.sg (by omega) (by omega) (by omega)) (SG.ne N.h0.sg N.h2.sg (by omega) (by omega) (by omega)) (SG.ne N.h0.sg N.h3.sg (by omega) (by omega) (by omega)) (SG.ne N.h1.sg N.h2.sg (by omega) (by omega) (by omega)) (SG.ne N.h1.sg N.h3.sg (by omega) (by omega) (by omega)) (SG.ne N.h2.sg N.h3.sg (by omega) (by omega) (by omega))
theorem Nine.mnd (N : Nine r n0 n1 n2 n3 n4 n5 n6 n7 n8) : (Md n0 n1 n2 n3).Nodup :=
  nd4 (SG.ne (mate_sg N.h0.sg) (mate_sg N.h1.sg) (by omega) (by omega) (by omega)) (SG.ne (mate_sg N.h0.sg) (mate_sg N.h2.sg) (by omega) (by omega) (by omega)) (SG.ne (mate_sg N.h0.sg) (mate_sg N.h3.sg) (by omega) (by omega) (by omega)) (SG.ne (mate_sg N.h1.sg) (mate_sg N.h2.sg) (by omega) (by omega) (by omega)) (SG.ne (mate_sg N.h1.sg) (mate_sg N.h3.sg) (by omega) (by omega) (by omega)) (SG.ne (mate_sg N.h2.sg) (mate_sg N.h3.sg) (by omega) (by omega) (by omega))
/-- a word has one of the first four letters -/
theorem Nine.wsg (N : Nine r n0 n1 n2 n3 n4 n5 n6 n7 n8) {x : Str} (h : x ∈ Wd n0 n1 n2 n3) : ∃ k, k < 4 ∧ SG r k x := by
  simp only [List.mem_cons, List.not_mem_nil, or_false] at h
  rcases h with rfl | rfl | rfl | rfl
  · exact ⟨0, by omega, N.h0.sg⟩
  · exact ⟨1, by omega, N.h1.sg⟩
  · exact ⟨2, by omega, N.h2.sg⟩
  · exact ⟨3, by omega, N.h3.sg⟩
theorem Nine.msg (N : Nine r n0 n1 n2 n3 n4 n5 n6 n7 n8) {x : Str} (h : x ∈ Md n0 n1 n2 n3) : ∃ k, k < 4 ∧ SG r k x := by
  simp only [List.mem_cons, List.not_mem_nil, or_false] at h
  rcases h with rfl | rfl | rfl | rfl
  · exact ⟨0, by omega, mate_sg N.h0.sg⟩
  · exact ⟨1, by omega, mate_sg N.h1.sg⟩
  · exact ⟨2, by omega, mate_sg N.h2.sg⟩
  · exact ⟨3, by omega, mate_sg N.h3.sg⟩
theorem Nine.apart (N : Nine r n0 n1 n2 n3 n4 n5 n6 n7 n8) {x y : Str} (hx : x ∈ Wd n0 n1 n2 n3) (hy : y ∈ Md n0 n1 n2 n3) : x ≠ y := by
  simp only [List.mem_cons, List.not_mem_nil, or_false] at hx hy
  rcases hx with rfl | rfl | rfl | rfl <;> rcases hy with rfl | rfl | rfl | rfl
  · exact mate_ne _
  · exact SG.ne N.h0.sg (mate_sg N.h1.sg) (by omega) (by omega) (by omega)
  · exact SG.ne N.h0.sg (mate_sg N.h2.sg) (by omega) (by omega) (by omega)
  · exact SG.ne N.h0.sg (mate_sg N.h3.sg) (by omega) (by omega) (by omega)
  · exact SG.ne N.h1.sg (mate_sg N.h0.sg) (by omega) (by omega) (by omega)
  · exact mate_ne _
  · exact SG.ne N.h1.sg (mate_sg N.h2.sg) (by omega) (by omega) (by omega)
  · exact SG.ne N.h1.sg (mate_sg N.h3.sg) (by omega) (by omega) (by omega)
  · exact SG.ne N.h2.sg (mate_sg N.h0.sg) (by omega) (by omega) (by omega)
  · exact SG.ne N.h2.sg (mate_sg N.h1.sg) (by omega) (by omega) (by omega)
  · exact mate_ne _
  · exact SG.ne N.h2.sg (mate_sg N.h3.sg) (by omega) (by omega) (by omega)
  · exact SG.ne N.h3.sg (mate_sg N.h0.sg) (by omega) (by omega) (by omega)
  · exact SG.ne N.h3.sg (mate_sg N.h1.sg) (by omega) (by omega) (by omega)
  · exact SG.ne N.h3.sg (mate_sg N.h2.sg) (by omega) (by omega) (by omega)
  · exact mate_ne _
theorem Nine.wok (N : Nine r n0 n1 n2 n3 n4 n5 n6 n7 n8) : ∀ z ∈ Wd n0 n1 n2 n3, NameOk z := fun z h => by
  simp only [List.mem_cons, List.not_mem_nil, or_false] at h
  rcases h with rfl | rfl | rfl | rfl
  · exact N.h0.ok
  · exact N.h1.ok
  · exact N.h2.ok
  · exact N.h3.ok
theorem Nine.mok (N : Nine r n0 n1 n2 n3 n4 n5 n6 n7 n8) : ∀ z ∈ Md n0 n1 n2 n3, NameOk z := fun z h => by
  simp only [List.mem_cons, List.not_mem_nil, or_false] at h
  rcases h with rfl | rfl | rfl | rfl
  · exact mate_ok N.h0
  · exact mate_ok N.h1
  · exact mate_ok N.h2
  · exact mate_ok N.h3
end
/-- one of the two machines: its words, its states, its one fault -/
structure Half (M : Mach) (S : List Int) (wl W : List Str) (f : Str) : Prop where
  good : Good M S wl W
  few : ∀ s, (nums M.rows s).length ≤ 8
  fo : ∀ w z, M.fault w = some z → w ∈ W ∧ z = f
  fv : ∀ q ∈ M.ft, q.2 = f
  has : ∃ q ∈ M.ft, q.2 = f
theorem nums_cnt (rows : List Row) (s : Int) : (nums rows s).length = cnt rows s := by
  have h : ∀ l : List Nat, (∀ i ∈ l, ∃ r, rows[i]? = some r) → (l.filterMap fun i => rows[i]?).length = l.length := fun l => by
    induction l with
    | nil => exact fun _ => rfl
    | cons i l ih =>
      intro hl
      obtain ⟨r, hr⟩ := hl i List.mem_cons_self
      rw [List.filterMap_cons, hr]
      exact congrArg (· + 1) (ih fun j hj => hl j (List.mem_cons_of_mem _ hj))
  have h2 := h (nums rows s) fun i hi => let ⟨r, a, _⟩ := mem_nums.mp hi; ⟨r, a⟩
  rw [nums_rows] at h2
  exact h2.symm
theorem half_of {labs : List Int} {W : List Str} {rows : List Row} {st : Int} {wl : List Str} {w0 f : Str} (L : LM labs W 3 rows) (hst : st ∈ labs) (hl3 : labs.length ≤ 3) (hW : W.length ≤ 7) (hok : ∀ z ∈ W, NameOk z) (hf : NameOk f) (h0 : ∃ r ∈ rows, r.2.1 = w0) (nd : wl.Nodup) (hwl : ∀ z, z ∈ wl ↔ ∃ r ∈ rows, r.2.1 = z) :
    Half ⟨st, rows, tabOf wl [(w0, f)]⟩ labs wl W f := by
  have le5 := L.len
  have mem1 : ∀ p ∈ tabOf wl [(w0, f)], p = (w0, f) := fun p hp => List.mem_singleton.mp (tabOf_mem hp)
  have w0W : w0 ∈ W := by
    obtain ⟨r, hr, e⟩ := h0
    rw [← e]
    exact (L.src r hr).2.2
  have fo : ∀ w z, look (tabOf wl [(w0, f)]) w = some z → w = w0 ∧ z = f := fun w z h => by
    have e := mem1 _ (look_mem h)
    exact ⟨congrArg (·.1) e, congrArg (·.2) e⟩
  refine ⟨⟨⟨hl3, hst, fun r hr => (L.src r hr).1, fun r hr => (L.src r hr).2.1, fun s hs => L.live s hs, fun s => L.few s, by show rows.length ≤ 80; omega⟩, L.nd, fun r hr => hok _ (L.src r hr).2.2, hwl, tabOf_len nd, fun p hp => ?_, hW, fun r hr => (L.src r hr).2.2⟩, fun s => ?_, fun w z h => ?_, fun q hq => ?_, ?_⟩
  · rw [mem1 p hp]
    exact ⟨hok _ w0W, hf, h0⟩
  · show (nums rows s).length ≤ 8
    rw [nums_cnt]
    have := L.few s
    omega
  · obtain ⟨e1, e2⟩ := fo w z h
    rw [e1]
    exact ⟨w0W, e2⟩
  · rw [mem1 q hq]
  · have : look (tabOf wl [(w0, f)]) w0 = some f := by
      rw [look_tabOf nd, if_pos ((hwl w0).mpr h0)]
      unfold look
      rw [List.find?_cons, decide_eq_true rfl]
      rfl
    exact ⟨_, look_mem this, rfl⟩
/-- a table of one side: own words to own words or to the mark -/
def TabSide (W : List Str) (y : Str) (t : Tab) : Prop := (t.map (·.1)).Nodup ∧ t.length ≤ 4 ∧ ∀ p ∈ t, p.1 ∈ W ∧ (p.2 = p.1 ∨ p.2 = y)
theorem TabSide.look {W : List Str} {y : Str} {t : Tab} (h : TabSide W y t) {w z : Str} (e : look t w = some z) : w ∈ W ∧ (z = w ∨ z = y) := h.2.2 _ (look_mem e)
theorem half_sts {M : Mach} {S : List Int} {wl W : List Str} {f : Str} (h : Half M S wl W f) : Sts M S := ⟨by have := h.good.fin.len; omega, h.good.fin.st, h.good.fin.cl, h.few⟩
theorem prod_sts {A B Cm : Mach} {pr : List (Int × Int)} (P : Prod A B Cm pr) (hl : pr.length ≤ 9) (hc : ∀ s, cnt Cm.rows s ≤ 8) : Sts Cm ((List.range pr.length).map fun (n : Nat) => (n : Int)) := by
  refine ⟨by rw [List.length_map, List.length_range]; exact hl, ?_, fun r hr => ?_, fun s => by rw [nums_cnt]; exact hc s⟩
  · rw [P.start]
    exact List.mem_map.mpr ⟨0, List.mem_range.mpr (List.getElem?_eq_some_iff.mp P.p0).1, rfl⟩
  · obtain ⟨m, n, p, q, p', q', _, e2, _, h4, _⟩ := P.rows r hr
    rw [e2]
    exact List.mem_map.mpr ⟨n, List.mem_range.mpr (List.getElem?_eq_some_iff.mp h4).1, rfl⟩
theorem own_of {A B : Mach} {SA SB : List Int} {wA wB WA WB : List Str} {fA fB : Str} (HA : Half A SA wA WA fA) (HB : Half B SB wB WB fB) (ne : fA ≠ fB) (dj : ∀ x ∈ WA, ∀ y ∈ WB, x ≠ y) : Own A B fA :=
  ⟨fun w e => ne (HB.fo w fA e).2, fun r hr e => dj _ (HA.fo _ _ e).1 _ (HB.good.wW r hr) rfl⟩
/-- the law's heart for one of the two machines -/
theorem heart {A B Cm : Mach} {SA SB : List Int} {wA wB WA WB : List Str} {fA fB : Str} {pr : List (Int × Int)} {ws wa : List Tab} (HA : Half A SA wA WA fA) (HB : Half B SB wB WB fB) (ne : fA ≠ fB) (dj : ∀ x ∈ WA, ∀ y ∈ WB, x ≠ y) (P : Prod A B Cm pr) (V : Views A B ws wa) :
    (Met Cm ws fA ↔ Met A wa fA) ∧ (Met A wa fA → ∀ N φ, ¬ Pot Cm ws fA N φ) ∧ (Met A wa fA → ∃ q ∈ Cm.ft, q.2 = fA) := by
  have O := own_of HA HB ne dj
  refine ⟨P.met V O, fun hM N φ => P.never V O (fun q => q ∈ SB) HB.good.fin.st (fun q hq => ?_) hM N φ, fun hM => ?_⟩
  · obtain ⟨r, hr, e⟩ := HB.good.fin.live q hq
    exact ⟨r.2.1, r.2.2, by rw [← e]; exact hr, HB.good.fin.cl r hr⟩
  · obtain ⟨sp, h⟩ := (P.met V O).mpr hM
    obtain ⟨r, _, e⟩ := h.has rfl
    exact ⟨_, look_mem e, rfl⟩
end Kn

end
section
set_option maxHeartbeats 8000000
/-! law. -/
namespace Kn
open PySem PySem.Spec PyProof.Rows L2
theorem sc_Law : FnScope ["_law_script", "_law_names_here", "_law_words", "_law_mates", "_law_left", "_law_right", "_law_row_here", "_law_one", "_law_other", "_law_firsts", "_law_seconds", "_law_k", "_law_tables", "_law_both", "_law_watches", "_law_dues", "_law_table", "_law_fault", "_law_name"] ["_law_script"] (defScope sLaw) := ⟨rfl, rfl, rfl, by decide +kernel, rfl, by decide +kernel, by decide +kernel⟩
theorem views_l {A B : Mach} {SA SB : List Int} {wA wB WA WB : List Str} {fA fB yA yB : Str} (HA : Half A SA wA WA fA) (HB : Half B SB wB WB fB) (dj : ∀ x ∈ WA, ∀ y ∈ WB, x ≠ y) (h1 : ∀ y ∈ WB, yA ≠ y) (h2 : ∀ x ∈ WA, x ≠ yB) (h3 : yA ≠ yB) {ta tb : List Tab} (hl : ta.length = tb.length) (ka : ∀ t ∈ ta, TabSide WA yA t) (kb : ∀ t ∈ tb, TabSide WB yB t) :
    Views A B (List.zipWith (fun a b => a ++ b) ta tb) ta ∧ Views B A (List.zipWith (fun a b => a ++ b) ta tb) tb := by
  have at_ : ∀ {k : Nat} {t : Tab}, (List.zipWith (fun a b => a ++ b) ta tb)[k]? = some t → ∃ x y, ta[k]? = some x ∧ tb[k]? = some y ∧ t = x ++ y := fun {k t} h => by
    rw [List.getElem?_zipWith] at h
    cases e1 : ta[k]? with
    | none => rw [e1] at h; exact nomatch h
    | some x =>
      cases e2 : tb[k]? with
      | none => rw [e1, e2] at h; exact nomatch h
      | some y =>
        rw [e1, e2] at h
        exact ⟨x, y, rfl, rfl, (Option.some.inj h).symm⟩
  have na : ∀ {t : Tab} {w : Str}, t ∈ ta → w ∈ WB → look t w = none := fun {t w} ht hw => by
    cases e : look t w with
    | none => rfl
    | some z => exact absurd rfl (dj w ((ka t ht).look e).1 w hw)
  have nb : ∀ {t : Tab} {w : Str}, t ∈ tb → w ∈ WA → look t w = none := fun {t w} ht hw => by
    cases e : look t w with
    | none => rfl
    | some z => exact absurd rfl (dj w hw w ((kb t ht).look e).1)
  have la : ∀ {x y : Tab} {w : Str}, y ∈ tb → w ∈ WA → look (x ++ y) w = look x w := fun {x y w} hy hw => by
    rw [look_append, nb hy hw]
    exact Option.or_none
  have lb : ∀ {x y : Tab} {w : Str}, x ∈ ta → w ∈ WB → look (x ++ y) w = look y w := fun {x y w} hx hw => by
    rw [look_append, na hx hw]
    rfl
  have ap : ∀ {x y : Tab} {w w' z : Str}, x ∈ ta → y ∈ tb → w ∈ WA → w' ∈ WB → look (x ++ y) w = some z → look (x ++ y) w' = some z → False := fun {x y w w' z} hx hy hw hw' e1 e2 => by
    rw [la hy hw] at e1
    rw [lb hx hw'] at e2
    rcases ((ka x hx).look e1).2 with a | a <;> rcases ((kb y hy).look e2).2 with b | b
    · exact dj w hw w' hw' (a.symm.trans b)
    · exact h2 w hw (a.symm.trans b)
    · exact h1 w' hw' (a.symm.trans b)
    · exact h3 (a.symm.trans b)
  refine ⟨⟨by rw [List.length_zipWith]; omega, fun k t tx h e r hr => ?_, fun k t h r hr r' hr' z e1 e2 => ?_⟩, ⟨by rw [List.length_zipWith]; omega, fun k t tx h e r hr => ?_, fun k t h r hr r' hr' z e1 e2 => ?_⟩⟩
  · obtain ⟨x, y, a, b, rfl⟩ := at_ h
    rw [a] at e
    cases e
    exact la (List.mem_of_getElem? b) (HA.good.wW r hr)
  · obtain ⟨x, y, a, b, rfl⟩ := at_ h
    exact ap (List.mem_of_getElem? a) (List.mem_of_getElem? b) (HA.good.wW r hr) (HB.good.wW r' hr') e1 e2
  · obtain ⟨x, y, a, b, rfl⟩ := at_ h
    rw [b] at e
    cases e
    exact lb (List.mem_of_getElem? a) (HB.good.wW r hr)
  · obtain ⟨x, y, a, b, rfl⟩ := at_ h
    exact ap (List.mem_of_getElem? a) (List.mem_of_getElem? b) (HA.good.wW r' hr') (HB.good.wW r hr) e2 e1
/-- a method that the text calls on an object -/
structure CalM (P : Program) (w : World) (K : PySem.W.Frag) (mg : Str → Option Value) (base : Heap) (k : Nat) (C : Addr) (m : Str) (ps : List Str) (sp : Sp) : Prop where
  ex : ∃ f fd, Meth K C m f ∧ FnOk P w K mg base CX0 k f fd ps sp ∧ Binds K fd ps []
  cl : Cls K C
def tMt (C : Addr) (m : Str) (sp : Sp) (ta : TE) (t : TA) : TE := fun σ H Q => ta σ H fun x H1 => ∃ a dx fs, x = .ref a ∧ H1 a = some (.ins C dx fs) ∧ fs.lookup m = none ∧ t σ H1 fun vs H2 => sp (x :: vs) H2 Q E0
theorem pmt {X : Cx} {k : Nat} {C : Addr} {m : Str} {ps : List Str} {sp : Sp} {o e : Expr} {es : List Expr} {ta : TE} {t : TA} {apos pos : Pos} {pl : Sem Bool} (c : CalM X.prog X.w X.K X.mg X.base k C m ps sp) (hr : Room k X.A) (ho : PE X o ta) (ha : PA X (e :: es) t)
    (hst : starEach (e :: es) X.env = (false, eval e X.env) :: starEach es X.env := by rfl) (hpl : (backTo pos (starEach es X.env)).any (·.1) = false := by rfl)
    (ht : eval (.Call (.Attribute o m apos) (e :: es) [] pos) X.env = (do
      let ov ← eval o X.env
      standAt apos.atName
      let (f, first) ← holding [ov] (getMethod ov m pl)
      callWith pos f first (backTo pos (starEach (e :: es) X.env)) (backToKw pos (keywordEach [] X.env))) := by rfl) : PE X (.Call (.Attribute o m apos) (e :: es) [] pos) (tMt C m sp ta t) := by
  obtain ⟨f, fd, hm, F, hb⟩ := c.ex
  have q := pe_meth (pos := pos) ho c.cl hm F hr hb .nil pass0 ha hst hpl ht
  refine ⟨fun pins s σ H Q I h => q.run pins s σ H Q I ?_⟩
  have e1 : ∀ vs : List V, vs ++ [] = vs := List.append_nil
  show ta σ H fun x H1 => ∃ a dx fs, x = .ref a ∧ H1 a = some (.ins C dx fs) ∧ fs.lookup m = none ∧ t σ H1 fun vs H2 => sp (x :: (vs ++ [])) H2 Q E0
  simp only [e1]
  exact h
section
variable {P : Program} {w : World} {K : PySem.W.Frag} {mg : Str → Option Value} {base : Heap} {C CW : Addr}
theorem seqL_same {K : PySem.W.Frag} {H H' : Hp} {a : Addr} {xs : List V} (s : Same H H') (h : SqL K H a xs) : SqL K H' a xs := by
  rcases h with (h | ⟨o, h⟩) | h
  · exact .inl (.inl (s _ _ h))
  · exact .inl (.inr ⟨o, s _ _ h⟩)
  · exact .inr h
def DkAt (H : Hp) (d : Addr) (t : Tab) : Prop := H d = some (.dK (tabK t))
theorem DkAt.same {H H' : Hp} (s : Same H H') {d : Addr} {t : Tab} (h : DkAt H d t) : DkAt H' d t := s _ _ h
theorem DkAt.put {H : Hp} {F : Addr} {xs ys : List V} (hF : H F = some (.lst xs)) {d : Addr} {t : Tab} (h : DkAt H d t) : DkAt (upd H F (.lst ys)) d t := up_ne h (ne_of h hF (by intro z; cases z))
theorem MachAt.ne {H : Hp} {m : Addr} {M : Mach} {wl : List Str} (h : MachAt C H m M wl) : ∃ dx fs, H m = some (.ins C dx fs) ∧ fs.lookup ("beside" : Str) = none := let ⟨d, D⟩ := h; ⟨d.dx, d.fs, D.ob, D.no⟩
def spLaw (K : PySem.W.Frag) : Sp := fun vs H Q _ => ∃ a ns, vs = [.ref a] ∧ SqL K H a (List.map V.int ns) ∧ ns.length ≤ 63 ∧ ∀ H', Q (.bl true) H'
theorem ok_Law {f : Addr} {fd : FuncData} (F : FnP K "law" "law" sLaw [] f fd) (T : Tx K mg) (C__law_cell : Cal P w K mg base 9 "_law_cell" ["_law_script", "_law_k"] (spLawCell K)) (C__law_names : Cal P w K mg base 9 "_law_names" ["_law_cell_here", "_law_many"] spLawNames)
    (C__law_machine : Cal P w K mg base 9 "_law_machine" ["_law_cell_here", "_law_names_here", "_law_most", "_law_extra"] spLawMachine) (C__law_row : Cal P w K mg base 9 "_law_row" ["_law_cell_here", "_law_sizes"] spLawRow) (C__law_sights : Cal P w K mg base 9 "_law_sights" ["_law_cell_here", "_law_names_here", "_law_marks"] spLawSights)
    (C__law_alone : Cal P w K mg base 9 "_law_alone" ["_law_machine_here", "_law_tables", "_law_fault"] (spLawAlone C CW)) (C_late : Cal P w K mg base 9 "late" ["machine", "watches", "fault"] (spLate P w C CW)) (C_Machine : CalC P w K mg base 9 C "Machine" ["self", "start", "steps", "faults"] (spMachineInit C)) (C_Watch : CalC P w K mg base 9 CW "Watch" ["self", "sights"] (spWatchInit CW))
    (C_beside : CalM P w K mg base 9 C "beside" ["self", "other"] (spBeside C)) (C_fault_names : CalP P w K mg base 9 C "fault_names" (spFaultNames C)) : FnOk P w K mg base CX0 10 f fd ["_law_script"] (spLaw K) := by
  refine mk_fn F sc_Law (fun vs H Q E h => ?_) (fun cdv A outer s H vs Q E hr h => ?_)
  · obtain ⟨a, ns, rfl, _⟩ := h
    rfl
  · obtain ⟨a, ns, rfl, hs, l63, q⟩ := h
    have sl : (1000000 : Nat) < sizeLine := by decide
    refine ⟨_, (pss_cons (ps_set (i := 1) sc_Law.nd rfl (Or.inl rfl) (pc C__law_names hr (pa_cons (pc C__law_cell hr (pa_cons (pv 0) (pa_cons pe_int pa_nil))) (pa_cons pe_int pa_nil))))
        (pss_cons (ps_set (i := 2) sc_Law.nd rfl (Or.inl rfl) (pe_slice sl_list (pv 1) po_none (po_some pe_int)))
        (pss_cons (ps_setLc (i := 3) rfl sc_Law.nd rfl rfl (sw_true rfl rfl rfl (by decide +kernel)) (pi_list (pe_slice sl_list (pv 1) po_none (po_some pe_int))) (blkOk_by (own := [("_law_name", 18)]) (N := ["_law_script", "_law_names_here", "_law_words", "_law_mates", "_law_left", "_law_right", "_law_row_here", "_law_one", "_law_other", "_law_firsts", "_law_seconds", "_law_k", "_law_tables", "_law_both", "_law_watches", "_law_dues", "_law_table", "_law_fault", "_law_name"]) (sc := defScope sLaw) (by decide +kernel)) (fun _ _ _ _ _ => (pg_name (i := 18) sc_Law.nd rfl (Or.inl rfl))) (fun _ _ _ _ _ => pts_nil) (fun _ _ _ _ _ => (pe_op op_add_str (pv 18) pe_str)))
        (pss_cons (ps_set (i := 4) sc_Law.nd rfl (Or.inl rfl) (pc C__law_machine hr (pa_cons (pc C__law_cell hr (pa_cons (pv 0) (pa_cons pe_int pa_nil))) (pa_cons (pv 2) (pa_cons pe_int (pa_cons pe_int pa_nil))))))
        (pss_cons (ps_set (i := 5) sc_Law.nd rfl (Or.inl rfl) (pc C__law_machine hr (pa_cons (pc C__law_cell hr (pa_cons (pv 0) (pa_cons pe_int pa_nil))) (pa_cons (pv 3) (pa_cons pe_int (pa_cons pe_int pa_nil))))))
        (pss_cons (ps_set (i := 6) sc_Law.nd rfl (Or.inl rfl) (pc C__law_row hr (pa_cons (pc C__law_cell hr (pa_cons (pv 0) (pa_cons pe_int pa_nil))) (pa_cons (pe_lst (pa_cons pe_int (pa_cons pe_int (pa_cons pe_int pa_nil)))) pa_nil))))
        (pss_cons (ps_set (i := 7) sc_Law.nd rfl (Or.inl rfl) (pmk C_Machine hr (pa_cons (pe_ix ix_list (pe_ix ix_list (pv 4) pe_int (fun _ _ => rfl)) pe_int (fun _ _ => rfl)) (pa_cons (pe_ix ix_list (pv 4) pe_int (fun _ _ => rfl)) (pa_cons (pe_disp (pps_cons (pe_ix ix_list (pv 2) pe_int (fun _ _ => rfl)) (pe_ix ix_list (pv 1) pe_int (fun _ _ => rfl)) pps_nil) rfl rfl (by simp) (by decide)) pa_nil)))))
        (pss_cons (ps_set (i := 8) sc_Law.nd rfl (Or.inl rfl) (pmk C_Machine hr (pa_cons (pe_ix ix_list (pe_ix ix_list (pv 5) pe_int (fun _ _ => rfl)) pe_int (fun _ _ => rfl)) (pa_cons (pe_ix ix_list (pv 5) pe_int (fun _ _ => rfl)) (pa_cons (pe_disp (pps_cons (pe_ix ix_list (pv 3) pe_int (fun _ _ => rfl)) (pe_ix ix_list (pv 1) pe_int (fun _ _ => rfl)) pps_nil) rfl rfl (by simp) (by decide)) pa_nil)))))
        (pss_cons (ps_set (i := 9) sc_Law.nd rfl (Or.inl rfl) (pe_lst pa_nil))
        (pss_cons (ps_set (i := 10) sc_Law.nd rfl (Or.inl rfl) (pe_lst pa_nil))
        (pss_cons (ps_for PassesOwn.never rfl (pi_range1 rfl T.range (pa_cons (pe_op op_add pe_int (pe_ix ix_list (pv 6) pe_int (fun _ _ => rfl))) pa_nil)) (pg_name (i := 11) sc_Law.nd rfl (Or.inl rfl))
        (pss_cons (ps_expr (pe_bm PySem.F.plainAttrs_list PySem.F.slot_list_append PySem.F.type_list_append mt_append (pv 9) (pa_cons (pc C__law_sights hr (pa_cons (pc C__law_cell hr (pa_cons (pv 0) (pa_cons (pe_op op_add pe_int (pe_op op_mul pe_int (pv 11))) pa_nil))) (pa_cons (pv 2) (pa_cons (pe_lst (pa_cons (pe_ix ix_list (pv 1) pe_int (fun _ _ => rfl)) pa_nil)) pa_nil)))) pa_nil)))
        (pss_one (ps_expr (pe_bm PySem.F.plainAttrs_list PySem.F.slot_list_append PySem.F.type_list_append mt_append (pv 10) (pa_cons (pc C__law_sights hr (pa_cons (pc C__law_cell hr (pa_cons (pv 0) (pa_cons (pe_op op_add pe_int (pe_op op_mul pe_int (pv 11))) pa_nil))) (pa_cons (pv 3) (pa_cons (pe_lst (pa_cons (pe_ix ix_list (pv 1) pe_int (fun _ _ => rfl)) pa_nil)) pa_nil)))) pa_nil))))))
        (pss_cons (ps_set (i := 12) sc_Law.nd rfl (Or.inl rfl) (pe_lst pa_nil))
        (pss_cons (ps_for PassesOwn.never rfl (pi_range1 rfl T.range (pa_cons (pe_callB call_len_seq (by rfl) T.len PySem.boot_len (pa_cons (pv 9) pa_nil)) pa_nil)) (pg_name (i := 11) sc_Law.nd rfl (Or.inl rfl))
        (pss_cons (ps_set (i := 16) sc_Law.nd rfl (Or.inl rfl) (pe_callTy call_dictD (by rfl) T.dict (by decide +kernel) (pa_cons (pe_ix ix_list (pv 9) (pv 11) (fun _ _ => rfl)) pa_nil)))
        (pss_cons (ps_expr (pe_bm PySem.F.plainAttrs_dict PySem.F.slot_dict_update PySem.F.type_dict_update mt_dupd (pv 16) (pa_cons (pe_ix ix_list (pv 10) (pv 11) (fun _ _ => rfl)) pa_nil)))
        (pss_one (ps_expr (pe_bm PySem.F.plainAttrs_list PySem.F.slot_list_append PySem.F.type_list_append mt_append (pv 12) (pa_cons (pv 16) pa_nil)))))))
        (pss_cons (ps_set (i := 13) sc_Law.nd rfl (Or.inl rfl) (pmt C_beside hr (pv 7) (pa_cons (pv 8) pa_nil)))
        (pss_cons (ps_if (pt_cmpR op_eq (pe_ix ix_list (pv 6) pe_int (fun _ _ => rfl)) pe_int (nomark _)) (pss_one (ps_set (i := 13) sc_Law.nd rfl (Or.inl rfl) (pmt C_beside hr (pv 8) (pa_cons (pv 7) pa_nil)))) pss_nil)
        (pss_cons (ps_setLc (i := 14) rfl sc_Law.nd rfl rfl (sw_true rfl rfl rfl (by decide +kernel)) (pi_list (pv 12)) (blkOk_by (own := [("_law_table", 16)]) (N := ["_law_script", "_law_names_here", "_law_words", "_law_mates", "_law_left", "_law_right", "_law_row_here", "_law_one", "_law_other", "_law_firsts", "_law_seconds", "_law_k", "_law_tables", "_law_both", "_law_watches", "_law_dues", "_law_table", "_law_fault", "_law_name"]) (sc := defScope sLaw) (by decide +kernel)) (fun _ _ _ _ _ => (pg_name (i := 16) sc_Law.nd rfl (Or.inl rfl))) (fun _ _ _ _ _ => pts_nil) (fun _ _ _ _ _ => (pmk C_Watch hr (pa_cons (pv 16) pa_nil))))
        (pss_cons (ps_set (i := 15) sc_Law.nd rfl (Or.inl rfl) (pe_lst (pa_cons (pc C__law_alone hr (pa_cons (pv 7) (pa_cons (pv 9) (pa_cons (pe_ix ix_list (pv 1) pe_int (fun _ _ => rfl)) pa_nil)))) (pa_cons (pc C__law_alone hr (pa_cons (pv 8) (pa_cons (pv 10) (pa_cons (pe_ix ix_list (pv 1) pe_int (fun _ _ => rfl)) pa_nil)))) pa_nil))))
        (pss_cons (ps_for PassesOwn.never rfl (pi_range1 rfl T.range (pa_cons pe_int pa_nil)) (pg_name (i := 11) sc_Law.nd rfl (Or.inl rfl))
        (pss_cons (ps_set (i := 17) sc_Law.nd rfl (Or.inl rfl) (pe_ix ix_list (pv 1) (pe_op op_add pe_int (pv 11)) (fun _ _ => rfl)))
        (pss_one (ps_if (pt_cmpR op_notIn_seq (pv 17) (ppr C_fault_names hr (pv 13)) rfl) (pss_one (ps_if (PW.pt (pw_or (pt_cmpR op_isN (pe_ix ix_list (pv 15) (pv 11) (fun _ _ => rfl)) pe_non (nomark _)) (pw_or1 (pt_cmpR op_ne (pe_ix ix_list (pv 15) (pv 11) (fun _ _ => rfl)) pe_int (nomark _))))) (pss_one (ps_ret pe_bl)) pss_nil)) (pss_one (ps_if (pt_cmpR op_ne (pc C_late hr (pa_cons (pv 13) (pa_cons (pv 14) (pa_cons (pv 17) pa_nil)))) (pe_ix ix_list (pv 15) (pv 11) (fun _ _ => rfl)) (nomark _)) (pss_one (ps_ret pe_bl)) pss_nil))))))
        (pss_one (ps_ret pe_bl)))))))))))))))))))), ?_⟩
    refine ⟨_, rfl, a, ns, 0, rfl, hs, l63, by decide, fun c0 => ⟨c0, rfl, fun H1 N r zs s1 nN hN lz nz => ?_⟩⟩
    obtain ⟨n0, n1, n2, n3, n4, n5, n6, n7, n8, rfl, NN⟩ := Nine.of nz lz
    clear lz nz
    have hs1 := seqL_same s1 hs
    refine ⟨_, rfl, _, rfl, N, _, rfl, SqL.of hN, fun Wl nW => ?_⟩
    have eW : cutV (List.map V.str [n0, n1, n2, n3, n4, n5, n6, n7, n8]) none (some 4) = List.map V.str (Wd n0 n1 n2 n3) := rfl
    rw [eW]
    have w1 := same_new (o := .lst (List.map V.str (Wd n0 n1 n2 n3))) nW
    refine ⟨_, rfl, _, rfl, N, _, rfl, SqL.of (w1 _ _ hN), fun G nG => ?_⟩
    have eG : cutV (List.map V.str [n0, n1, n2, n3, n4, n5, n6, n7, n8]) none (some 4) = List.map V.str (Wd n0 n1 n2 n3) := rfl
    rw [eG]
    have w2 := same_new (o := .lst (List.map V.str (Wd n0 n1 n2 n3))) nG
    refine ⟨G, rfl, ⟨_, SqL.of upd_same⟩, fun Ml nM => ?_⟩
    have sW := w1.trans w2
    have hG : (upd (upd H1 Wl (.lst (List.map V.str (Wd n0 n1 n2 n3)))) G (.lst (List.map V.str (Wd n0 n1 n2 n3)))) G = some (.lst (List.map V.str (Wd n0 n1 n2 n3))) := upd_same
    have hW2 : (upd (upd H1 Wl (.lst (List.map V.str (Wd n0 n1 n2 n3)))) G (.lst (List.map V.str (Wd n0 n1 n2 n3)))) Wl = some (.lst (List.map V.str (Wd n0 n1 n2 n3))) := w2 _ _ upd_same
    generalize upd (upd H1 Wl (.lst (List.map V.str (Wd n0 n1 n2 n3)))) G (.lst (List.map V.str (Wd n0 n1 n2 n3))) = H2 at sW hG hW2 nM ⊢
    have s2 := s1.trans sW
    have hN2 := sW _ _ hN
    clear w1 w2 sW eW eG nW nG hN s1 hs1
    refine lc_it walk_list (fun i H' => Same H2 H' ∧ H' Ml = some (.lst ((((Wd n0 n1 n2 n3).take i).map mate).map V.str))) ⟨same_new nM, upd_same⟩ (fun i H' _ h => SqL.of (h.1 _ _ hG)) ?_ ?_
    · rintro i v H3 H4 hi ⟨s3, hM⟩ ⟨rfl, e1⟩
      rw [List.getElem?_map] at e1
      obtain ⟨z, hz, e2⟩ := Option.map_eq_some_iff.mp e1
      subst e2
      have zl : z.length ≤ 12 := (NN.wok z (List.mem_of_getElem? hz)).2.1
      refine ⟨rfl, _, rfl, _, _, rfl, rfl, by show z.length + 1 ≤ sizeLine; omega, _, hM, by rw [List.length_map, List.length_map]; exact Nat.lt_of_le_of_lt (List.length_take_le' _ _) (by show 4 < sizeLine; omega), same_mut s3 nM, ?_⟩
      rw [upd_same, take_snoc hz, List.map_append, List.map_append]
      rfl
    · rintro H3 ⟨s3, hM⟩
      have eM : (((Wd n0 n1 n2 n3).take (List.map V.str (Wd n0 n1 n2 n3)).length).map mate).map V.str = List.map V.str (Md n0 n1 n2 n3) := rfl
      rw [eM] at hM
      have sA := s2.trans s3
      have hN3 := s3 _ _ hN2
      have hW3 := s3 _ _ hW2
      clear s3 s2 eM hN2 hW2 hG nM
      refine ⟨_, rfl, a, ns, 1, rfl, seqL_same sA hs, l63, by decide, fun c1 => ⟨_, rfl, c1, Wl, n0, n1, n2, n3, rfl, hW3, NN.wok, fun H4 p1 a1 b1 labs1 rows1 s4 hp1 ha1 hb1 ne1 l31 l91 LM1 h01 => ?_⟩⟩
      refine ⟨_, rfl, a, ns, 2, rfl, seqL_same (sA.trans s4) hs, l63, by decide, fun c2 => ⟨_, rfl, c2, Ml, mate n0, mate n1, mate n2, mate n3, rfl, s4 _ _ hM, NN.mok, fun H5 p2 a2 b2 labs2 rows2 s5 hp2 ha2 hb2 ne2 l32 l92 LM2 h02 => ?_⟩⟩
      refine ⟨_, rfl, a, ns, 3, rfl, seqL_same ((sA.trans s4).trans s5) hs, l63, by decide, fun c3 => ⟨by show 3 ≤ sizeLine; decide, fun a3 n3' => ⟨c3, a3, [2, 2, 2], rfl, upd_same, by decide, by decide, fun H6 Rw rs s60 nRw hRw D => ?_⟩⟩⟩
      have s6 := (same_new (o := .lst (List.map V.int [2, 2, 2])) n3').trans s60
      have s56 := s5.trans s6
      have s36 := s4.trans s56
      have hN6 := s36 _ _ hN3
      have hW6 := s36 _ _ hW3
      have hM6 := s36 _ _ hM
      have hp16 := s56 _ _ hp1
      have ha16 := s56 _ _ ha1
      have hb16 := hb1.same s56
      have hp26 := s6 _ _ hp2
      have ha26 := s6 _ _ ha2
      have hb26 := hb2.same s6
      have sB := sA.trans s36
      clear s36 s56 s6 s60 s5 s4 hp1 ha1 hb1 hp2 ha2 hb2 hN3 hW3 hM sA n3' nRw
      have l3 : rs.length = 3 := D.1
      obtain ⟨r0, r1, hr0, hr1, r00, r02⟩ : ∃ r0 r1, rs[0]? = some r0 ∧ rs[1]? = some r1 ∧ 0 ≤ r0 ∧ r0 < 2 := by
        have h0 : rs[0]? = some rs[0] := List.getElem?_eq_getElem (by omega)
        have h1 : rs[1]? = some rs[1] := List.getElem?_eq_getElem (by omega)
        have := D.2 0 _ 2 h0 rfl
        exact ⟨_, _, h0, h1, this.1, this.2⟩
      have ar0 : atI (List.map V.int rs) (0 : Int) = some (.int r0) := atI_nat (j := 0) (by rw [List.getElem?_map, hr0]; rfl)
      have ar1 : atI (List.map V.int rs) (1 : Int) = some (.int r1) := atI_nat (j := 1) (by rw [List.getElem?_map, hr1]; rfl)
      clear l3 hr0 hr1 D
      obtain ⟨st1, lt1, rfl⟩ : ∃ x y, labs1 = x :: y := by cases labs1 with | nil => exact absurd rfl ne1 | cons x y => exact ⟨x, y, rfl⟩
      obtain ⟨st2, lt2, rfl⟩ : ∃ x y, labs2 = x :: y := by cases labs2 with | nil => exact absurd rfl ne2 | cons x y => exact ⟨x, y, rfl⟩
      have mkRows : ∀ {labs : List Int} {W : List Str} {rows : List Row}, LM labs W 3 rows → (∀ l ∈ labs, 0 ≤ l ∧ l ≤ 99) → (∀ z ∈ W, NameOk z) → W.length ≤ 4 → labs ≠ [] → RowsOk rows ∧ Few14 rows := fun {labs W rows} L l9 ok w4 ne => by
        refine ⟨⟨fun e => ?_, by have := L.len; omega, fun r hr => ⟨(l9 _ (L.src r hr).1).1, (l9 _ (L.src r hr).1).2, (l9 _ (L.src r hr).2.1).1, (l9 _ (L.src r hr).2.1).2, ok _ (L.src r hr).2.2⟩, L.nd, fun s => by have := L.few s; omega⟩, ⟨W, by omega, fun r hr => (L.src r hr).2.2⟩⟩
        obtain ⟨x, hx⟩ := List.exists_mem_of_ne_nil _ ne
        obtain ⟨r, hr, _⟩ := L.live x hx
        rw [e] at hr
        exact nomatch hr
      obtain ⟨RO1, F1⟩ := mkRows LM1 l91 NN.wok (Nat.le_refl 4) ne1
      obtain ⟨RO2, F2⟩ := mkRows LM2 l92 NN.mok (Nat.le_refl 4) ne2
      clear mkRows
      refine ⟨_, rfl, p1, _, _, _, rfl, rfl, SqL.of hp16, atI_nat (j := 0) rfl, a1, _, _, _, rfl, rfl, SqL.of ha16, atI_nat (j := 0) rfl, _, rfl, p1, _, _, _, rfl, rfl, SqL.of hp16, atI_nat (j := 1) rfl, fun e1 ne1' => ?_⟩
      have d1 := same_new (o := .dK []) ne1'
      refine ⟨_, rfl, Wl, _, _, _, rfl, rfl, SqL.of (d1 _ _ hW6), atI_nat (j := 0) rfl, _, rfl, N, _, _, _, rfl, rfl, SqL.of (d1 _ _ hN6), atI_nat (j := 7) rfl, upd_same, [(.inr n0, .str n7)], rfl, Nat.le_of_ble_eq_true rfl, ?_⟩
      intro x1 dx1 nx1 ndx1 nxd1
      have sE := same_mut (o := .dK (mergeK [] [(Sum.inr n0, V.str n7)])) d1 ne1'
      have hE : upd (upd H6 e1 (.dK [])) e1 (.dK (mergeK [] [(Sum.inr n0, V.str n7)])) e1 = some (.dK (tabK [(n0, n7)])) := upd_same
      generalize upd (upd H6 e1 (.dK [])) e1 (.dK (mergeK [] [(Sum.inr n0, V.str n7)])) = H7 at sE hE nx1 ndx1 ⊢
      clear d1 ne1'
      have sX1 : Same H7 (upd (upd H7 dx1 (.own x1)) x1 (.ins C dx1 [])) := same_add (same_new ndx1) (by rw [upd_ne (Ne.symm nxd1)]; exact nx1)
      have w0m : ∀ p ∈ [(n0, n7)], NameOk p.1 ∧ NameOk p.2 ∧ ∃ r ∈ rows1, r.2.1 = p.1 := fun p hp => by
        rw [List.mem_singleton.mp hp]
        exact ⟨NN.h0.ok, NN.h7.ok, h01⟩
      refine ⟨x1, st1, b1, e1, dx1, rows1, [(n0, n7)], rfl, upd_same, (l91 st1 List.mem_cons_self).1, (l91 st1 List.mem_cons_self).2, hb16.same (sE.trans sX1), RO1, F1, sX1 _ _ hE, Nat.le_of_ble_eq_true rfl, w0m, fun z => z ∈ st1 :: lt1, List.mem_cons_self, fun r hr _ => (LM1.src r hr).2.1, fun z hz => LM1.live z hz, fun H8 wl1 sx1 nd1 hwl1 hMA => ⟨rfl, ?_⟩⟩
      have s8 : Same H6 H8 := fun b o e => sx1 _ _ (sX1 _ _ (sE _ _ e)) (ne_new (sE _ _ e) nx1)
      have HA := half_of LM1 List.mem_cons_self l31 (Nat.le_of_ble_eq_true rfl) NN.wok NN.h7.ok h01 nd1 hwl1
      clear sX1 sx1 sE hE nx1 ndx1 nxd1 w0m RO1 F1 hwl1 nd1 h01
      refine ⟨_, rfl, p2, _, _, _, rfl, rfl, SqL.of (s8 _ _ hp26), atI_nat (j := 0) rfl, a2, _, _, _, rfl, rfl, SqL.of (s8 _ _ ha26), atI_nat (j := 0) rfl, _, rfl, p2, _, _, _, rfl, rfl, SqL.of (s8 _ _ hp26), atI_nat (j := 1) rfl, fun e2 ne2' => ?_⟩
      have d2 := same_new (o := .dK []) ne2'
      refine ⟨_, rfl, Ml, _, _, _, rfl, rfl, SqL.of (d2 _ _ (s8 _ _ hM6)), atI_nat (j := 0) rfl, _, rfl, N, _, _, _, rfl, rfl, SqL.of (d2 _ _ (s8 _ _ hN6)), atI_nat (j := 8) rfl, upd_same, [(.inr (mate n0), .str n8)], rfl, Nat.le_of_ble_eq_true rfl, ?_⟩
      intro x2 dx2 nx2 ndx2 nxd2
      have sE := same_mut (o := .dK (mergeK [] [(Sum.inr (mate n0), V.str n8)])) d2 ne2'
      have hE : upd (upd H8 e2 (.dK [])) e2 (.dK (mergeK [] [(Sum.inr (mate n0), V.str n8)])) e2 = some (.dK (tabK [(mate n0, n8)])) := upd_same
      generalize upd (upd H8 e2 (.dK [])) e2 (.dK (mergeK [] [(Sum.inr (mate n0), V.str n8)])) = H9 at sE hE nx2 ndx2 ⊢
      clear d2 ne2'
      have sX2 : Same H9 (upd (upd H9 dx2 (.own x2)) x2 (.ins C dx2 [])) := same_add (same_new ndx2) (by rw [upd_ne (Ne.symm nxd2)]; exact nx2)
      have w0m : ∀ p ∈ [(mate n0, n8)], NameOk p.1 ∧ NameOk p.2 ∧ ∃ r ∈ rows2, r.2.1 = p.1 := fun p hp => by
        rw [List.mem_singleton.mp hp]
        exact ⟨mate_ok NN.h0, NN.h8.ok, h02⟩
      refine ⟨x2, st2, b2, e2, dx2, rows2, [(mate n0, n8)], rfl, upd_same, (l92 st2 List.mem_cons_self).1, (l92 st2 List.mem_cons_self).2, hb26.same (s8.trans (sE.trans sX2)), RO2, F2, sX2 _ _ hE, Nat.le_of_ble_eq_true rfl, w0m, fun z => z ∈ st2 :: lt2, List.mem_cons_self, fun r hr _ => (LM2.src r hr).2.1, fun z hz => LM2.live z hz, fun HX wl2 sx2 nd2 hwl2 hMB => ⟨rfl, ?_⟩⟩
      have s9 : Same H8 HX := fun b o e => sx2 _ _ (sX2 _ _ (sE _ _ e)) (ne_new (sE _ _ e) nx2)
      have HB := half_of LM2 List.mem_cons_self l32 (Nat.le_of_ble_eq_true rfl) NN.mok NN.h8.ok h02 nd2 hwl2
      have hMA9 := hMA.same s9
      clear hMA sX2 sx2 sE hE nx2 ndx2 nxd2 w0m RO2 F2 hwl2 nd2 h02
      have s69 := s8.trans s9
      have hN := s69 _ _ hN6
      have hW := s69 _ _ hW6
      have hM := s69 _ _ hM6
      have hRw9 := s69 _ _ hRw
      have sC := sB.trans s69
      clear s69 s9 s8 sB hN6 hW6 hM6 hRw hp16 ha16 hb16 hp26 ha26 hb26 LM1 LM2 l91 l92 l31 l32 ne1 ne2
      generalize (⟨st1, rows1, tabOf wl1 [(n0, n7)]⟩ : Mach) = A1 at HA hMA9
      generalize (⟨st2, rows2, tabOf wl2 [(mate n0, n8)]⟩ : Mach) = B1 at HB hMB
      refine ⟨Nat.zero_le _, fun Fs nF => ?_⟩
      have f1 := same_new (o := .lst []) nF
      refine ⟨Nat.zero_le _, fun Ss nS => ?_⟩
      have f2 := same_new (o := .lst []) nS
      have nF0 := nF
      have nS0 := f1.free nS
      have hF : (upd (upd HX Fs (.lst [])) Ss (.lst [])) Fs = some (.lst []) := f2 _ _ upd_same
      have hS : (upd (upd HX Fs (.lst [])) Ss (.lst [])) Ss = some (.lst []) := upd_same
      have nFS : Fs ≠ Ss := ne_new upd_same nS
      have fX := f1.trans f2
      generalize upd (upd HX Fs (.lst [])) Ss (.lst []) = HY at hF hS fX ⊢
      clear f1 f2 nF nS
      refine ⟨_, rfl, Rw, _, _, _, rfl, rfl, SqL.of (fX _ _ hRw9), ar0, _, _, rfl, rfl, _, rfl, by omega, by omega, ?_⟩
      obtain ⟨nw, hnw, nw1, nw2⟩ : ∃ nw : Nat, (1 + r0).toNat = nw ∧ 1 ≤ nw ∧ nw ≤ 2 := ⟨(1 + r0).toNat, rfl, by omega, by omega⟩
      rw [hnw]
      refine for_it walk_range (fun i σ H' => ∃ (ds1 ds2 : List Addr) (ta tb : List Tab) (x11 x18 : Option V), Same HX H' ∧ H' Fs = some (.lst (ds1.map V.ref)) ∧ H' Ss = some (.lst (ds2.map V.ref)) ∧ Paired (DkAt H') ds1 ta ∧ Paired (DkAt H') ds2 tb ∧ ta.length = i ∧ tb.length = i ∧ (∀ t ∈ ta, TabSide (Wd n0 n1 n2 n3) n5 t) ∧ (∀ t ∈ tb, TabSide (Md n0 n1 n2 n3) n6 t) ∧
          σ = [some (.ref a), some (.ref N), some (.ref Wl), some (.ref Ml), some (.ref p1), some (.ref p2), some (.ref Rw), some (.ref x1), some (.ref x2), some (.ref Fs), some (.ref Ss), x11, none, none, none, none, none, none, x18])
        ⟨[], [], [], [], _, _, fX, hF, hS, .nil, .nil, rfl, rfl, (fun t h => nomatch h), (fun t h => nomatch h), rfl⟩ (fun _ _ _ _ _ => trivial) ?_ ?_
      · rintro i v σ H3 H4 hi ⟨ds1, ds2, ta, tb, x11, x18, s3, hF3, hS3, prA, prB, lta, ltb, kta, ktb, rfl⟩ ⟨rfl, rfl⟩
        have l1 : ds1.length ≤ 2 := by rw [Paired.length prA]; omega
        have l2 : ds2.length ≤ 2 := by rw [Paired.length prB]; omega
        refine ⟨_, rfl, .inl ⟨rfl, _, SqL.of hF3⟩, _, rfl, _, rfl, _, _, rfl, rfl, .inl ⟨by decide, by decide⟩, _, _, rfl, rfl, a, ns, _, rfl, seqL_same (sC.trans s3) hs, l63, by omega, fun c => ⟨_, rfl, _, rfl, N, _, _, _, rfl, rfl, SqL.of (s3 _ _ hN), atI_nat (j := 5) rfl, by show 1 ≤ sizeLine; decide, fun mk nmk => ?_⟩⟩
        have sm := same_new (o := .lst [V.str n5]) nmk
        refine ⟨c, Wl, mk, n0, n1, n2, n3, n5, rfl, sm _ _ (s3 _ _ hW), upd_same, NN.wnd, fun H5 d t s5 nd hd tn tl tok => ?_⟩
        have s45 := sm.trans s5
        have hF5 := s45 _ _ hF3
        refine ⟨Fs, _, _, rfl, rfl, hF5, by rw [List.length_map]; omega, ?_⟩
        have s6 : Same HX (upd H5 Fs (.lst (ds1.map V.ref ++ [V.ref d]))) := same_mut (s3.trans s45) nF0
        have hF6 := upd_same (H := H5) (a := Fs) (o := .lst (ds1.map V.ref ++ [V.ref d]))
        have hS6 := up_ne (u := .lst (ds1.map V.ref ++ [V.ref d])) (s45 _ _ hS3) (Ne.symm nFS)
        have prA6 : Paired (DkAt (upd H5 Fs (.lst (ds1.map V.ref ++ [V.ref d])))) (ds1 ++ [d]) (ta ++ [t]) := Paired.snoc (Paired.mapP prA fun _ _ z => DkAt.put hF5 (z.same s45)) (DkAt.put hF5 hd)
        have prB6 := Paired.mapP prB fun a b (z : DkAt H4 a b) => DkAt.put (ys := ds1.map V.ref ++ [V.ref d]) hF5 (z.same s45)
        generalize upd H5 Fs (.lst (ds1.map V.ref ++ [V.ref d])) = H6' at s6 hF6 hS6 prA6 prB6 ⊢
        refine ⟨_, rfl, .inl ⟨rfl, _, SqL.of hS6⟩, _, rfl, _, rfl, _, _, rfl, rfl, .inl ⟨by decide, by decide⟩, _, _, rfl, rfl, a, ns, _, rfl, seqL_same (sC.trans s6) hs, l63, by omega, fun c => ⟨_, rfl, _, rfl, N, _, _, _, rfl, rfl, SqL.of (s6 _ _ hN), atI_nat (j := 6) rfl, by show 1 ≤ sizeLine; decide, fun mk2 nmk2 => ?_⟩⟩
        have sm2 := same_new (o := .lst [V.str n6]) nmk2
        refine ⟨c, Ml, mk2, mate n0, mate n1, mate n2, mate n3, n6, rfl, sm2 _ _ (s6 _ _ hM), upd_same, NN.mnd, fun H7 d2 t2 s7 nd2 hd2 tn2 tl2 tok2 => ?_⟩
        have s67 := sm2.trans s7
        have hS7 := s67 _ _ hS6
        refine ⟨Ss, _, _, rfl, rfl, hS7, by rw [List.length_map]; omega, ?_⟩
        refine ⟨ds1 ++ [d], ds2 ++ [d2], ta ++ [t], tb ++ [t2], _, _, same_mut (s6.trans s67) nS0, up_ne (by rw [List.map_append]; exact s67 _ _ hF6) nFS, by rw [upd_same, List.map_append]; rfl, Paired.mapP prA6 fun _ _ z => DkAt.put hS7 (z.same s67), Paired.snoc (Paired.mapP prB6 fun _ _ z => DkAt.put hS7 (z.same s67)) (DkAt.put hS7 hd2), by rw [List.length_append, lta]; rfl, by rw [List.length_append, ltb]; rfl, fun u hu => ?_, fun u hu => ?_, rfl⟩
        · rcases List.mem_append.mp hu with z | z
          · exact kta u z
          · rw [List.mem_singleton.mp z]
            exact ⟨tn, tl, tok⟩
        · rcases List.mem_append.mp hu with z | z
          · exact ktb u z
          · rw [List.mem_singleton.mp z]
            exact ⟨tn2, tl2, tok2⟩
      · rintro σ H3 ⟨ds1, ds2, ta, tb, x11, x18, s3, hF3, hS3, prA, prB, lta, ltb, kta, ktb, rfl⟩
        have lds1 : ds1.length = nw := by rw [Paired.length prA, lta]
        have lds2 : ds2.length = nw := by rw [Paired.length prB, ltb]
        have sD := sC.trans s3
        have hN4 := s3 _ _ hN
        have hRw4 := s3 _ _ hRw9
        have hMA4 := hMA9.same s3
        have hMB4 := hMB.same s3
        clear hN hW hM hRw9 hMA9 hMB nF0 nS0 hF hS fX sC s3 nFS
        refine ⟨Nat.zero_le _, fun Tb nTb => ?_⟩
        have sT := same_new (o := .lst []) nTb
        refine ⟨_, rfl, Fs, _, rfl, .inl (SqL.of (sT _ _ hF3)), _, rfl, by omega, by rw [List.length_map]; omega, ?_⟩
        rw [Int.toNat_natCast]
        refine for_it walk_range (fun i σ H' => ∃ (es : List Addr) (x11 x16 x18 : Option V), Same H3 H' ∧ H' Tb = some (.lst (es.map V.ref)) ∧ Paired (DkAt H') es ((List.zipWith (fun a b => a ++ b) ta tb).take i) ∧
            σ = [some (.ref a), some (.ref N), some (.ref Wl), some (.ref Ml), some (.ref p1), some (.ref p2), some (.ref Rw), some (.ref x1), some (.ref x2), some (.ref Fs), some (.ref Ss), x11, some (.ref Tb), none, none, none, x16, none, x18])
          ⟨[], _, _, _, sT, upd_same, .nil, rfl⟩ (fun _ _ _ _ _ => trivial) ?_ ?_
        · rintro i v σ H4 H5 hi ⟨es, x11', x16, x18', s4, hT4, prE, rfl⟩ ⟨rfl, rfl⟩
          rw [List.length_map] at hi
          obtain ⟨d1, hd1⟩ : ∃ d, ds1[i]? = some d := ⟨_, List.getElem?_eq_getElem hi⟩
          obtain ⟨d2, hd2⟩ : ∃ d, ds2[i]? = some d := ⟨_, List.getElem?_eq_getElem (by omega)⟩
          obtain ⟨t1, ht1, hk1⟩ := L2.paired_get prA hd1
          obtain ⟨t2, ht2, hk2⟩ := L2.paired_get prB hd2
          have T1 := kta t1 (List.mem_of_getElem? ht1)
          have T2 := ktb t2 (List.mem_of_getElem? ht2)
          have ad1 : atI (ds1.map V.ref) (0 + (i : Int)) = some (.ref d1) := by
            rw [Int.zero_add]
            exact atI_nat (by rw [List.getElem?_map, hd1]; rfl)
          have ad2 : atI (ds2.map V.ref) (0 + (i : Int)) = some (.ref d2) := by
            rw [Int.zero_add]
            exact atI_nat (by rw [List.getElem?_map, hd2]; rfl)
          have les : es.length ≤ i := by rw [Paired.length prE, List.length_take]; omega
          refine ⟨_, rfl, _, rfl, Fs, _, _, _, rfl, rfl, SqL.of (s4 _ _ hF3), ad1, d1, _, rfl, .inl (s4 _ _ hk1), fun p np => ?_⟩
          have sp := same_new (o := .dK (tabK t1)) np
          have hk2p := sp _ _ (s4 _ _ hk2)
          have npd : p ≠ d2 := Ne.symm (ne_new (s4 _ _ hk2) np)
          have em : mergeK (tabK t1) (tabK t2) = tabK (t1 ++ t2) := mergeK_tab T2.1 fun q hq m => by
            obtain ⟨q', hq', e⟩ := List.mem_map.mp m
            exact NN.apart (T1.2.2 q' hq').1 (T2.2.2 q hq).1 e
          have npT : p ≠ Tb := Ne.symm (ne_new hT4 np)
          refine ⟨_, rfl, .inr (.inr (.inl ⟨rfl, .inl ⟨_, upd_same⟩⟩)), _, rfl, _, rfl, Ss, _, _, _, rfl, rfl, SqL.of (sp _ _ (s4 _ _ hS3)), ad2, p, d2, _, _, rfl, rfl, npd, upd_same, hk2p, by have := T1.2.1; have := T2.2.1; show (List.map _ t1).length + (List.map _ t2).length ≤ _; rw [List.length_map, List.length_map]; omega, ?_⟩
          rw [em]
          have sp2 : Same H5 (upd (upd H5 p (.dK (tabK t1))) p (.dK (tabK (t1 ++ t2)))) := same_mut sp np
          have hp2 : DkAt (upd (upd H5 p (.dK (tabK t1))) p (.dK (tabK (t1 ++ t2)))) p (t1 ++ t2) := upd_same
          have hT6 := sp2 _ _ hT4
          refine ⟨_, rfl, .inl ⟨rfl, _, SqL.of hT6⟩, _, rfl, Tb, _, _, rfl, rfl, hT6, by rw [List.length_map]; omega, ?_⟩
          have hz : (List.zipWith (fun a b => a ++ b) ta tb)[i]? = some (t1 ++ t2) := by rw [List.getElem?_zipWith, ht1, ht2]
          refine ⟨es ++ [p], _, _, _, same_mut (s4.trans sp2) nTb, by rw [upd_same, List.map_append]; rfl, ?_, rfl⟩
          rw [take_snoc hz]
          exact Paired.snoc (Paired.mapP prE fun _ _ z => DkAt.put hT6 (DkAt.same sp2 z)) (DkAt.put hT6 hp2)
        · rintro σ H4 ⟨es, x11', x16, x18', s4, hT4, prE, rfl⟩
          have lz : (List.zipWith (fun a b => a ++ b) ta tb).length = nw := by rw [List.length_zipWith]; omega
          rw [List.length_map, lds1, ← lz, List.take_length] at prE
          have les : es.length = nw := (Paired.length prE).trans lz
          have dj : ∀ x ∈ Wd n0 n1 n2 n3, ∀ y ∈ Md n0 n1 n2 n3, x ≠ y := fun x hx y hy => NN.apart hx hy
          have v1 : ∀ y ∈ Md n0 n1 n2 n3, n5 ≠ y := fun y hy => by
            obtain ⟨k, hk, hsg⟩ := NN.msg hy
            exact SG.ne NN.h5.sg hsg (by omega) (by omega) (by omega)
          have v2 : ∀ x ∈ Wd n0 n1 n2 n3, x ≠ n6 := fun x hx => by
            obtain ⟨k, hk, hsg⟩ := NN.wsg hx
            exact SG.ne hsg NN.h6.sg (by omega) (by omega) (by omega)
          obtain ⟨VA, VB⟩ := views_l HA HB dj v1 v2 (SG.ne NN.h5.sg NN.h6.sg (by omega) (by omega) (by omega)) (lta.trans ltb.symm) kta ktb
          have n78 : n7 ≠ n8 := SG.ne NN.h7.sg NN.h8.sg (by omega) (by omega) (by omega)
          have wsok : ∀ t ∈ List.zipWith (fun a b => a ++ b) ta tb, (t.map (·.1)).Nodup ∧ t.length ≤ 100 ∧ ∀ p ∈ t, NameOk p.1 ∧ NameOk p.2 := fun t ht => by
            obtain ⟨k, hk⟩ := List.mem_iff_getElem?.mp ht
            rw [List.getElem?_zipWith] at hk
            cases e1 : ta[k]? with
            | none => rw [e1] at hk; exact nomatch hk
            | some x =>
              cases e2 : tb[k]? with
              | none => rw [e1, e2] at hk; exact nomatch hk
              | some y =>
                rw [e1, e2] at hk
                obtain rfl := Option.some.inj hk
                have T1 := kta x (List.mem_of_getElem? e1)
                have T2 := ktb y (List.mem_of_getElem? e2)
                refine ⟨?_, by have := T1.2.1; have := T2.2.1; rw [List.length_append]; omega, fun p hp => ?_⟩
                · rw [List.map_append]
                  refine List.nodup_append.mpr ⟨T1.1, T2.1, fun u hu v hv => ?_⟩
                  obtain ⟨q1, hq1, rfl⟩ := List.mem_map.mp hu
                  obtain ⟨q2, hq2, rfl⟩ := List.mem_map.mp hv
                  exact dj _ (T1.2.2 q1 hq1).1 _ (T2.2.2 q2 hq2).1
                · rcases List.mem_append.mp hp with h | h
                  · obtain ⟨h1, h2⟩ := T1.2.2 p h
                    refine ⟨NN.wok _ h1, ?_⟩
                    rcases h2 with e | e
                    · rw [e]; exact NN.wok _ h1
                    · rw [e]; exact NN.h5.ok
                  · obtain ⟨h1, h2⟩ := T2.2.2 p h
                    refine ⟨NN.mok _ h1, ?_⟩
                    rcases h2 with e | e
                    · rw [e]; exact NN.mok _ h1
                    · rw [e]; exact NN.h6.ok
          have taok : ∀ t ∈ ta, (t.map (·.1)).Nodup ∧ t.length ≤ 100 ∧ ∀ p ∈ t, NameOk p.1 ∧ NameOk p.2 := fun t ht => by
            have T1 := kta t ht
            refine ⟨T1.1, by have := T1.2.1; omega, fun p hp => ?_⟩
            obtain ⟨h1, h2⟩ := T1.2.2 p hp
            refine ⟨NN.wok _ h1, ?_⟩
            rcases h2 with e | e
            · rw [e]; exact NN.wok _ h1
            · rw [e]; exact NN.h5.ok
          have tbok : ∀ t ∈ tb, (t.map (·.1)).Nodup ∧ t.length ≤ 100 ∧ ∀ p ∈ t, NameOk p.1 ∧ NameOk p.2 := fun t ht => by
            have T1 := ktb t ht
            refine ⟨T1.1, by have := T1.2.1; omega, fun p hp => ?_⟩
            obtain ⟨h1, h2⟩ := T1.2.2 p hp
            refine ⟨NN.mok _ h1, ?_⟩
            rcases h2 with e | e
            · rw [e]; exact NN.mok _ h1
            · rw [e]; exact NN.h6.ok
          have hF4 := s4 _ _ hF3
          have hS4 := s4 _ _ hS3
          have prA4 := Paired.mapP prA fun _ _ z => DkAt.same s4 z
          have prB4 := Paired.mapP prB fun _ _ z => DkAt.same s4 z
          have hMA5 := hMA4.same s4
          have hMB5 := hMB4.same s4
          have hN5 := s4 _ _ hN4
          have hRw5 := s4 _ _ hRw4
          clear prA prB hF3 hS3 hN4 hRw4 hMA4 hMB4 sT nTb s4 sD
          have aA : A1.rows.length ≤ 80 := HA.good.fin.le
          have aB : B1.rows.length ≤ 80 := HB.good.fin.le
          have fA : A1.ft.length ≤ 3 := by have := HA.good.fl; omega
          have fB : B1.ft.length ≤ 3 := by have := HB.good.fl; omega
          obtain ⟨dxA, fsA, hobA, hnoA⟩ := hMA5.ne
          refine ⟨_, rfl, x1, dxA, fsA, rfl, hobA, hnoA, _, rfl, x1, x2, A1, B1, wl1, wl2, _, _, _, _, rfl, hMA5, hMB5, HA.good, HB.good, fun r hr r' hr' => dj _ (HA.good.wW r hr) _ (HB.good.wW r' hr'), fun H6 m Cm wl pr s6 hC P9 l9 c8 r80 ft3 _ _ => ?_⟩
          refine ⟨_, rfl, Rw, _, _, _, rfl, rfl, SqL.of (s6 _ _ hRw5), ar1, rfl, _, rfl, ?_⟩
          have hP : (∃ pA, Prod A1 B1 Cm pA) ∧ ∃ pB, Prod B1 A1 Cm pB := ⟨⟨_, P9⟩, _, P9.swap⟩
          have hSt : ∃ S, Sts Cm S := ⟨_, prod_sts P9 l9 c8⟩
          clear P9 l9 c8
          by_cases hone : V.int r1 = V.int 1
          case' pos =>
            rw [decide_eq_true hone]
            have hMA7 := hMA5.same s6
            have hMB7 := hMB5.same s6
            obtain ⟨dxB, fsB, hobB, hnoB⟩ := hMB7.ne
            refine iteT ⟨_, rfl, x2, dxB, fsB, rfl, hobB, hnoB, _, rfl, x2, x1, B1, A1, wl2, wl1, _, _, _, _, rfl, hMB7, hMA7, HB.good, HA.good, fun r hr r' hr' => (dj _ (HA.good.wW r' hr') _ (HB.good.wW r hr)).symm, fun H7 m Cm wl pr s7 hC P9 l9 c8 r80 ft3 _ _ => ?_⟩
            have s6 := s6.trans s7
            have hP : (∃ pA, Prod A1 B1 Cm pA) ∧ ∃ pB, Prod B1 A1 Cm pB := ⟨⟨_, P9.swap⟩, _, P9⟩
            have hSt : ∃ S, Sts Cm S := ⟨_, prod_sts P9 l9 c8⟩
            clear P9 l9 c8 s7 hMA7 hMB7 hobB
          case' neg =>
            rw [decide_eq_false hone]
            refine iteF ?_
          all_goals
            obtain ⟨⟨pA, PA⟩, pB, PB⟩ := hP
            obtain ⟨SC, hSC⟩ := hSt
            obtain ⟨jA1, jA2, jA3⟩ := heart HA HB n78 dj PA VA
            obtain ⟨jB1, jB2, jB3⟩ := heart HB HA (Ne.symm n78) (fun y hy x hx => (dj x hx y hy).symm) PB VB
            have hT6 := s6 _ _ hT4
            refine ⟨_, rfl, Tb, rfl, ⟨_, SqL.of hT6⟩, fun J nJ => ?_⟩
            have prE6 := Paired.mapP prE fun _ _ z => DkAt.same s6 z
            refine lc_it walk_list (fun i H' => Same _ H' ∧ ∃ as : List Addr, H' J = some (.lst (as.map V.ref)) ∧ Paired (WatchAt CW H') as ((List.zipWith (fun a b => a ++ b) ta tb).take i)) ⟨same_new nJ, [], upd_same, .nil⟩ (fun i H' _ h => SqL.of (h.1 _ _ hT6)) ?_ ?_
            · rintro i v H1 H2 hi ⟨s1, as, hJ, prW⟩ ⟨rfl, e1⟩
              obtain ⟨d, hd, rfl⟩ := map_ref e1
              obtain ⟨t, ht, hdt⟩ := L2.paired_get prE6 hd
              obtain ⟨t1, t2, t3⟩ := wsok t (List.mem_of_getElem? ht)
              refine ⟨rfl, _, rfl, fun x dx nx ndx nxd => ?_⟩
              have hx : ∀ a o, H2 a = some o → a ≠ x := fun a o e => ne_new e nx
              have sX : Same H2 (upd (upd H2 dx (.own x)) x (.ins CW dx [])) := same_add (same_new ndx) (by rw [upd_ne (Ne.symm nxd)]; exact nx)
              refine ⟨x, d, dx, t, rfl, upd_same, sX _ _ (s1 _ _ hdt), t1, t2, t3, fun H3 sx hW => ⟨rfl, ?_⟩⟩
              have s3 : Same H2 H3 := fun b o e => sx _ _ (sX _ _ e) (hx _ _ e)
              have hJ3 := s3 _ _ hJ
              have las : as.length ≤ i := by rw [Paired.length prW, List.length_take]; omega
              refine ⟨_, hJ3, by rw [List.length_map]; rw [List.length_map] at hi; omega, same_mut (s1.trans s3) nJ, as ++ [x], by rw [upd_same, List.map_append]; rfl, ?_⟩
              rw [take_snoc ht]
              have putW : ∀ {a : Addr} {t : Tab}, WatchAt CW H3 a t → WatchAt CW (upd H3 J (.lst (as.map V.ref ++ [V.ref x]))) a t := fun ⟨dx, fs, ad, h1, h2, h3⟩ => ⟨dx, fs, ad, up_ne h1 (ne_of h1 hJ3 (by intro z; cases z)), h2, up_ne h3 (ne_of h3 hJ3 (by intro z; cases z))⟩
              exact Paired.snoc (Paired.mapP prW fun _ _ z => putW (z.same s3)) (putW hW)
            · rintro H7 ⟨s7, as, hJ, prW⟩
              rw [List.length_map, les, ← lz, List.take_length] at prW
              have s47 := s6.trans s7
              have hC7 := hC.same s7
              have wsA : WsAt CW H7 J (List.zipWith (fun a b => a ++ b) ta tb) := ⟨as, hJ, prW⟩
              refine ⟨_, rfl, _, rfl, _, rfl, N, _, _, _, rfl, rfl, SqL.of (s47 _ _ hN5), atI_nat (j := 7) rfl, x1, A1, wl1, Fs, ds1, ta, n7, _, rfl, hMA5.same s47, s47 _ _ hF4, Paired.mapP prA4 fun _ _ z => DkAt.same s47 z, taok, aA, by omega, by omega, fA, NN.h7.ok, HA.has, half_sts HA, fun H8 s8 => ?_⟩
              have s48 := s47.trans s8
              refine ⟨_, rfl, _, rfl, _, rfl, N, _, _, _, rfl, rfl, SqL.of (s48 _ _ hN5), atI_nat (j := 8) rfl, x2, B1, wl2, Ss, ds2, tb, n8, _, rfl, hMB5.same s48, s48 _ _ hS4, Paired.mapP prB4 fun _ _ z => DkAt.same s48 z, tbok, aB, by omega, by omega, fB, NN.h8.ok, HB.has, half_sts HB, fun H9 s9 => ?_⟩
              have s49 := s48.trans s9
              refine ⟨by show 2 ≤ sizeLine; decide, fun Du nDu => ?_⟩
              have sDu := same_new (o := .lst [dueV (Met A1 ta n7), dueV (Met B1 tb n8)]) nDu
              have s4D := s49.trans sDu
              have hN9 := s4D _ _ hN5
              have hC9 := hC7.same ((s8.trans s9).trans sDu)
              have wsA9 := wsA.same ((s8.trans s9).trans sDu)
              have hDu : upd H9 Du (.lst [dueV (Met A1 ta n7), dueV (Met B1 tb n8)]) Du = some (.lst [dueV (Met A1 ta n7), dueV (Met B1 tb n8)]) := upd_same
              refine ⟨_, rfl, by show -(2 ^ 62) ≤ (2 : Int); decide, by show (2 : Int) < 2 ^ 62; decide, ?_⟩
              generalize upd H9 Du (.lst [dueV (Met A1 ta n7), dueV (Met B1 tb n8)]) = HE at hDu s4D hN9 hC9 wsA9 ⊢
              clear sDu nDu s49 s48 hJ prW s47 hC7 wsA
              refine for_it walk_range (fun i σ H' => ∃ (x11 x16 x17 x18 : Option V), Same HE H' ∧
                  σ = [some (.ref a), some (.ref N), some (.ref Wl), some (.ref Ml), some (.ref p1), some (.ref p2), some (.ref Rw), some (.ref x1), some (.ref x2), some (.ref Fs), some (.ref Ss), x11, some (.ref Tb), some (.ref m), some (.ref J), some (.ref Du), x16, x17, x18])
                ⟨_, _, _, _, Same.refl _, rfl⟩ (fun _ _ _ _ _ => trivial) ?_ ?_
              · rintro i v σ HF HG hi ⟨y11, y16, y17, y18, sF, rfl⟩ ⟨rfl, rfl⟩
                have hk : ∃ (f : Str) (p : Prop), atI (List.map V.str [n0, n1, n2, n3, n4, n5, n6, n7, n8]) (7 + (0 + (i : Int))) = some (.str f) ∧ atI [dueV (Met A1 ta n7), dueV (Met B1 tb n8)] (0 + (i : Int)) = some (dueV p) ∧ NameOk f ∧ (p → ∃ q ∈ Cm.ft, q.2 = f) ∧
                    (Met Cm (List.zipWith (fun a b => a ++ b) ta tb) f ↔ p) ∧ (p → ∀ N φ, ¬ Pot Cm (List.zipWith (fun a b => a ++ b) ta tb) f N φ) := by
                  have hi2 : i = 0 ∨ i = 1 := by
                    have : i < 2 := hi
                    omega
                  rcases hi2 with rfl | rfl
                  · exact ⟨n7, _, atI_nat (j := 7) rfl, atI_nat (j := 0) rfl, NN.h7.ok, jA3, jA1, jA2⟩
                  · exact ⟨n8, _, atI_nat (j := 8) rfl, atI_nat (j := 1) rfl, NN.h8.ok, jB3, jB1, jB2⟩
                obtain ⟨fk, pk, hfa, hda, nfk, k3, k1, k2⟩ := hk
                refine ⟨_, rfl, _, rfl, _, _, rfl, rfl, N, _, _, _, rfl, rfl, SqL.of (sF _ _ hN9), hfa, ?_⟩
                have hCF := hC9.same sF
                obtain ⟨dxm, fsm, hobm, _⟩ := hCF.ne
                refine ⟨_, rfl, _, rfl, m, dxm, fsm, rfl, hobm, m, Cm, _, rfl, hCF, ft3, fun HI p l sI np hp hl => ⟨p, _, rfl, .inl (SqL.of hp), rfl, flat_map l, _, rfl, ?_⟩⟩
                have sFI := sF.trans sI
                refine ite2 (fun e => ?_) (fun e => ?_)
                · have e' : (!inV (V.str fk) (l.map V.str)) = true := e
                  rw [inV_strs] at e'
                  have hno : ¬ fk ∈ l := fun h => by rw [decide_eq_true h] at e'; exact nomatch e'
                  have np : ¬ pk := fun h => hno ((hl fk).mpr (k3 h))
                  rw [dueV_f np] at hda
                  exact ⟨_, rfl, _, rfl, Du, _, _, _, rfl, rfl, SqL.of (sFI _ _ hDu), hda, rfl, _, rfl, iteF ⟨_, rfl, _, rfl, Du, _, _, _, rfl, rfl, SqL.of (sFI _ _ hDu), hda, rfl, _, rfl, iteF ⟨_, _, _, _, sFI, rfl⟩⟩⟩
                · have hin : fk ∈ l := Classical.byContradiction fun h => by
                    refine e ?_
                    show (!inV (V.str fk) (l.map V.str)) = true
                    rw [inV_strs, decide_eq_false h]
                    rfl
                  refine ⟨_, rfl, _, rfl, _, rfl, m, Cm, _, J, _, fk, SC, rfl, hC9.same sFI, wsA9.same sFI, r80, by omega, by omega, ft3, nfk, (hl fk).mp hin, hSC, fun nm HJ sJ => ?_, fun hm HJ sJ => ⟨?_, fun n hn hP => ?_⟩⟩
                  · have sFJ := sFI.trans sJ
                    rw [dueV_f (fun h => nm (k1.mpr h))] at hda
                    exact ⟨_, rfl, _, rfl, Du, _, _, _, rfl, rfl, SqL.of (sFJ _ _ hDu), hda, rfl, _, rfl, iteF ⟨_, _, _, _, sFJ, rfl⟩⟩
                  · have sFJ := sFI.trans sJ
                    rw [dueV_t (k1.mp hm)] at hda
                    exact ⟨_, rfl, _, rfl, Du, _, _, _, rfl, rfl, SqL.of (sFJ _ _ hDu), hda, rfl, _, rfl, iteF ⟨_, _, _, _, sFJ, rfl⟩⟩
                  · obtain ⟨N', φ, h⟩ := hP
                    exact absurd h (k2 (k1.mp hm) N' φ)
              · rintro σ HF ⟨y11, y16, y17, y18, sF, rfl⟩
                exact q _
end
end Kn

end
section
set_option maxHeartbeats 8000000
/-! The facts of the head, put to the defs. -/
namespace Kn
open PySem PySem.Spec PyProof.Rows L2
theorem bb {a b : Bool} (h : (a && b) = true) : a = true ∧ b = true := Bool.and_eq_true_iff.mp h
/-- a getter's function object -/
theorem fn_at {K : PySem.W.Frag} {a : Addr} {x q : Str} {st : Stmt} (e : fnA K a = fnV x q st) (c : fnB K a q = true) : ∃ fd, FnP K x q st [] a fd := by
  obtain ⟨kp, c2⟩ := bb c
  unfold fnA at e
  cases l : K.lookup a with
  | none => rw [l] at c2; cases c2
  | some ob =>
    obtain ⟨oc, od, dt, osl⟩ := ob
    rw [l] at c2 e
    cases dt with
    | func fd =>
      obtain ⟨m1, m2, m3, m4, m5, m6, m7, m8, m9, m10, m11, m12, m13, m14, m15⟩ := fd
      have e2 : (some (m1, m2, m3, m4, m5, m6, m7, m15) : He.FnW) = some (x, q, defArgs st, .stmts (defBody st), defScope st, mainGlobals, [], builtinsNs) := e
      simp only [Option.some.injEq, _root_.Prod.mk.injEq] at e2
      obtain ⟨q1, q2, q3, q4, q5, q6, q7, q8⟩ := e2
      subst q1 q2 q3 q4 q5 q6 q7 q8
      obtain ⟨k1, k2⟩ := bb (show (PySem.W.codeIn K m13 m2 && He.dflB K m8 []) = true from c2)
      exact ⟨_, ⟨oc, od, m8, m9, m10, m11, m12, m13, m14, osl, rfl, l, k1, He.dflB_ok k2, .inl rfl⟩, kp⟩
    | _ => cases c2
theorem cl_at {K : PySem.W.Frag} {x : Str} (c0 : Cls K (He.ga K x)) (c : clB K x = true) : ClsX K (He.ga K x) := by
  obtain ⟨h1, c⟩ := bb c
  obtain ⟨h2, c⟩ := bb c
  obtain ⟨h3, c⟩ := bb c
  obtain ⟨h4, h5⟩ := bb c
  exact ⟨c0, He.eqO_ok h1, He.eqO_ok h2, of_decide_eq_true h3, of_decide_eq_true h4, of_decide_eq_true h5⟩
theorem pr_at {K : PySem.W.Frag} {m : Str} (c : prB K m = true) : PropOf K (He.ga K "Machine") m (He.ma K (He.ga K "Machine") m) (gAd K m) := by
  obtain ⟨h1, c⟩ := bb c
  obtain ⟨h2, c⟩ := bb c
  obtain ⟨h3, h4⟩ := bb c
  refine ⟨He.eqO_ok h1, He.eqO_ok h2, of_decide_eq_true h3, ?_⟩
  unfold gAd
  revert h4
  split
  · intro h9
    rename_i l1 e1
    exact ⟨l1, e1⟩
  · intro h
    cases h
theorem hd_facts {P : Program} {w : World} {K : PySem.W.Frag} {h : Heap} {mg : Str → Option Value} {f : Addr} (X : K.In h) (G : h.Ns mainGlobals mg) (hfa : mg ("law" : Str) = some (.ref f)) (c : He.SaysD hdFa hdFn K) (cx : hdX K = hdXV) :
    ∃ fd : FuncData, (∀ (s : Shared) (v : Value), BindsTo s fd ⟨[v], []⟩ [("_law_script", v)]) ∧ ∀ base : Heap, K.In base → base.Ns mainGlobals mg → FnOk P w K mg base CX0 10 f fd ["_law_script"] (spLaw K) := by
  have c1 := congrArg _root_.Prod.fst cx
  have c2 := congrArg _root_.Prod.snd cx
  obtain ⟨x1, c1⟩ := bb (show (prB K "start" && (prB K "fault_names" && (clB K "Machine" && (clB K "Watch" && (fnB K (gAd K "start") "Machine.start" && fnB K (gAd K "fault_names") "Machine.fault_names"))))) = true from c1)
  obtain ⟨x2, c1⟩ := bb c1
  obtain ⟨x3, c1⟩ := bb c1
  obtain ⟨x4, c1⟩ := bb c1
  obtain ⟨x5, x6⟩ := bb c1
  obtain ⟨y1, c2⟩ := List.cons.inj (show [fnA K (gAd K "start"), fnA K (gAd K "fault_names")] = [fnV "start" "Machine.start" sMachineStart, fnV "fault_names" "Machine.fault_names" sMachineFaultNames] from c2)
  obtain ⟨y2, _⟩ := List.cons.inj c2
  have T : Tx K mg := ⟨He.free_ok X G (c.fact 43 (f := .free "len") rfl), He.free_ok X G (c.fact 44 (f := .free "isinstance") rfl), He.free_ok X G (c.fact 45 (f := .free "sorted") rfl), He.free_ok X G (c.fact 46 (f := .free "enumerate") rfl), He.free_ok X G (c.fact 47 (f := .free "range") rfl), He.free_ok X G (c.fact 48 (f := .free "list") rfl), He.free_ok X G (c.fact 49 (f := .free "tuple") rfl), He.free_ok X G (c.fact 50 (f := .free "set") rfl), He.free_ok X G (c.fact 51 (f := .free "dict") rfl), He.free_ok X G (c.fact 52 (f := .free "int") rfl), He.free_ok X G (c.fact 53 (f := .free "max") rfl), He.free_ok X G (c.fact 54 (f := .free "bool") rfl), He.free_ok X G (c.fact 55 (f := .free "str") rfl), He.str_ok X G (c.fact 56 (f := .str "LETTERS" "abcdefghijklmnopqrstuvwxyz") rfl), He.int_ok X G (c.fact 57 (f := .int "MOST_STATE" 99) rfl), He.int_ok X G (c.fact 58 (f := .int "MOST_LETTERS" 12) rfl), He.int_ok X G (c.fact 59 (f := .int "MOST_STEPS" 80) rfl), He.int_ok X G (c.fact 60 (f := .int "MOST_FROM" 8) rfl), He.int_ok X G (c.fact 61 (f := .int "MOST_WORDS" 14) rfl), He.int_ok X G (c.fact 62 (f := .int "MOST_FAULTS" 3) rfl), He.int_ok X G (c.fact 63 (f := .int "MOST_PAIRS" 100) rfl), He.int_ok X G (c.fact 64 (f := .int "MOST_WATCHES" 3) rfl), He.int_ok X G (c.fact 65 (f := .int "MOST_TUPLES" 5000) rfl), He.int_ok X G (c.fact 66 (f := .int "AHEAD" 0) rfl), He.int_ok X G (c.fact 67 (f := .int "BEHIND" 1) rfl)⟩
  have TM : TxM K mg (He.ga K "Machine") := ⟨(cl_at (He.cls_ok (c.fact 68 (f := .cls "Machine") rfl)) x3), He.glo_ok X G (c.fact 41 (f := .glo "Machine") rfl), He.noat_ok (c.fact 70 (f := .noat "Machine" "first_state") rfl), He.noat_ok (c.fact 71 (f := .noat "Machine" "step_rows") rfl), He.noat_ok (c.fact 72 (f := .noat "Machine" "word_list") rfl), He.noat_ok (c.fact 73 (f := .noat "Machine" "fault_table") rfl), He.noat_ok (c.fact 74 (f := .noat "Machine" "leaving") rfl), He.noat_ok (c.fact 75 (f := .noat "Machine" "met_states") rfl)⟩
  have TW : TxW K mg (He.ga K "Watch") := ⟨(cl_at (He.cls_ok (c.fact 69 (f := .cls "Watch") rfl)) x4), He.glo_ok X G (c.fact 42 (f := .glo "Watch") rfl), He.noat_ok (c.fact 76 (f := .noat "Watch" "table") rfl)⟩
  have e := hfa.symm.trans (He.glo_ok X G (c.fact 40 (f := .glo "law") rfl))
  cases e
  obtain ⟨fdL, FL⟩ : ∃ fd, FnP K "law" "law" sLaw [] (He.ga K "law") fd := c.def_ 40 rfl
  have bL := FunD.bindsA (ps := ["_law_script"]) FL fun _ _ _ _ _ _ us hl => match us, hl with | [_], _ => rfl
  refine ⟨fdL, fun s v => bL s [v] rfl, fun base _ _ => ?_⟩
  have C_start : CalP P w K mg base 2 (He.ga K "Machine") "start" (spMachineStart (He.ga K "Machine")) := by
    obtain ⟨fd, F⟩ := fn_at y1 x5
    exact ⟨⟨1, _, _, fd, Nat.le_refl 2, pr_at x1, ok_MachineStart F TM, FunD.bindsN F fun _ _ _ _ _ _ us hl => match us, hl with | [_], _ => rfl⟩, TM.x.cl⟩
  have C_fault_names : CalP P w K mg base 2 (He.ga K "Machine") "fault_names" (spFaultNames (He.ga K "Machine")) := by
    obtain ⟨fd, F⟩ := fn_at y2 x6
    exact ⟨⟨1, _, _, fd, Nat.le_refl 2, pr_at x2, ok_MachineFaultNames F T TM, FunD.bindsN F fun _ _ _ _ _ _ us hl => match us, hl with | [_], _ => rfl⟩, TM.x.cl⟩
  have C_is_integer : Cal P w K mg base 1 "is_integer" ["value"] (spIsInteger) := by
    obtain ⟨fd, F⟩ : ∃ fd, FnP K "is_integer" "is_integer" sIsInteger [] (He.ga K "is_integer") fd := c.def_ 0 rfl
    exact mk_cal F (He.glo_ok X G (c.fact 0 (f := .glo "is_integer") rfl)) (ok_IsInteger F T) fun _ _ _ _ _ _ us hl => match us, hl with | [_], _ => rfl
  have C_is_count : Cal P w K mg base 2 "is_count" ["value", "most"] (spIsCount) := by
    obtain ⟨fd, F⟩ : ∃ fd, FnP K "is_count" "is_count" sIsCount [] (He.ga K "is_count") fd := c.def_ 1 rfl
    exact mk_cal F (He.glo_ok X G (c.fact 1 (f := .glo "is_count") rfl)) (ok_IsCount F (C_is_integer.mono (by decide))) fun _ _ _ _ _ _ us hl => match us, hl with | [_, _], _ => rfl
  have C_is_state : Cal P w K mg base 3 "is_state" ["value"] (spIsState) := by
    obtain ⟨fd, F⟩ : ∃ fd, FnP K "is_state" "is_state" sIsState [] (He.ga K "is_state") fd := c.def_ 2 rfl
    exact mk_cal F (He.glo_ok X G (c.fact 2 (f := .glo "is_state") rfl)) (ok_IsState F T (C_is_count.mono (by decide))) fun _ _ _ _ _ _ us hl => match us, hl with | [_], _ => rfl
  have C_is_name : Cal P w K mg base 1 "is_name" ["value"] (spIsName) := by
    obtain ⟨fd, F⟩ : ∃ fd, FnP K "is_name" "is_name" sIsName [] (He.ga K "is_name") fd := c.def_ 3 rfl
    exact mk_cal F (He.glo_ok X G (c.fact 3 (f := .glo "is_name") rfl)) (ok_IsName F T) fun _ _ _ _ _ _ us hl => match us, hl with | [_], _ => rfl
  have C_is_row : Cal P w K mg base 1 "is_row" ["value"] (spIsRow K) := by
    obtain ⟨fd, F⟩ : ∃ fd, FnP K "is_row" "is_row" sIsRow [] (He.ga K "is_row") fd := c.def_ 4 rfl
    exact mk_cal F (He.glo_ok X G (c.fact 4 (f := .glo "is_row") rfl)) (ok_IsRow F T) fun _ _ _ _ _ _ us hl => match us, hl with | [_], _ => rfl
  have C_steps_from : Cal P w K mg base 1 "steps_from" ["machine", "state"] (spStepsFrom (He.ga K "Machine")) := by
    obtain ⟨fd, F⟩ : ∃ fd, FnP K "steps_from" "steps_from" sStepsFrom [] (He.ga K "steps_from") fd := c.def_ 14 rfl
    exact mk_cal F (He.glo_ok X G (c.fact 14 (f := .glo "steps_from") rfl)) (ok_StepsFrom F T TM) fun _ _ _ _ _ _ us hl => match us, hl with | [_, _], _ => rfl
  have C_sight_of : Cal P w K mg base 1 "sight_of" ["watch", "word"] (spSightOf (He.ga K "Watch")) := by
    obtain ⟨fd, F⟩ : ∃ fd, FnP K "sight_of" "sight_of" sSightOf [] (He.ga K "sight_of") fd := c.def_ 19 rfl
    exact mk_cal F (He.glo_ok X G (c.fact 19 (f := .glo "sight_of") rfl)) (ok_SightOf F TW) fun _ _ _ _ _ _ us hl => match us, hl with | [_, _], _ => rfl
  have C_is_fault_step : Cal P w K mg base 1 "is_fault_step" ["machine", "number", "fault"] (spIsFaultStep (He.ga K "Machine")) := by
    obtain ⟨fd, F⟩ : ∃ fd, FnP K "is_fault_step" "is_fault_step" sIsFaultStep [] (He.ga K "is_fault_step") fd := c.def_ 15 rfl
    exact mk_cal F (He.glo_ok X G (c.fact 15 (f := .glo "is_fault_step") rfl)) (ok_IsFaultStep F TM) fun _ _ _ _ _ _ us hl => match us, hl with | [_, _, _], _ => rfl
  have C_is_step : Cal P w K mg base 4 "is_step" ["step"] (spIsStep) := by
    obtain ⟨fd, F⟩ : ∃ fd, FnP K "is_step" "is_step" sIsStep [] (He.ga K "is_step") fd := c.def_ 6 rfl
    exact mk_cal F (He.glo_ok X G (c.fact 6 (f := .glo "is_step") rfl)) (ok_IsStep F T (C_is_state.mono (by decide)) (C_is_name.mono (by decide))) fun _ _ _ _ _ _ us hl => match us, hl with | [_], _ => rfl
  have C_checked_steps : Cal P w K mg base 5 "checked_steps" ["steps"] (spCheckedSteps) := by
    obtain ⟨fd, F⟩ : ∃ fd, FnP K "checked_steps" "checked_steps" sCheckedSteps [] (He.ga K "checked_steps") fd := c.def_ 5 rfl
    exact mk_cal F (He.glo_ok X G (c.fact 5 (f := .glo "checked_steps") rfl)) (ok_CheckedSteps F T (C_is_row.mono (by decide)) (C_is_step.mono (by decide))) fun _ _ _ _ _ _ us hl => match us, hl with | [_], _ => rfl
  have C_checked_faults : Cal P w K mg base 2 "checked_faults" ["faults", "words"] (spCheckedFaults) := by
    obtain ⟨fd, F⟩ : ∃ fd, FnP K "checked_faults" "checked_faults" sCheckedFaults [] (He.ga K "checked_faults") fd := c.def_ 7 rfl
    exact mk_cal F (He.glo_ok X G (c.fact 7 (f := .glo "checked_faults") rfl)) (ok_CheckedFaults F T (C_is_name.mono (by decide))) fun _ _ _ _ _ _ us hl => match us, hl with | [_, _], _ => rfl
  have C_leaving_table : Cal P w K mg base 1 "leaving_table" ["rows"] (spLeavingTable) := by
    obtain ⟨fd, F⟩ : ∃ fd, FnP K "leaving_table" "leaving_table" sLeavingTable [] (He.ga K "leaving_table") fd := c.def_ 8 rfl
    exact mk_cal F (He.glo_ok X G (c.fact 8 (f := .glo "leaving_table") rfl)) (ok_LeavingTable F T) fun _ _ _ _ _ _ us hl => match us, hl with | [_], _ => rfl
  have C_reached_states : Cal P w K mg base 1 "reached_states" ["start", "rows", "leaving"] (spReachedStates) := by
    obtain ⟨fd, F⟩ : ∃ fd, FnP K "reached_states" "reached_states" sReachedStates [] (He.ga K "reached_states") fd := c.def_ 9 rfl
    exact mk_cal F (He.glo_ok X G (c.fact 9 (f := .glo "reached_states") rfl)) (ok_ReachedStates F T) fun _ _ _ _ _ _ us hl => match us, hl with | [_, _, _], _ => rfl
  have C_fit_faults : Cal P w K mg base 1 "fit_faults" ["rows", "table"] (spFitFaults) := by
    obtain ⟨fd, F⟩ : ∃ fd, FnP K "fit_faults" "fit_faults" sFitFaults [] (He.ga K "fit_faults") fd := c.def_ 10 rfl
    exact mk_cal F (He.glo_ok X G (c.fact 10 (f := .glo "fit_faults") rfl)) (ok_FitFaults F T) fun _ _ _ _ _ _ us hl => match us, hl with | [_, _], _ => rfl
  have C_check_sizes : Cal P w K mg base 1 "check_sizes" ["rows", "many"] (spCheckSizes) := by
    obtain ⟨fd, F⟩ : ∃ fd, FnP K "check_sizes" "check_sizes" sCheckSizes [] (He.ga K "check_sizes") fd := c.def_ 11 rfl
    exact mk_cal F (He.glo_ok X G (c.fact 11 (f := .glo "check_sizes") rfl)) (ok_CheckSizes F T) fun _ _ _ _ _ _ us hl => match us, hl with | [_, _], _ => rfl
  have C_pair_moves : Cal P w K mg base 2 "pair_moves" ["one", "other", "common", "pair"] (spPairMoves (He.ga K "Machine")) := by
    obtain ⟨fd, F⟩ : ∃ fd, FnP K "pair_moves" "pair_moves" sPairMoves [] (He.ga K "pair_moves") fd := c.def_ 13 rfl
    exact mk_cal F (He.glo_ok X G (c.fact 13 (f := .glo "pair_moves") rfl)) (ok_PairMoves F T TM (C_steps_from.mono (by decide))) fun _ _ _ _ _ _ us hl => match us, hl with | [_, _, _, _], _ => rfl
  have C_pair_steps : Cal P w K mg base 3 "pair_steps" ["one", "other", "common"] (spPairSteps (He.ga K "Machine")) := by
    obtain ⟨fd, F⟩ : ∃ fd, FnP K "pair_steps" "pair_steps" sPairSteps [] (He.ga K "pair_steps") fd := c.def_ 12 rfl
    exact mk_cal F (He.glo_ok X G (c.fact 12 (f := .glo "pair_steps") rfl)) (ok_PairSteps F T (C_start.mono (by decide)) (C_pair_moves.mono (by decide))) fun _ _ _ _ _ _ us hl => match us, hl with | [_, _, _], _ => rfl
  have C_check_fault : Cal P w K mg base 3 "check_fault" ["machine", "fault"] (spCheckFault (He.ga K "Machine")) := by
    obtain ⟨fd, F⟩ : ∃ fd, FnP K "check_fault" "check_fault" sCheckFault [] (He.ga K "check_fault") fd := c.def_ 16 rfl
    exact mk_cal F (He.glo_ok X G (c.fact 16 (f := .glo "check_fault") rfl)) (ok_CheckFault F T (C_is_name.mono (by decide)) (C_fault_names.mono (by decide))) fun _ _ _ _ _ _ us hl => match us, hl with | [_, _], _ => rfl
  have C_is_sight_table : Cal P w K mg base 2 "is_sight_table" ["value"] (spIsSightTable) := by
    obtain ⟨fd, F⟩ : ∃ fd, FnP K "is_sight_table" "is_sight_table" sIsSightTable [] (He.ga K "is_sight_table") fd := c.def_ 17 rfl
    exact mk_cal F (He.glo_ok X G (c.fact 17 (f := .glo "is_sight_table") rfl)) (ok_IsSightTable F T (C_is_name.mono (by decide))) fun _ _ _ _ _ _ us hl => match us, hl with | [_], _ => rfl
  have C_check_watches : Cal P w K mg base 2 "check_watches" ["watches"] (spCheckWatches (He.ga K "Watch")) := by
    obtain ⟨fd, F⟩ : ∃ fd, FnP K "check_watches" "check_watches" sCheckWatches [] (He.ga K "check_watches") fd := c.def_ 18 rfl
    exact mk_cal F (He.glo_ok X G (c.fact 18 (f := .glo "check_watches") rfl)) (ok_CheckWatches F T TW (C_is_row.mono (by decide))) fun _ _ _ _ _ _ us hl => match us, hl with | [_], _ => rfl
  have C_first_tuple : Cal P w K mg base 3 "first_tuple" ["machine", "rows"] (spFirstTuple (He.ga K "Machine") (He.ga K "Watch")) := by
    obtain ⟨fd, F⟩ : ∃ fd, FnP K "first_tuple" "first_tuple" sFirstTuple [] (He.ga K "first_tuple") fd := c.def_ 20 rfl
    exact mk_cal F (He.glo_ok X G (c.fact 20 (f := .glo "first_tuple") rfl)) (ok_FirstTuple F T (C_start.mono (by decide))) fun _ _ _ _ _ _ us hl => match us, hl with | [_, _], _ => rfl
  have C_side_moves : Cal P w K mg base 2 "side_moves" ["machine", "rows", "fault", "spot"] (spSideMoves (He.ga K "Machine") (He.ga K "Watch")) := by
    obtain ⟨fd, F⟩ : ∃ fd, FnP K "side_moves" "side_moves" sSideMoves [] (He.ga K "side_moves") fd := c.def_ 21 rfl
    exact mk_cal F (He.glo_ok X G (c.fact 21 (f := .glo "side_moves") rfl)) (ok_SideMoves F T TM (C_steps_from.mono (by decide)) (C_sight_of.mono (by decide)) (C_is_fault_step.mono (by decide))) fun _ _ _ _ _ _ us hl => match us, hl with | [_, _, _, _], _ => rfl
  have C_answers_to : Cal P w K mg base 2 "answers_to" ["machine", "watch", "fault", "state", "sight"] (spAnswersTo (He.ga K "Machine") (He.ga K "Watch")) := by
    obtain ⟨fd, F⟩ : ∃ fd, FnP K "answers_to" "answers_to" sAnswersTo [] (He.ga K "answers_to") fd := c.def_ 22 rfl
    exact mk_cal F (He.glo_ok X G (c.fact 22 (f := .glo "answers_to") rfl)) (ok_AnswersTo F T TM (C_steps_from.mono (by decide)) (C_sight_of.mono (by decide)) (C_is_fault_step.mono (by decide))) fun _ _ _ _ _ _ us hl => match us, hl with | [_, _, _, _, _], _ => rfl
  have C_main_moves : Cal P w K mg base 3 "main_moves" ["machine", "rows", "fault", "spot"] (spMainMoves (He.ga K "Machine") (He.ga K "Watch")) := by
    obtain ⟨fd, F⟩ : ∃ fd, FnP K "main_moves" "main_moves" sMainMoves [] (He.ga K "main_moves") fd := c.def_ 23 rfl
    exact mk_cal F (He.glo_ok X G (c.fact 23 (f := .glo "main_moves") rfl)) (ok_MainMoves F T TM (C_steps_from.mono (by decide)) (C_sight_of.mono (by decide)) (C_answers_to.mono (by decide))) fun _ _ _ _ _ _ us hl => match us, hl with | [_, _, _, _], _ => rfl
  have C_met_keys : Cal P w K mg base 4 "met_keys" ["machine", "rows", "fault"] (spMetKeys P w (He.ga K "Machine") (He.ga K "Watch")) := by
    obtain ⟨fd, F⟩ : ∃ fd, FnP K "met_keys" "met_keys" sMetKeys [] (He.ga K "met_keys") fd := c.def_ 24 rfl
    exact mk_cal F (He.glo_ok X G (c.fact 24 (f := .glo "met_keys") rfl)) (ok_MetKeys F T (C_first_tuple.mono (by decide)) (C_side_moves.mono (by decide)) (C_main_moves.mono (by decide)) (C_is_fault_step.mono (by decide))) fun _ _ _ _ _ _ us hl => match us, hl with | [_, _, _], _ => rfl
  have C_met_tuples : Cal P w K mg base 5 "met_tuples" ["machine", "rows", "fault"] (spMetTuples P w (He.ga K "Machine") (He.ga K "Watch")) := by
    obtain ⟨fd, F⟩ : ∃ fd, FnP K "met_tuples" "met_tuples" sMetTuples [] (He.ga K "met_tuples") fd := c.def_ 25 rfl
    exact mk_cal F (He.glo_ok X G (c.fact 25 (f := .glo "met_tuples") rfl)) (ok_MetTuples F T (C_met_keys.mono (by decide))) fun _ _ _ _ _ _ us hl => match us, hl with | [_, _, _], _ => rfl
  have C_behind_moves : Cal P w K mg base 4 "behind_moves" ["machine", "rows", "fault", "behind"] (spBehindMoves P w (He.ga K "Machine") (He.ga K "Watch")) := by
    obtain ⟨fd, F⟩ : ∃ fd, FnP K "behind_moves" "behind_moves" sBehindMoves [] (He.ga K "behind_moves") fd := c.def_ 26 rfl
    exact mk_cal F (He.glo_ok X G (c.fact 26 (f := .glo "behind_moves") rfl)) (ok_BehindMoves F T (C_side_moves.mono (by decide)) (C_main_moves.mono (by decide))) fun _ _ _ _ _ _ us hl => match us, hl with | [_, _, _, _], _ => rfl
  have C_finish_order : Cal P w K mg base 1 "finish_order" ["table"] (spFinishOrder P w) := by
    obtain ⟨fd, F⟩ : ∃ fd, FnP K "finish_order" "finish_order" sFinishOrder [] (He.ga K "finish_order") fd := c.def_ 27 rfl
    exact mk_cal F (He.glo_ok X G (c.fact 27 (f := .glo "finish_order") rfl)) (ok_FinishOrder F T) fun _ _ _ _ _ _ us hl => match us, hl with | [_], _ => rfl
  have C_components : Cal P w K mg base 2 "components" ["table"] (spComponents P w) := by
    obtain ⟨fd, F⟩ : ∃ fd, FnP K "components" "components" sComponents [] (He.ga K "components") fd := c.def_ 28 rfl
    exact mk_cal F (He.glo_ok X G (c.fact 28 (f := .glo "components") rfl)) (ok_Components F T (C_finish_order.mono (by decide))) fun _ _ _ _ _ _ us hl => match us, hl with | [_], _ => rfl
  have C_rank_table : Cal P w K mg base 3 "rank_table" ["table"] (spRankTable P w) := by
    obtain ⟨fd, F⟩ : ∃ fd, FnP K "rank_table" "rank_table" sRankTable [] (He.ga K "rank_table") fd := c.def_ 29 rfl
    exact mk_cal F (He.glo_ok X G (c.fact 29 (f := .glo "rank_table") rfl)) (ok_RankTable F T (C_components.mono (by decide))) fun _ _ _ _ _ _ us hl => match us, hl with | [_], _ => rfl
  have C_checked_watches : Cal P w K mg base 4 "checked_watches" ["machine", "watches", "fault"] (spCheckedWatches (He.ga K "Machine") (He.ga K "Watch")) := by
    obtain ⟨fd, F⟩ : ∃ fd, FnP K "checked_watches" "checked_watches" sCheckedWatches [] (He.ga K "checked_watches") fd := c.def_ 30 rfl
    exact mk_cal F (He.glo_ok X G (c.fact 30 (f := .glo "checked_watches") rfl)) (ok_CheckedWatches F (C_check_watches.mono (by decide)) (C_check_fault.mono (by decide))) fun _ _ _ _ _ _ us hl => match us, hl with | [_, _, _], _ => rfl
  have C_ranks : Cal P w K mg base 7 "ranks" ["machine", "watches", "fault"] (spRanks P w (He.ga K "Machine") (He.ga K "Watch")) := by
    obtain ⟨fd, F⟩ : ∃ fd, FnP K "ranks" "ranks" sRanks [] (He.ga K "ranks") fd := c.def_ 32 rfl
    exact mk_cal F (He.glo_ok X G (c.fact 32 (f := .glo "ranks") rfl)) (ok_Ranks F T (C_checked_watches.mono (by decide)) (C_met_tuples.mono (by decide)) (C_behind_moves.mono (by decide)) (C_rank_table.mono (by decide))) fun _ _ _ _ _ _ us hl => match us, hl with | [_, _, _], _ => rfl
  have C_late : Cal P w K mg base 8 "late" ["machine", "watches", "fault"] (spLate P w (He.ga K "Machine") (He.ga K "Watch")) := by
    obtain ⟨fd, F⟩ : ∃ fd, FnP K "late" "late" sLate [] (He.ga K "late") fd := c.def_ 31 rfl
    exact mk_cal F (He.glo_ok X G (c.fact 31 (f := .glo "late") rfl)) (ok_Late F T (C_ranks.mono (by decide))) fun _ _ _ _ _ _ us hl => match us, hl with | [_, _, _], _ => rfl
  have C__law_mix : Cal P w K mg base 1 "_law_mix" ["_law_cell_here", "_law_k"] (spLawMix) := by
    obtain ⟨fd, F⟩ : ∃ fd, FnP K "_law_mix" "_law_mix" sLawMix [] (He.ga K "_law_mix") fd := c.def_ 33 rfl
    exact mk_cal F (He.glo_ok X G (c.fact 33 (f := .glo "_law_mix") rfl)) (ok_LawMix F T) fun _ _ _ _ _ _ us hl => match us, hl with | [_, _], _ => rfl
  have C__law_cell : Cal P w K mg base 2 "_law_cell" ["_law_script", "_law_k"] (spLawCell K) := by
    obtain ⟨fd, F⟩ : ∃ fd, FnP K "_law_cell" "_law_cell" sLawCell [] (He.ga K "_law_cell") fd := c.def_ 34 rfl
    exact mk_cal F (He.glo_ok X G (c.fact 34 (f := .glo "_law_cell") rfl)) (ok_LawCell F T (C__law_mix.mono (by decide))) fun _ _ _ _ _ _ us hl => match us, hl with | [_, _], _ => rfl
  have C__law_row : Cal P w K mg base 2 "_law_row" ["_law_cell_here", "_law_sizes"] (spLawRow) := by
    obtain ⟨fd, F⟩ : ∃ fd, FnP K "_law_row" "_law_row" sLawRow [] (He.ga K "_law_row") fd := c.def_ 35 rfl
    exact mk_cal F (He.glo_ok X G (c.fact 35 (f := .glo "_law_row") rfl)) (ok_LawRow F T (C__law_mix.mono (by decide))) fun _ _ _ _ _ _ us hl => match us, hl with | [_, _], _ => rfl
  have C__law_names : Cal P w K mg base 3 "_law_names" ["_law_cell_here", "_law_many"] (spLawNames) := by
    obtain ⟨fd, F⟩ : ∃ fd, FnP K "_law_names" "_law_names" sLawNames [] (He.ga K "_law_names") fd := c.def_ 36 rfl
    exact mk_cal F (He.glo_ok X G (c.fact 36 (f := .glo "_law_names") rfl)) (ok_LawNames F T (C__law_row.mono (by decide))) fun _ _ _ _ _ _ us hl => match us, hl with | [_, _], _ => rfl
  have C__law_machine : Cal P w K mg base 3 "_law_machine" ["_law_cell_here", "_law_names_here", "_law_most", "_law_extra"] (spLawMachine) := by
    obtain ⟨fd, F⟩ : ∃ fd, FnP K "_law_machine" "_law_machine" sLawMachine [] (He.ga K "_law_machine") fd := c.def_ 37 rfl
    exact mk_cal F (He.glo_ok X G (c.fact 37 (f := .glo "_law_machine") rfl)) (ok_LawMachine F T (C__law_row.mono (by decide))) fun _ _ _ _ _ _ us hl => match us, hl with | [_, _, _, _], _ => rfl
  have C__law_sights : Cal P w K mg base 3 "_law_sights" ["_law_cell_here", "_law_names_here", "_law_marks"] (spLawSights) := by
    obtain ⟨fd, F⟩ : ∃ fd, FnP K "_law_sights" "_law_sights" sLawSights [] (He.ga K "_law_sights") fd := c.def_ 38 rfl
    exact mk_cal F (He.glo_ok X G (c.fact 38 (f := .glo "_law_sights") rfl)) (ok_LawSights F T (C__law_row.mono (by decide))) fun _ _ _ _ _ _ us hl => match us, hl with | [_, _, _], _ => rfl
  have C_Watch : CalC P w K mg base 4 (He.ga K "Watch") "Watch" ["self", "sights"] (spWatchInit (He.ga K "Watch")) := by
    obtain ⟨fd, F⟩ : ∃ fd, FunD K "__init__" "Watch.__init__" (defArgs sWatchInit) (defBody sWatchInit) (defScope sWatchInit) [.non] [] (He.ma K (He.ga K "Watch") "__init__") fd := c.def_ 42 rfl
    obtain ⟨ds, hv, hb⟩ := FunD.binds1 (ps := ["self", "sights"]) F 2 1 (by simp) rfl fun _ _ _ _ _ _ _ us its hu hi => match us, hu, its, hi with | [_, _], _, [_], _ => ⟨_, rfl, rfl⟩
    cases hv
    exact ⟨⟨3, _, fd, Nat.le_refl _, He.mkr_ok (c.fact 79 (f := .mkr "Watch") rfl), He.glo_ok X G (c.fact 42 (f := .glo "Watch") rfl), ok_WatchInit F T TW (C_is_sight_table.mono (by decide)), hb⟩⟩
  have C_Machine : CalC P w K mg base 7 (He.ga K "Machine") "Machine" ["self", "start", "steps", "faults"] (spMachineInit (He.ga K "Machine")) := by
    obtain ⟨fd, F⟩ : ∃ fd, FunD K "__init__" "Machine.__init__" (defArgs sMachineInit) (defBody sMachineInit) (defScope sMachineInit) [.non] [] (He.ma K (He.ga K "Machine") "__init__") fd := c.def_ 41 rfl
    obtain ⟨ds, hv, hb⟩ := FunD.binds1 (ps := ["self", "start", "steps", "faults"]) F 4 1 (by simp) rfl fun _ _ _ _ _ _ _ us its hu hi => match us, hu, its, hi with | [_, _, _, _], _, [_], _ => ⟨_, rfl, rfl⟩
    cases hv
    exact ⟨⟨6, _, fd, Nat.le_refl _, He.mkr_ok (c.fact 78 (f := .mkr "Machine") rfl), He.glo_ok X G (c.fact 41 (f := .glo "Machine") rfl), ok_MachineInit F T TM (C_is_state.mono (by decide)) (C_checked_steps.mono (by decide)) (C_checked_faults.mono (by decide)) (C_leaving_table.mono (by decide)) (C_reached_states.mono (by decide)), hb⟩⟩
  have C__law_alone : Cal P w K mg base 9 "_law_alone" ["_law_machine_here", "_law_tables", "_law_fault"] (spLawAlone (He.ga K "Machine") (He.ga K "Watch")) := by
    obtain ⟨fd, F⟩ : ∃ fd, FnP K "_law_alone" "_law_alone" sLawAlone [] (He.ga K "_law_alone") fd := c.def_ 39 rfl
    exact mk_cal F (He.glo_ok X G (c.fact 39 (f := .glo "_law_alone") rfl)) (ok_LawAlone F T (C_late.mono (by decide)) (C_Watch.mono (by decide))) fun _ _ _ _ _ _ us hl => match us, hl with | [_, _, _], _ => rfl
  have C_beside : CalM P w K mg base 9 (He.ga K "Machine") "beside" ["self", "other"] (spBeside (He.ga K "Machine")) := by
    obtain ⟨fd, F⟩ : ∃ fd, FnP K "beside" "Machine.beside" sMachineBeside [] (He.ma K (He.ga K "Machine") "beside") fd := c.def_ 43 rfl
    exact ⟨⟨_, fd, He.meth_ok (c.fact 77 (f := .meth "Machine" "beside") rfl), (ok_MachineBeside F T TM (C_pair_steps.mono (by decide)) (C_fit_faults.mono (by decide)) (C_check_sizes.mono (by decide)) (C_Machine.mono (by decide))).mono (by decide), FunD.bindsN F fun _ _ _ _ _ _ us hl => match us, hl with | [_, _], _ => rfl⟩, TM.x.cl⟩
  exact ok_Law FL T (C__law_cell.mono (by decide)) (C__law_names.mono (by decide)) (C__law_machine.mono (by decide)) (C__law_row.mono (by decide)) (C__law_sights.mono (by decide)) (C__law_alone.mono (by decide)) (C_late.mono (by decide)) (C_Machine.mono (by decide)) (C_Watch.mono (by decide)) C_beside (C_fault_names.mono (by decide))
end Kn

end
section
set_option maxHeartbeats 0
open PySem PySem.W PySem.Calls PyProof.Rows
theorem PySem.Challenge.cw_knownlate_k39_whole_beside_a_stranger_holds : PySem.Challenge.rw_knownlate_k39_whole_beside_a_stranger.Holds := by
  w_on; o_law
  refine HandSHeadRun.head_any (r := OpenLaw.row PySem.Challenge.rw_knownlate_k39_whole_beside_a_stranger) (q := view (OpenLaw.row PySem.Challenge.rw_knownlate_k39_whole_beside_a_stranger).prog [77]) (H := Kn.hdHk) (ob := Kn.hdOb) (M := 9000) (loose := Kn.hdNm) (d := HandSHeadRun.topDef (OpenLaw.row PySem.Challenge.rw_knownlate_k39_whole_beside_a_stranger).prog 77) (kwd := []) Kn.hdOb_eq
    (by kernel_rfl) (fun s => by kernel_rfl) Kn.hdRun (by kernel_rfl) (by kernel_rfl) (by kernel_rfl) (by rfl) (by first | assumption | decide +kernel) (by decide +kernel) ⟨rfl, rfl, rfl, rfl, rfl, by decide +kernel⟩ ?hw ?hc
  case hw => w_witness2
  case hc =>
    refine L2.walk_ofE (l := PySem.Challenge.rw_knownlate_k39_whole_beside_a_stranger) (n := 63) (k := 10) (x := "_law_script") (CX := L2.CX0) rfl (by decide) (by kernel_rfl) ⟨rfl, by decide, by decide⟩ ?F (fun _ _ _ _ z => z)
    intro w mg fa h Y G hmg0
    obtain ⟨K, KX, c, cx⟩ := Y
    have hmg : mg ("law" : PySem.Str) = some (.ref fa) := by
      have e : (HandSHeadRun.topDef (OpenLaw.row PySem.Challenge.rw_knownlate_k39_whole_beside_a_stranger).prog 77).name = ("law" : PySem.Str) := by kernel_rfl
      rw [← e]
      exact hmg0
    obtain ⟨fd, hb, hF⟩ := Kn.hd_facts (P := (PySem.Challenge.rw_knownlate_k39_whole_beside_a_stranger).prog) (w := w) KX G hmg c cx
    exact ⟨K, fd, Kn.spLaw K, KX, hb, fun H a ns hl _ hS => ⟨a, ns, rfl, hS, hl, fun _ => rfl⟩, hF⟩

end
