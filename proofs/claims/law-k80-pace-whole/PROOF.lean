import PyProof.Rows.All
import Wide.All
import OpenK.AllK
import Wide.FinOn
import KE.KStateDown
import HandS.Defaults
import HandS.ExcInit
import HandS.ExcField
import HandS.ExcIs
import HandS.Head0
import HandS.Head1
import HandS.Head2
import HandS.Head3
import HandS.HeadEnd
import HandS.HeadHook1
import HandS.HeadHook2
import HandS.ForMost
import HandS.WordsExc
import HandS.IsInst
import HandS.Gcd
import HandS.DictComp
import HandS.Deep
import HandS.Strs
import HandS.Flow
import KE.SortData
import KE.GoesEnum
import HandS.ExcOwn
import KE.KExcIs
import PySem.Challenge.RW_craftlines_k80_pace_whole
set_option Elab.async false
set_option linter.all false
set_option maxRecDepth 100000
set_option maxHeartbeats 2000000
namespace Cr
open PySem PySem.Spec L2
def top (i : Nat) : Stmt := PySem.Challenge.pw_craftlines_k80_pace_whole.main.body.getD i (.Pass ⟨0, 0, 0, 0⟩)
abbrev iUnknownMaster : Stmt := inClass (top 3) 0
abbrev MUnknownMaster : List Str := ["self", "name"]
theorem icUnknownMaster : FnScope MUnknownMaster ["self", "name"] (defScope iUnknownMaster) := ⟨rfl, rfl, rfl, by decide +kernel, rfl, by decide +kernel, by decide +kernel⟩
abbrev iBadBound : Stmt := inClass (top 4) 0
abbrev MBadBound : List Str := ["self", "bound"]
theorem icBadBound : FnScope MBadBound ["self", "bound"] (defScope iBadBound) := ⟨rfl, rfl, rfl, by decide +kernel, rfl, by decide +kernel, by decide +kernel⟩
abbrev iUnknownAge : Stmt := inClass (top 5) 0
abbrev MUnknownAge : List Str := ["self", "age"]
theorem icUnknownAge : FnScope MUnknownAge ["self", "age"] (defScope iUnknownAge) := ⟨rfl, rfl, rfl, by decide +kernel, rfl, by decide +kernel, by decide +kernel⟩
abbrev iBadOffice : Stmt := inClass (top 6) 0
abbrev MBadOffice : List Str := ["self", "name"]
theorem icBadOffice : FnScope MBadOffice ["self", "name"] (defScope iBadOffice) := ⟨rfl, rfl, rfl, by decide +kernel, rfl, by decide +kernel, by decide +kernel⟩
abbrev iUnknownOffice : Stmt := inClass (top 7) 0
abbrev MUnknownOffice : List Str := ["self", "name"]
theorem icUnknownOffice : FnScope MUnknownOffice ["self", "name"] (defScope iUnknownOffice) := ⟨rfl, rfl, rfl, by decide +kernel, rfl, by decide +kernel, by decide +kernel⟩
abbrev iRepeatedLesson : Stmt := inClass (top 8) 0
abbrev MRepeatedLesson : List Str := ["self", "index"]
theorem icRepeatedLesson : FnScope MRepeatedLesson ["self", "index"] (defScope iRepeatedLesson) := ⟨rfl, rfl, rfl, by decide +kernel, rfl, by decide +kernel, by decide +kernel⟩
abbrev sfrozen : Stmt := top 10
abbrev Nfrozen : List Str := ["value", "part"]
theorem scfrozen : FnScope Nfrozen ["value"] (defScope sfrozen) := ⟨rfl, rfl, rfl, by decide +kernel, rfl, by decide +kernel, by decide +kernel⟩
abbrev iCustom : Stmt := inClass (top 15) 0
abbrev MCustom : List Str := ["self", "offices", "teachings", "founding", "named", "places", "office", "lesson", "at", "teacher", "pupil", "bound"]
theorem icCustom : FnScope MCustom ["self", "offices", "teachings", "founding"] (defScope iCustom) := ⟨rfl, rfl, rfl, by decide +kernel, rfl, by decide +kernel, by decide +kernel⟩
abbrev sis_office : Stmt := top 16
abbrev Nis_office : List Str := ["text", "sign"]
theorem scis_office : FnScope Nis_office ["text"] (defScope sis_office) := ⟨rfl, rfl, rfl, by decide +kernel, rfl, by decide +kernel, by decide +kernel⟩
abbrev scheck_offices : Stmt := top 17
abbrev Ncheck_offices : List Str := ["offices", "index"]
theorem sccheck_offices : FnScope Ncheck_offices ["offices"] (defScope scheck_offices) := ⟨rfl, rfl, rfl, by decide +kernel, rfl, by decide +kernel, by decide +kernel⟩
abbrev scheck_lessons : Stmt := top 18
abbrev Ncheck_lessons : List Str := ["offices", "lessons", "pairs", "index", "bound", "lesson"]
theorem sccheck_lessons : FnScope Ncheck_lessons ["offices", "lessons"] (defScope scheck_lessons) := ⟨rfl, rfl, rfl, by decide +kernel, rfl, by decide +kernel, by decide +kernel⟩
abbrev scheck_known : Stmt := top 19
abbrev Ncheck_known : List Str := ["offices", "names", "name"]
theorem sccheck_known : FnScope Ncheck_known ["offices", "names"] (defScope scheck_known) := ⟨rfl, rfl, rfl, by decide +kernel, rfl, by decide +kernel, by decide +kernel⟩
abbrev soffice_place : Stmt := top 20
abbrev Noffice_place : List Str := ["custom", "office"]
theorem scoffice_place : FnScope Noffice_place ["custom", "office"] (defScope soffice_place) := ⟨rfl, rfl, rfl, by decide +kernel, rfl, by decide +kernel, by decide +kernel⟩
abbrev iPace : Stmt := inClass (top 22) 0
abbrev MPace : List Str := ["self", "top", "bottom", "ring", "potentials"]
theorem icPace : FnScope MPace ["self", "top", "bottom", "ring", "potentials"] (defScope iPace) := ⟨rfl, rfl, rfl, by decide +kernel, rfl, by decide +kernel, by decide +kernel⟩
abbrev sreached_flags : Stmt := top 23
abbrev Nreached_flags : List Str := ["arrows", "flags", "result", "_", "start", "end"]
theorem screached_flags : FnScope Nreached_flags ["arrows", "flags"] (defScope sreached_flags) := ⟨rfl, rfl, rfl, by decide +kernel, rfl, by decide +kernel, by decide +kernel⟩
abbrev suseful_flags : Stmt := top 24
abbrev Nuseful_flags : List Str := ["custom", "at", "forward", "backward", "filled", "leading", "teacher", "pupil", "_", "office", "place"]
theorem scuseful_flags : FnScope Nuseful_flags ["custom", "at"] (defScope suseful_flags) := ⟨rfl, rfl, rfl, by decide +kernel, rfl, by decide +kernel, by decide +kernel⟩
abbrev suseful_steps : Stmt := top 25
abbrev Nuseful_steps : List Str := ["custom", "flags", "step"]
theorem scuseful_steps : FnScope Nuseful_steps ["custom", "flags"] (defScope suseful_steps) := ⟨rfl, rfl, rfl, by decide +kernel, rfl, by decide +kernel, by decide +kernel⟩
abbrev sclosing_rings : Stmt := top 26
abbrev Nclosing_rings : List Str := ["steps", "path", "total", "found", "teacher", "pupil", "bound"]
theorem scclosing_rings : FnScope Nclosing_rings ["steps", "path", "total"] (defScope sclosing_rings) := ⟨rfl, rfl, rfl, by decide +kernel, rfl, by decide +kernel, by decide +kernel⟩
abbrev sleast_ring : Stmt := top 27
abbrev Nleast_ring : List Str := ["custom", "flags", "steps", "best", "first", "ring", "total"]
theorem scleast_ring : FnScope Nleast_ring ["custom", "flags"] (defScope sleast_ring) := ⟨rfl, rfl, rfl, by decide +kernel, rfl, by decide +kernel, by decide +kernel⟩
abbrev sleast_potentials : Stmt := top 28
abbrev Nleast_potentials : List Str := ["custom", "flags", "top", "bottom", "numbers", "_", "teacher", "pupil", "bound", "flag"]
theorem scleast_potentials : FnScope Nleast_potentials ["custom", "flags", "top", "bottom"] (defScope sleast_potentials) := ⟨rfl, rfl, rfl, by decide +kernel, rfl, by decide +kernel, by decide +kernel⟩
abbrev space : Stmt := top 29
abbrev Npace : List Str := ["custom", "office", "flags", "best", "ring", "total", "divisor", "top", "bottom", "names", "place"]
theorem scpace : FnScope Npace ["custom", "office"] (defScope space) := ⟨rfl, rfl, rfl, by decide +kernel, rfl, by decide +kernel, by decide +kernel⟩
abbrev sfounding_row : Stmt := top 31
abbrev Nfounding_row : List Str := ["custom", "office"]
theorem scfounding_row : FnScope Nfounding_row ["custom"] (defScope sfounding_row) := ⟨rfl, rfl, rfl, by decide +kernel, rfl, by decide +kernel, by decide +kernel⟩
abbrev slesser_length : Stmt := top 32
abbrev Nlesser_length : List Str := ["one", "two"]
theorem sclesser_length : FnScope Nlesser_length ["one", "two"] (defScope slesser_length) := ⟨rfl, rfl, rfl, by decide +kernel, rfl, by decide +kernel, by decide +kernel⟩
abbrev slength_sum : Stmt := top 33
abbrev Nlength_sum : List Str := ["one", "two"]
theorem sclength_sum : FnScope Nlength_sum ["one", "two"] (defScope slength_sum) := ⟨rfl, rfl, rfl, by decide +kernel, rfl, by decide +kernel, by decide +kernel⟩
abbrev slesson_matrix : Stmt := top 34
abbrev Nlesson_matrix : List Str := ["custom", "teacher", "pupil", "matrix", "bound"]
theorem sclesson_matrix : FnScope Nlesson_matrix ["custom"] (defScope slesson_matrix) := ⟨rfl, rfl, rfl, by decide +kernel, rfl, by decide +kernel, by decide +kernel⟩
abbrev srow_by_matrix : Stmt := top 35
abbrev Nrow_by_matrix : List Str := ["row", "matrix", "result", "to", "best", "at"]
theorem scrow_by_matrix : FnScope Nrow_by_matrix ["row", "matrix"] (defScope srow_by_matrix) := ⟨rfl, rfl, rfl, by decide +kernel, rfl, by decide +kernel, by decide +kernel⟩
abbrev sdepth_row : Stmt := top 36
abbrev Ndepth_row : List Str := ["custom", "generation", "row", "matrix", "rest", "line"]
theorem scdepth_row : FnScope Ndepth_row ["custom", "generation"] (defScope sdepth_row) := ⟨rfl, rfl, rfl, by decide +kernel, rfl, by decide +kernel, by decide +kernel⟩
abbrev s_law_whole : Stmt := top 38
abbrev N_law_whole : List Str := ["_law_value"]
theorem sc_law_whole : FnScope N_law_whole ["_law_value"] (defScope s_law_whole) := ⟨rfl, rfl, rfl, by decide +kernel, rfl, by decide +kernel, by decide +kernel⟩
abbrev s_law_cell : Stmt := top 39
abbrev N_law_cell : List Str := ["_law_script", "_law_k", "_law_seed", "_law_cell_here"]
theorem sc_law_cell : FnScope N_law_cell ["_law_script", "_law_k"] (defScope s_law_cell) := ⟨rfl, rfl, rfl, by decide +kernel, rfl, by decide +kernel, by decide +kernel⟩
abbrev s_law_digits : Stmt := top 40
abbrev N_law_digits : List Str := ["_law_cell_here", "_law_sizes", "_law_row", "_law_rest", "_law_size", "_law_seed", "_law_k", "_law_twice"]
theorem sc_law_digits : FnScope N_law_digits ["_law_cell_here", "_law_sizes"] (defScope s_law_digits) := ⟨rfl, rfl, rfl, by decide +kernel, rfl, by decide +kernel, by decide +kernel⟩
abbrev s_law_tuples : Stmt := top 41
abbrev N_law_tuples : List Str := ["_law_value", "_law_part"]
theorem sc_law_tuples : FnScope N_law_tuples ["_law_value"] (defScope s_law_tuples) := ⟨rfl, rfl, rfl, by decide +kernel, rfl, by decide +kernel, by decide +kernel⟩
abbrev s_law_offices : Stmt := top 42
abbrev N_law_offices : List Str := ["_law_script", "_law_at", "_law_many", "_law_style", "_law_letters", "_law_base", "_law_names", "_law_k", "_law_part", "_law_signs", "_law_place", "_law_turn", "_law_sign"]
theorem sc_law_offices : FnScope N_law_offices ["_law_script", "_law_at", "_law_many", "_law_style"] (defScope s_law_offices) := ⟨rfl, rfl, rfl, by decide +kernel, rfl, by decide +kernel, by decide +kernel⟩
abbrev s_law_taught : Stmt := top 43
abbrev N_law_taught : List Str := ["_law_script", "_law_at", "_law_many", "_law_plan", "_law_extra", "_law_turn", "_law_lessons", "_law_tries", "_law_k", "_law_part", "_law_pair", "_law_bound", "_law_half", "_law_j", "_law_start_here", "_law_lesson"]
theorem sc_law_taught : FnScope N_law_taught ["_law_script", "_law_at", "_law_many", "_law_plan", "_law_extra", "_law_turn"] (defScope s_law_taught) := ⟨rfl, rfl, rfl, by decide +kernel, rfl, by decide +kernel, by decide +kernel⟩
abbrev s_law_founded : Stmt := top 44
abbrev N_law_founded : List Str := ["_law_script", "_law_at", "_law_many", "_law_part", "_law_k"]
theorem sc_law_founded : FnScope N_law_founded ["_law_script", "_law_at", "_law_many"] (defScope s_law_founded) := ⟨rfl, rfl, rfl, by decide +kernel, rfl, by decide +kernel, by decide +kernel⟩
abbrev s_law_start : Stmt := top 45
abbrev N_law_start : List Str := ["_law_many", "_law_founded_here", "_law_k", "_law_row"]
theorem sc_law_start : FnScope N_law_start ["_law_many", "_law_founded_here"] (defScope s_law_start) := ⟨rfl, rfl, rfl, by decide +kernel, rfl, by decide +kernel, by decide +kernel⟩
abbrev s_law_after : Stmt := top 46
abbrev N_law_after : List Str := ["_law_lessons", "_law_row", "_law_cap", "_law_number", "_law_after_here", "_law_lesson"]
theorem sc_law_after : FnScope N_law_after ["_law_lessons", "_law_row", "_law_cap"] (defScope s_law_after) := ⟨rfl, rfl, rfl, by decide +kernel, rfl, by decide +kernel, by decide +kernel⟩
abbrev s_law_make : Stmt := top 47
abbrev N_law_make : List Str := ["_law_names", "_law_lessons", "_law_founded_here", "_law_taught_here", "_law_lesson", "_law_k"]
theorem sc_law_make : FnScope N_law_make ["_law_names", "_law_lessons", "_law_founded_here"] (defScope s_law_make) := ⟨rfl, rfl, rfl, by decide +kernel, rfl, by decide +kernel, by decide +kernel⟩
abbrev s_law_stranger : Stmt := top 48
abbrev N_law_stranger : List Str := ["_law_script", "_law_at", "_law_names", "_law_letters", "_law_part", "_law_name", "_law_menu"]
theorem sc_law_stranger : FnScope N_law_stranger ["_law_script", "_law_at", "_law_names"] (defScope s_law_stranger) := ⟨rfl, rfl, rfl, by decide +kernel, rfl, by decide +kernel, by decide +kernel⟩
abbrev s_law_useful : Stmt := top 49
abbrev N_law_useful : List Str := ["_law_many", "_law_lessons", "_law_founded_here", "_law_place", "_law_filled", "_law_leading", "_law_turn", "_law_lesson", "_law_k"]
theorem sc_law_useful : FnScope N_law_useful ["_law_many", "_law_lessons", "_law_founded_here", "_law_place"] (defScope s_law_useful) := ⟨rfl, rfl, rfl, by decide +kernel, rfl, by decide +kernel, by decide +kernel⟩
abbrev s_law_inner : Stmt := top 50
abbrev N_law_inner : List Str := ["_law_lessons", "_law_useful_here", "_law_lesson"]
theorem sc_law_inner : FnScope N_law_inner ["_law_lessons", "_law_useful_here"] (defScope s_law_inner) := ⟨rfl, rfl, rfl, by decide +kernel, rfl, by decide +kernel, by decide +kernel⟩
abbrev s_law_rings : Stmt := top 51
abbrev N_law_rings : List Str := ["_law_many", "_law_lessons", "_law_rings_here", "_law_first", "_law_paths", "_law_turn", "_law_longer", "_law_path", "_law_lesson", "_law_other"]
theorem sc_law_rings : FnScope N_law_rings ["_law_many", "_law_lessons"] (defScope s_law_rings) := ⟨rfl, rfl, rfl, by decide +kernel, rfl, by decide +kernel, by decide +kernel⟩
abbrev s_law_least : Stmt := top 52
abbrev N_law_least : List Str := ["_law_rings_here", "_law_best", "_law_ring"]
theorem sc_law_least : FnScope N_law_least ["_law_rings_here"] (defScope s_law_least) := ⟨rfl, rfl, rfl, by decide +kernel, rfl, by decide +kernel, by decide +kernel⟩
abbrev s_law_divisor : Stmt := top 53
abbrev N_law_divisor : List Str := ["_law_one", "_law_two", "_law_first", "_law_second", "_law_turn", "_law_third"]
theorem sc_law_divisor : FnScope N_law_divisor ["_law_one", "_law_two"] (defScope s_law_divisor) := ⟨rfl, rfl, rfl, by decide +kernel, rfl, by decide +kernel, by decide +kernel⟩
abbrev s_law_ring_sum : Stmt := top 54
abbrev N_law_ring_sum : List Str := ["_law_names", "_law_lessons", "_law_useful_here", "_law_ring", "_law_inner_here", "_law_total", "_law_k", "_law_hits", "_law_lesson"]
theorem sc_law_ring_sum : FnScope N_law_ring_sum ["_law_names", "_law_lessons", "_law_useful_here", "_law_ring"] (defScope s_law_ring_sum) := ⟨rfl, rfl, rfl, by decide +kernel, rfl, by decide +kernel, by decide +kernel⟩
abbrev s_law_potentials : Stmt := top 55
abbrev N_law_potentials : List Str := ["_law_lessons", "_law_useful_here", "_law_top", "_law_bottom", "_law_numbers", "_law_k", "_law_lesson"]
theorem sc_law_potentials : FnScope N_law_potentials ["_law_lessons", "_law_useful_here", "_law_top", "_law_bottom", "_law_numbers"] (defScope s_law_potentials) := ⟨rfl, rfl, rfl, by decide +kernel, rfl, by decide +kernel, by decide +kernel⟩
abbrev s_law_right : Stmt := top 56
abbrev N_law_right : List Str := ["_law_names", "_law_lessons", "_law_useful_here", "_law_best", "_law_told", "_law_parts", "_law_divisor_here", "_law_total"]
theorem sc_law_right : FnScope N_law_right ["_law_names", "_law_lessons", "_law_useful_here", "_law_best", "_law_told"] (defScope s_law_right) := ⟨rfl, rfl, rfl, by decide +kernel, rfl, by decide +kernel, by decide +kernel⟩
abbrev s_law_low : Stmt := top 57
abbrev N_law_low : List Str := ["_law_made", "_law_founded_here", "_law_place", "_law_told", "_law_generation", "_law_depth", "_law_high_here", "_law_k"]
theorem sc_law_low : FnScope N_law_low ["_law_made", "_law_founded_here", "_law_place", "_law_told", "_law_generation"] (defScope s_law_low) := ⟨rfl, rfl, rfl, by decide +kernel, rfl, by decide +kernel, by decide +kernel⟩
abbrev s_law_way_to : Stmt := top 58
abbrev N_law_way_to : List Str := ["_law_lessons", "_law_row", "_law_place", "_law_reached", "_law_turn"]
theorem sc_law_way_to : FnScope N_law_way_to ["_law_lessons", "_law_row", "_law_place"] (defScope s_law_way_to) := ⟨rfl, rfl, rfl, by decide +kernel, rfl, by decide +kernel, by decide +kernel⟩
abbrev s_law_high : Stmt := top 59
abbrev N_law_high : List Str := ["_law_made", "_law_names", "_law_lessons", "_law_founded_here", "_law_place", "_law_told", "_law_rounds", "_law_many", "_law_first", "_law_to", "_law_back", "_law_size", "_law_turns", "_law_generation", "_law_depth", "_law_k"]
theorem sc_law_high : FnScope N_law_high ["_law_made", "_law_names", "_law_lessons", "_law_founded_here", "_law_place", "_law_told", "_law_rounds"] (defScope s_law_high) := ⟨rfl, rfl, rfl, by decide +kernel, rfl, by decide +kernel, by decide +kernel⟩
abbrev s_law_asked : Stmt := top 60
abbrev N_law_asked : List Str := ["_law_made", "_law_names", "_law_lessons", "_law_founded_here", "_law_place", "_law_generation", "_law_rounds", "_law_many", "_law_useful_here", "_law_best", "_law_told", "_law_fields", "_law_usage", "_law_again"]
theorem sc_law_asked : FnScope N_law_asked ["_law_made", "_law_names", "_law_lessons", "_law_founded_here", "_law_place", "_law_generation", "_law_rounds"] (defScope s_law_asked) := ⟨rfl, rfl, rfl, by decide +kernel, rfl, by decide +kernel, by decide +kernel⟩
abbrev s_law_refused : Stmt := top 61
abbrev N_law_refused : List Str := ["_law_made", "_law_text", "e"]
theorem sc_law_refused : FnScope N_law_refused ["_law_made", "_law_text"] (defScope s_law_refused) := ⟨rfl, rfl, rfl, by decide +kernel, rfl, by decide +kernel, by decide +kernel⟩
abbrev s_law_stays : Stmt := top 62
abbrev N_law_stays : List Str := ["_law_made", "_law_names", "_law_lessons", "_law_founded_here", "_law_taught_here", "_law_called", "_law_lesson", "_law_k"]
theorem sc_law_stays : FnScope N_law_stays ["_law_made", "_law_names", "_law_lessons", "_law_founded_here"] (defScope s_law_stays) := ⟨rfl, rfl, rfl, by decide +kernel, rfl, by decide +kernel, by decide +kernel⟩
abbrev slaw : Stmt := top 63
abbrev Nlaw : List Str := ["_law_script", "_law_shape", "_law_many", "_law_names", "_law_lessons", "_law_founded_here", "_law_made", "_law_part", "_law_rounds", "_law_chosen", "_law_place", "_law_far", "_law_text"]
theorem sclaw : FnScope Nlaw ["_law_script"] (defScope slaw) := ⟨rfl, rfl, rfl, by decide +kernel, rfl, by decide +kernel, by decide +kernel⟩
end Cr
set_option maxHeartbeats 0
namespace Cr
open PySem PySem.Spec PyProof.Rows L2
/-! ### the hook: the kit's facts, and a Bool of our own -/
abbrev AlU : Type := Bool × He.AlD
def obsU (n : Nat) (fa : List He.Fa) (fn : List He.DefD) (ex : PySem.W.Frag → Bool) (g : Addr → Option Obj) : AlU := (ex (He.frG g (He.asD g n)), He.obsD fa fn (He.frG g (He.asD g n)))
def hookU (n : Nat) (fa : List He.Fa) (fn : List He.DefD) (ex : PySem.W.Frag → Bool) : PySem.W.Hook where
  α := AlU
  obs := fun s => obsU n fa fn ex s.heap.get?
  val := fun _ => (true, He.valD fn)
  says := fun _ h => ∃ K : PySem.W.Frag, K.In h ∧ ex K = true ∧ He.SaysD fa fn K
  of := fun _ _ e => ⟨_, He.frG_in, congrArg (fun z : AlU => z.1) e, congrArg (fun z : AlU => z.2) e⟩
  keeps := fun _ _ _ ⟨K, inK, told⟩ grown => ⟨K, PySem.W.Frag.In.keeps inK grown, told⟩
theorem obsU_eq {n : Nat} {fa : List He.Fa} {fn : List He.DefD} {ex : PySem.W.Frag → Bool} {g : Addr → Option Obj} {s : Shared} (h : ∀ a, g a = s.heap.get? a) : obsU n fa fn ex g = (hookU n fa fn ex).obs s := by
  obtain rfl : g = s.heap.get? := funext h
  rfl
/-! ### the Bool -/
def dB (a b : Option Bool) : Bool := decide (a = b)
def cisB (K : PySem.W.Frag) (C : Addr) : Bool := He.eqO (PySem.W.findIn K (.ref C) "__class__") (some (some (.builtin "object.__class__"))) && (He.eqO (PySem.W.specialIn K (.builtin "object.__class__") "__get__") (some (some (.builtin "getset_descriptor.__get__"))) &&
  (dB (PySem.W.takesIn K (.builtin "object.__class__")) (some true) && (dB (PySem.W.mroIn K C (.type "object")) (some true) && dB (PySem.W.kitOne K (.ref C) (.ref C)) (some true))))
def oexB (K : PySem.W.Frag) (C : Addr) : Bool := match K.lookup C with
  | some ⟨.type t, _, .cls cd, sl⟩ => (match cd.mro, sl.toList with
    | .ref C' :: bm, [_, _, _, _, some (.builtin n), _] => decide (t = "type") && (decide (C' = C) && (decide (n = "ValueError.__new__") && (!cd.hasDel && (cd.hasDict && PySem.HandSPX.refsVE bm))))
    | _, _ => false)
  | _ => false
theorem oexB_ok {K : PySem.W.Frag} {C : Addr} (q : oexB K C = true) : ∃ nm q N bs bm sn sub ab col dd k0 k1 k2 k3 k5, K.lookup C = some (excClassObj nm q C N bs bm true sn sub ab col dd k0 k1 k2 k3 k5 "ValueError.__new__") ∧ PySem.HandSPX.refsVE bm = true := by
  unfold oexB at q
  split at q
  · rename_i t dd cd sl ho
    split at q
    · rename_i C2 bm k0 k1 k2 k3 n k5 hm hs
      obtain ⟨h0, q⟩ := He.ba q
      obtain ⟨h1, q⟩ := He.ba q
      obtain ⟨h2, q⟩ := He.ba q
      obtain ⟨h3, q⟩ := He.ba q
      obtain ⟨h4, h5⟩ := He.ba q
      have h0 := of_decide_eq_true h0
      have h1 := of_decide_eq_true h1
      have h2 := of_decide_eq_true h2
      obtain ⟨nm, bs, order, ns, qn, hd, sn, sub, ab, col, del⟩ := cd
      dsimp only at hm h3 h4
      have h3 : del = false := by simpa using h3
      subst h0 h1 h2 hm h3 h4
      have hsl : sl = #[k0, k1, k2, k3, some (.builtin "ValueError.__new__"), k5] := by
        obtain ⟨l⟩ := sl
        simp only at hs
        rw [hs]
      subst hsl
      exact ⟨nm, qn, ns, bs, bm, sn, sub, ab, col, dd, k0, k1, k2, k3, k5, ho, h5⟩
    · cases q
  · cases q
def oexA (K : PySem.W.Frag) (C : Addr) : Bool := oexB K C && (He.eqO (PySem.W.findIn K (.ref C) "__setattr__") (some (some (.builtin "object.__setattr__"))) && (dB (PySem.W.subIn K (.ref C) (.type "BaseException")) (some true) &&
  (decide (PySem.W.typeIn K (.ref C) = some (.type "type")) && PySem.W.keepIn K (.ref C))))
theorem oexA_ok {K : PySem.W.Frag} {C : Addr} (h : oexA K C = true) : OexC K C := by
  obtain ⟨h1, h⟩ := He.ba h
  obtain ⟨h2, h⟩ := He.ba h
  obtain ⟨h3, h⟩ := He.ba h
  obtain ⟨h4, h5⟩ := He.ba h
  exact ⟨oexB_ok h1, He.eqO_ok h2, of_decide_eq_true h3, of_decide_eq_true h4, h5⟩
def excA (K : PySem.W.Frag) (D : Addr) : Bool := He.eqO (PySem.W.findIn K (.ref D) "__getattribute__") (some (some (.builtin "BaseException.__getattribute__"))) && (He.eqO (PySem.W.findIn K (.ref D) "__getattr__") (some none) && (dB (PySem.W.subIn K (.ref D) (.type "BaseException")) (some true) &&
  (PySem.W.hasDictIn K D && (He.eqO (PySem.W.findIn K (.ref D) "__class__") (some (some (.builtin "object.__class__"))) && (He.eqO (PySem.W.specialIn K (.builtin "object.__class__") "__get__") (some (some (.builtin "getset_descriptor.__get__"))) &&
  (dB (PySem.W.takesIn K (.builtin "object.__class__")) (some true) && dB (PySem.W.mroIn K D (.type "object")) (some true)))))))
theorem excA_ok {K : PySem.W.Frag} {D : Addr} (h : excA K D = true) : ExcC K D := by
  obtain ⟨h1, h⟩ := He.ba h
  obtain ⟨h2, h⟩ := He.ba h
  obtain ⟨h3, h⟩ := He.ba h
  obtain ⟨h4, h⟩ := He.ba h
  obtain ⟨h5, h⟩ := He.ba h
  obtain ⟨h6, h⟩ := He.ba h
  obtain ⟨h7, h8⟩ := He.ba h
  exact ⟨He.eqO_ok h1, He.eqO_ok h2, of_decide_eq_true h3, h4, He.eqO_ok h5, He.eqO_ok h6, of_decide_eq_true h7, of_decide_eq_true h8⟩
abbrev gU (K : PySem.W.Frag) : Addr := He.ga K "UnknownOffice"
def kitA (K : PySem.W.Frag) : Bool := dB (PySem.W.kitOne K (.ref (gU K)) (.ref (gU K))) (some true) && (dB (PySem.W.kitOne K (.ref (gU K)) (.type "ValueError")) (some true) && (dB (PySem.W.kitOne K (.ref (gU K)) (.ref (He.ga K "BadOffice"))) (some false) &&
  (dB (PySem.W.kitOne K (.ref (gU K)) (.ref (He.ga K "UnknownMaster"))) (some false) && dB (PySem.W.kitOne K (.ref (gU K)) (.ref (He.ga K "UnknownAge"))) (some false))))
def exU (K : PySem.W.Frag) : Bool := He.eqO (PySem.W.nsIn K mainGlobals "gcd") (some (some (.builtin "math.gcd"))) && (cisB K (He.ga K "Pace") && (oexA K (gU K) && (excA K (gU K) && (xfB K (gU K) &&
  (He.eqO (PySem.W.findIn K (.ref (gU K)) "__init__") (some (some (.ref (He.ma K (gU K) "__init__")))) && (decide (PySem.W.typeIn K (.ref (He.ma K (gU K) "__init__")) = some (.type "function")) && kitA K))))))
/-! ### the defs -/
def d_frozen : He.DefD := ⟨("frozen", none), "frozen", "frozen", defArgs sfrozen, defBody sfrozen, defScope sfrozen, [], []⟩
def d_is_office : He.DefD := ⟨("is_office", none), "is_office", "is_office", defArgs sis_office, defBody sis_office, defScope sis_office, [], []⟩
def d_check_offices : He.DefD := ⟨("check_offices", none), "check_offices", "check_offices", defArgs scheck_offices, defBody scheck_offices, defScope scheck_offices, [], []⟩
def d_check_lessons : He.DefD := ⟨("check_lessons", none), "check_lessons", "check_lessons", defArgs scheck_lessons, defBody scheck_lessons, defScope scheck_lessons, [], []⟩
def d_check_known : He.DefD := ⟨("check_known", none), "check_known", "check_known", defArgs scheck_known, defBody scheck_known, defScope scheck_known, [], []⟩
def d_office_place : He.DefD := ⟨("office_place", none), "office_place", "office_place", defArgs soffice_place, defBody soffice_place, defScope soffice_place, [], []⟩
def d_reached_flags : He.DefD := ⟨("reached_flags", none), "reached_flags", "reached_flags", defArgs sreached_flags, defBody sreached_flags, defScope sreached_flags, [], []⟩
def d_useful_flags : He.DefD := ⟨("useful_flags", none), "useful_flags", "useful_flags", defArgs suseful_flags, defBody suseful_flags, defScope suseful_flags, [], []⟩
def d_useful_steps : He.DefD := ⟨("useful_steps", none), "useful_steps", "useful_steps", defArgs suseful_steps, defBody suseful_steps, defScope suseful_steps, [], []⟩
def d_closing_rings : He.DefD := ⟨("closing_rings", none), "closing_rings", "closing_rings", defArgs sclosing_rings, defBody sclosing_rings, defScope sclosing_rings, [], []⟩
def d_least_ring : He.DefD := ⟨("least_ring", none), "least_ring", "least_ring", defArgs sleast_ring, defBody sleast_ring, defScope sleast_ring, [], []⟩
def d_least_potentials : He.DefD := ⟨("least_potentials", none), "least_potentials", "least_potentials", defArgs sleast_potentials, defBody sleast_potentials, defScope sleast_potentials, [], []⟩
def d_pace : He.DefD := ⟨("pace", none), "pace", "pace", defArgs space, defBody space, defScope space, [], []⟩
def d_founding_row : He.DefD := ⟨("founding_row", none), "founding_row", "founding_row", defArgs sfounding_row, defBody sfounding_row, defScope sfounding_row, [], []⟩
def d_lesser_length : He.DefD := ⟨("lesser_length", none), "lesser_length", "lesser_length", defArgs slesser_length, defBody slesser_length, defScope slesser_length, [], []⟩
def d_length_sum : He.DefD := ⟨("length_sum", none), "length_sum", "length_sum", defArgs slength_sum, defBody slength_sum, defScope slength_sum, [], []⟩
def d_lesson_matrix : He.DefD := ⟨("lesson_matrix", none), "lesson_matrix", "lesson_matrix", defArgs slesson_matrix, defBody slesson_matrix, defScope slesson_matrix, [], []⟩
def d_row_by_matrix : He.DefD := ⟨("row_by_matrix", none), "row_by_matrix", "row_by_matrix", defArgs srow_by_matrix, defBody srow_by_matrix, defScope srow_by_matrix, [], []⟩
def d_depth_row : He.DefD := ⟨("depth_row", none), "depth_row", "depth_row", defArgs sdepth_row, defBody sdepth_row, defScope sdepth_row, [], []⟩
def d__law_whole : He.DefD := ⟨("_law_whole", none), "_law_whole", "_law_whole", defArgs s_law_whole, defBody s_law_whole, defScope s_law_whole, [], []⟩
def d__law_cell : He.DefD := ⟨("_law_cell", none), "_law_cell", "_law_cell", defArgs s_law_cell, defBody s_law_cell, defScope s_law_cell, [], []⟩
def d__law_digits : He.DefD := ⟨("_law_digits", none), "_law_digits", "_law_digits", defArgs s_law_digits, defBody s_law_digits, defScope s_law_digits, [], []⟩
def d__law_tuples : He.DefD := ⟨("_law_tuples", none), "_law_tuples", "_law_tuples", defArgs s_law_tuples, defBody s_law_tuples, defScope s_law_tuples, [], []⟩
def d__law_offices : He.DefD := ⟨("_law_offices", none), "_law_offices", "_law_offices", defArgs s_law_offices, defBody s_law_offices, defScope s_law_offices, [], []⟩
def d__law_taught : He.DefD := ⟨("_law_taught", none), "_law_taught", "_law_taught", defArgs s_law_taught, defBody s_law_taught, defScope s_law_taught, [], []⟩
def d__law_founded : He.DefD := ⟨("_law_founded", none), "_law_founded", "_law_founded", defArgs s_law_founded, defBody s_law_founded, defScope s_law_founded, [], []⟩
def d__law_start : He.DefD := ⟨("_law_start", none), "_law_start", "_law_start", defArgs s_law_start, defBody s_law_start, defScope s_law_start, [], []⟩
def d__law_after : He.DefD := ⟨("_law_after", none), "_law_after", "_law_after", defArgs s_law_after, defBody s_law_after, defScope s_law_after, [], []⟩
def d__law_make : He.DefD := ⟨("_law_make", none), "_law_make", "_law_make", defArgs s_law_make, defBody s_law_make, defScope s_law_make, [], []⟩
def d__law_stranger : He.DefD := ⟨("_law_stranger", none), "_law_stranger", "_law_stranger", defArgs s_law_stranger, defBody s_law_stranger, defScope s_law_stranger, [], []⟩
def d__law_useful : He.DefD := ⟨("_law_useful", none), "_law_useful", "_law_useful", defArgs s_law_useful, defBody s_law_useful, defScope s_law_useful, [], []⟩
def d__law_inner : He.DefD := ⟨("_law_inner", none), "_law_inner", "_law_inner", defArgs s_law_inner, defBody s_law_inner, defScope s_law_inner, [], []⟩
def d__law_rings : He.DefD := ⟨("_law_rings", none), "_law_rings", "_law_rings", defArgs s_law_rings, defBody s_law_rings, defScope s_law_rings, [], []⟩
def d__law_least : He.DefD := ⟨("_law_least", none), "_law_least", "_law_least", defArgs s_law_least, defBody s_law_least, defScope s_law_least, [], []⟩
def d__law_divisor : He.DefD := ⟨("_law_divisor", none), "_law_divisor", "_law_divisor", defArgs s_law_divisor, defBody s_law_divisor, defScope s_law_divisor, [], []⟩
def d__law_ring_sum : He.DefD := ⟨("_law_ring_sum", none), "_law_ring_sum", "_law_ring_sum", defArgs s_law_ring_sum, defBody s_law_ring_sum, defScope s_law_ring_sum, [], []⟩
def d__law_potentials : He.DefD := ⟨("_law_potentials", none), "_law_potentials", "_law_potentials", defArgs s_law_potentials, defBody s_law_potentials, defScope s_law_potentials, [], []⟩
def d__law_right : He.DefD := ⟨("_law_right", none), "_law_right", "_law_right", defArgs s_law_right, defBody s_law_right, defScope s_law_right, [], []⟩
def d__law_low : He.DefD := ⟨("_law_low", none), "_law_low", "_law_low", defArgs s_law_low, defBody s_law_low, defScope s_law_low, [], []⟩
def d__law_way_to : He.DefD := ⟨("_law_way_to", none), "_law_way_to", "_law_way_to", defArgs s_law_way_to, defBody s_law_way_to, defScope s_law_way_to, [], []⟩
def d__law_high : He.DefD := ⟨("_law_high", none), "_law_high", "_law_high", defArgs s_law_high, defBody s_law_high, defScope s_law_high, [], []⟩
def d__law_asked : He.DefD := ⟨("_law_asked", none), "_law_asked", "_law_asked", defArgs s_law_asked, defBody s_law_asked, defScope s_law_asked, [], []⟩
def d__law_refused : He.DefD := ⟨("_law_refused", none), "_law_refused", "_law_refused", defArgs s_law_refused, defBody s_law_refused, defScope s_law_refused, [], []⟩
def d__law_stays : He.DefD := ⟨("_law_stays", none), "_law_stays", "_law_stays", defArgs s_law_stays, defBody s_law_stays, defScope s_law_stays, [], []⟩
def d_law : He.DefD := ⟨("law", none), "law", "law", defArgs slaw, defBody slaw, defScope slaw, [], []⟩
def di_Custom : He.DefD := ⟨("Custom", some "__init__"), "__init__", "Custom.__init__", defArgs iCustom, defBody iCustom, defScope iCustom, [], []⟩
def di_Pace : He.DefD := ⟨("Pace", some "__init__"), "__init__", "Pace.__init__", defArgs iPace, defBody iPace, defScope iPace, [], []⟩
def di_UnknownOffice : He.DefD := ⟨("UnknownOffice", some "__init__"), "__init__", "UnknownOffice.__init__", defArgs iUnknownOffice, defBody iUnknownOffice, defScope iUnknownOffice, [], []⟩
def fn : List He.DefD := [d_frozen, d_is_office, d_check_offices, d_check_lessons, d_check_known, d_office_place, d_reached_flags, d_useful_flags, d_useful_steps, d_closing_rings, d_least_ring, d_least_potentials, d_pace, d_founding_row, d_lesser_length, d_length_sum, d_lesson_matrix, d_row_by_matrix, d_depth_row, d__law_whole, d__law_cell, d__law_digits, d__law_tuples, d__law_offices, d__law_taught, d__law_founded, d__law_start, d__law_after, d__law_make, d__law_stranger, d__law_useful, d__law_inner, d__law_rings, d__law_least, d__law_divisor, d__law_ring_sum, d__law_potentials, d__law_right, d__law_low, d__law_way_to, d__law_high, d__law_asked, d__law_refused, d__law_stays, d_law, di_Custom, di_Pace, di_UnknownOffice]
def fa : List He.Fa := [.glo "frozen", .glo "is_office", .glo "check_offices", .glo "check_lessons", .glo "check_known", .glo "office_place", .glo "reached_flags", .glo "useful_flags", .glo "useful_steps", .glo "closing_rings", .glo "least_ring", .glo "least_potentials", .glo "pace", .glo "founding_row", .glo "lesser_length", .glo "length_sum", .glo "lesson_matrix", .glo "row_by_matrix", .glo "depth_row", .glo "_law_whole", .glo "_law_cell", .glo "_law_digits", .glo "_law_tuples", .glo "_law_offices", .glo "_law_taught", .glo "_law_founded", .glo "_law_start", .glo "_law_after", .glo "_law_make", .glo "_law_stranger", .glo "_law_useful", .glo "_law_inner", .glo "_law_rings", .glo "_law_least", .glo "_law_divisor", .glo "_law_ring_sum", .glo "_law_potentials", .glo "_law_right", .glo "_law_low", .glo "_law_way_to", .glo "_law_high", .glo "_law_asked", .glo "_law_refused", .glo "_law_stays", .glo "law", .glo "Custom", .glo "Pace", .glo "UnknownOffice", .glo "CraftError", .glo "BadOffice", .glo "UnknownMaster", .glo "UnknownAge", .free "len", .free "list", .free "tuple", .free "range", .free "int", .free "min", .free "max", .free "all", .free "sorted", .free "isinstance", .free "bool", .free "str", .free "enumerate", .free "ValueError", .str "LETTERS" "abcdefghijklmnopqrstuvwxyz", .int "MOST_LETTERS" 4, .int "MOST_BOUND" 99, .cls "Custom", .cls "Pace", .mkr "Custom", .mkr "Pace", .noat "Custom" "offices", .noat "Custom" "teachings", .noat "Custom" "founding", .noat "Custom" "ordered", .noat "Custom" "steps", .noat "Pace" "top", .noat "Pace" "bottom", .noat "Pace" "ring", .noat "Pace" "potentials", .noat "UnknownOffice" "name", .exm "UnknownOffice" "CraftError" true]
end Cr
namespace Cr
open PySem PySem.Spec PyProof.Rows L2
abbrev Rr : PySem.W.OpenRow := PySem.W.OpenLaw.row PySem.Challenge.rw_craftlines_k80_pace_whole
abbrev hk : PySem.W.Hook := hookU 6 fa fn exU
def ob (s : PySem.W.SharedT) : AlU := obsU 6 fa fn exU (HandSHeadRun.getT s)
theorem ob_eq (s : PySem.W.SharedT) : ob s = hk.obs s.abs := obsU_eq (HandSHeadRun.getT_eq s)
def lo0 : List PySem.Str := ["CraftError", "UnknownMaster", "BadBound", "UnknownAge", "BadOffice", "UnknownOffice", "RepeatedLesson", "frozen", "LETTERS", "MOST_LETTERS", "MOST_BOUND", "Custom", "is_office", "check_offices", "check_lessons", "check_known", "office_place", "Pace", "reached_flags", "useful_flags", "useful_steps", "closing_rings", "least_ring", "least_potentials", "pace", "founding_row", "lesser_length", "length_sum", "lesson_matrix", "row_by_matrix"]
def lo1 : List PySem.Str := ["depth_row", "_law_whole", "_law_cell", "_law_digits", "_law_tuples", "_law_offices", "_law_taught", "_law_founded", "_law_start", "_law_after", "_law_make", "_law_stranger", "_law_useful", "_law_inner", "_law_rings", "_law_least", "_law_divisor", "_law_ring_sum", "_law_potentials", "_law_right", "_law_low", "_law_way_to", "_law_high", "_law_asked", "_law_refused", "_law_stays"]
def loose : List PySem.Str := lo0 ++ lo1
theorem run (w : World) : HandSHeadRun.RunEqI Rr (PySem.W.view Rr.prog [0, 63]) hk ob 4000 loose w := by
  unfold HandSHeadRun.RunEqI
  kernel_rfl
end Cr
set_option maxHeartbeats 2000000
/-! A layer of our own over HandS: values as plain data (Dt), the def's names as a list of (name, what it holds), judgements that speak of data alone. -/
namespace Fw
open PySem PySem.Spec PyProof.Rows L2

/-! ### data -/
inductive Dt where
  | non | bl (b : Bool) | int (i : Int) | str (x : Str)
  | lst (xs : List Dt) | tup (nd : Bool) (xs : List Dt)
  | ins (C : Addr) (fs : List (Str × Dt))
  | dct (kvs : List (Str × Int))
  | scr (ns : List Int)

/-- whatever G knows, G2 knows alike -/
def Ex (G G2 : Hp) : Prop := ∀ (c : Addr) (u : HO), G c = some u → G2 c = some u
theorem Ex.refl (G : Hp) : Ex G G := fun _ _ known => known
theorem Ex.trans {G G2 G3 : Hp} (p : Ex G G2) (q : Ex G2 G3) : Ex G G3 := fun c u known => q c u (p c u known)
theorem Ex.new {G : Hp} {c : Addr} {u : HO} (free : G c = none) : Ex G (upd G c u) := fun b v known => (upd_ne (ne_of_none known free)).trans known
theorem Ex.mut {G G2 : Hp} {c : Addr} {u : HO} (p : Ex G G2) (free : G c = none) : Ex G (upd G2 c u) := fun b v known => (upd_ne (ne_of_none known free)).trans (p b v known)
theorem Ex.none {H H' : Hp} {p : Addr} (e : Ex H H') (h : H' p = none) : H p = none := by
  cases h1 : H p with
  | none => rfl
  | some o =>
    rw [e p o h1] at h
    cases h
theorem ex_rd {G G2 : Hp} {c : Addr} {u : HO} (p : Ex G G2) (known : Rd G c u) : Rd G2 c u := known.imp (p c _) fun ⟨v, k⟩ => ⟨v, p c _ k⟩
theorem ex_l {K : PySem.W.Frag} {G G2 : Hp} {c : Addr} {vs : List V} (p : Ex G G2) (known : SqL K G c vs) : SqL K G2 c vs := known.imp (ex_rd p) id

def kD (kvs : List (Str × Int)) : List (Key × V) := kvs.map fun p => (.inr p.1, .int p.2)

mutual
inductive Rep (K : PySem.W.Frag) (H : Hp) : V → Dt → Prop
  | non : Rep K H .non .non
  | bl (b : Bool) : Rep K H (.bl b) (.bl b)
  | int (i : Int) : Rep K H (.int i) (.int i)
  | str (x : Str) : Rep K H (.str x) (.str x)
  | lst {a : Addr} {vs : List V} {ds : List Dt} : H a = some (.lst vs) → RepL K H vs ds → Rep K H (.ref a) (.lst ds)
  | tup {a : Addr} {vs : List V} {ds : List Dt} : Rd H a (.tup vs) → RepL K H vs ds → Rep K H (.ref a) (.tup false ds)
  | tupN {a : Addr} {vs : List V} {ds : List Dt} {o : Obj} : H a = some (.frz o (.tup vs)) → o.dict = none → RepL K H vs ds → Rep K H (.ref a) (.tup true ds)
  | ins {a C dx : Addr} {vfs : List (Str × V)} {fs : List (Str × Dt)} : H a = some (.ins C dx vfs) → RepF K H vfs fs → Rep K H (.ref a) (.ins C fs)
  | dct {a : Addr} {kvs : List (Str × Int)} : H a = some (.dK (kD kvs)) → Rep K H (.ref a) (.dct kvs)
  | scr {a : Addr} {ns : List Int} : SqL K H a (ns.map V.int) → Rep K H (.ref a) (.scr ns)
inductive RepL (K : PySem.W.Frag) (H : Hp) : List V → List Dt → Prop
  | nil : RepL K H [] []
  | cons {v : V} {d : Dt} {vs : List V} {ds : List Dt} : Rep K H v d → RepL K H vs ds → RepL K H (v :: vs) (d :: ds)
inductive RepF (K : PySem.W.Frag) (H : Hp) : List (Str × V) → List (Str × Dt) → Prop
  | nil : RepF K H [] []
  | cons {f : Str} {v : V} {d : Dt} {vs : List (Str × V)} {ds : List (Str × Dt)} : Rep K H v d → RepF K H vs ds → RepF K H ((f, v) :: vs) ((f, d) :: ds)
end

section
variable {K : PySem.W.Frag} {H H' : Hp}
mutual
theorem Rep.mono (e : Ex H H') : ∀ {v : V} {d : Dt}, Rep K H v d → Rep K H' v d
  | _, _, .non => .non
  | _, _, .bl b => .bl b
  | _, _, .int i => .int i
  | _, _, .str x => .str x
  | _, _, .lst h r => .lst (e _ _ h) (RepL.mono e r)
  | _, _, .tup h r => .tup (ex_rd e h) (RepL.mono e r)
  | _, _, .tupN h n r => .tupN (e _ _ h) n (RepL.mono e r)
  | _, _, .ins h r => .ins (e _ _ h) (RepF.mono e r)
  | _, _, .dct h => .dct (e _ _ h)
  | _, _, .scr h => .scr (ex_l e h)
theorem RepL.mono (e : Ex H H') : ∀ {v : List V} {d : List Dt}, RepL K H v d → RepL K H' v d
  | _, _, .nil => .nil
  | _, _, .cons h r => .cons (Rep.mono e h) (RepL.mono e r)
theorem RepF.mono (e : Ex H H') : ∀ {v : List (Str × V)} {d : List (Str × Dt)}, RepF K H v d → RepF K H' v d
  | _, _, .nil => .nil
  | _, _, .cons h r => .cons (Rep.mono e h) (RepF.mono e r)
end
theorem RepL.length : ∀ {vs : List V} {ds : List Dt}, RepL K H vs ds → vs.length = ds.length
  | _, _, .nil => rfl
  | _, _, .cons _ r => congrArg (· + 1) (RepL.length r)
theorem RepL.get : ∀ {vs : List V} {ds : List Dt} {i : Nat} {v : V}, RepL K H vs ds → vs[i]? = some v → ∃ d, ds[i]? = some d ∧ Rep K H v d
  | _, _, _, _, .nil, none_at => by simp at none_at
  | _, _, 0, _, .cons h r, e => by simp at e; subst e; exact ⟨_, rfl, h⟩
  | _, _, i + 1, v, .cons h r, e => by
    obtain ⟨d, h1, h2⟩ := RepL.get (i := i) (v := v) r (by simpa using e)
    exact ⟨d, by simpa using h1, h2⟩
theorem RepL.get' : ∀ {vs : List V} {ds : List Dt} {i : Nat} {d : Dt}, RepL K H vs ds → ds[i]? = some d → ∃ v, vs[i]? = some v ∧ Rep K H v d
  | _, _, _, _, .nil, none_at => by simp at none_at
  | _, _, 0, _, .cons h r, e => by simp at e; subst e; exact ⟨_, rfl, h⟩
  | _, _, i + 1, v, .cons h r, e => by
    obtain ⟨d, h1, h2⟩ := RepL.get' (i := i) (d := v) r (by simpa using e)
    exact ⟨d, by simpa using h1, h2⟩
theorem RepL.append : ∀ {vs ws : List V} {ds es : List Dt}, RepL K H vs ds → RepL K H ws es → RepL K H (vs ++ ws) (ds ++ es)
  | _, _, _, _, .nil, s => s
  | _, _, _, _, .cons h r, s => .cons h (RepL.append r s)
theorem RepL.set {v : V} {d : Dt} (h : Rep K H v d) : ∀ {vs : List V} {ds : List Dt} (i : Nat), RepL K H vs ds → RepL K H (vs.set i v) (ds.set i d)
  | _, _, _, .nil => .nil
  | _, _, 0, .cons _ r => .cons h r
  | _, _, i + 1, .cons h' r => .cons h' (RepL.set h i r)
theorem RepL.take : ∀ {vs : List V} {ds : List Dt} (n : Nat), RepL K H vs ds → RepL K H (vs.take n) (ds.take n)
  | _, _, 0, _ => .nil
  | _, _, _ + 1, .nil => .nil
  | _, _, n + 1, .cons h r => .cons h (RepL.take n r)
theorem RepL.drop : ∀ {vs : List V} {ds : List Dt} (n : Nat), RepL K H vs ds → RepL K H (vs.drop n) (ds.drop n)
  | _, _, 0, r => r
  | _, _, _ + 1, .nil => .nil
  | _, _, n + 1, .cons h r => RepL.drop n r
theorem RepL.reverse : ∀ {vs : List V} {ds : List Dt}, RepL K H vs ds → RepL K H vs.reverse ds.reverse
  | _, _, .nil => .nil
  | _, _, .cons h r => by
    rw [List.reverse_cons, List.reverse_cons]
    exact (RepL.reverse r).append (.cons h .nil)
theorem RepL.ints : ∀ {vs : List V} {ns : List Int}, RepL K H vs (ns.map Dt.int) → vs = ns.map V.int
  | [], [], _ => rfl
  | _, [], h => by cases h; rfl
  | _, n :: ns, h => by
    cases h with
    | cons h r =>
      cases h
      rw [RepL.ints r]
      rfl
theorem RepL.bls : ∀ {vs : List V} {ns : List Bool}, RepL K H vs (ns.map Dt.bl) → vs = ns.map V.bl
  | _, [], h => by cases h; rfl
  | _, n :: ns, h => by
    cases h with
    | cons h r =>
      cases h
      rw [RepL.bls r]
      rfl
theorem RepL.strs : ∀ {vs : List V} {ns : List Str}, RepL K H vs (ns.map Dt.str) → vs = ns.map V.str
  | _, [], h => by cases h; rfl
  | _, n :: ns, h => by
    cases h with
    | cons h r =>
      cases h
      rw [RepL.strs r]
      rfl
theorem RepF.lookup {f : Str} {d : Dt} : ∀ {vs : List (Str × V)} {ds : List (Str × Dt)}, RepF K H vs ds → ds.lookup f = some d → ∃ v, vs.lookup f = some v ∧ Rep K H v d
  | _, _, .nil, e => by cases e
  | _, _, .cons (f := g) (v := w) (d := c) h r, e => by
    rw [List.lookup_cons] at e ⊢
    cases q : f == g with
    | true =>
      rw [q] at e
      cases e
      exact ⟨_, rfl, h⟩
    | false =>
      rw [q] at e
      exact RepF.lookup r e
def putD (f : Str) (v : Dt) : List (Str × Dt) → List (Str × Dt)
  | [] => [(f, v)]
  | (g, x) :: r => if g = f then (g, v) :: r else (g, x) :: putD f v r
theorem RepF.put {f : Str} {v : V} {d : Dt} (h : Rep K H v d) : ∀ {vs : List (Str × V)} {ds : List (Str × Dt)}, RepF K H vs ds → RepF K H (putF f v vs) (putD f d ds)
  | _, _, .nil => .cons h .nil
  | _, _, .cons (f := g) (v := w) (d := c) h' r => by
    show RepF K H (if g = f then _ else _) (if g = f then _ else _)
    by_cases q : g = f
    · rw [if_pos q, if_pos q]
      exact .cons h r
    · rw [if_neg q, if_neg q]
      exact .cons h' (RepF.put h r)
theorem RepF.length : ∀ {vs : List (Str × V)} {ds : List (Str × Dt)}, RepF K H vs ds → vs.length = ds.length
  | _, _, .nil => rfl
  | _, _, .cons _ r => congrArg (· + 1) (RepF.length r)
end

/-! ### the heap's part that stays -/
structure Gr (F H F' H' : Hp) : Prop where
  f : Ex F F'
  fh : Ex F' H'
  h : Ex H H'
  new : ∀ a o, F' a = some o → F a = none → H a = none
theorem Gr.refl {F H : Hp} (e : Ex F H) : Gr F H F H := ⟨.refl _, e, .refl _, fun a o h n => by rw [h] at n; cases n⟩
theorem Gr.trans {F H F1 H1 F2 H2 : Hp} (a : Gr F H F1 H1) (b : Gr F1 H1 F2 H2) : Gr F H F2 H2 :=
  ⟨a.f.trans b.f, b.fh, a.h.trans b.h, fun x o h n => by
    cases q : F1 x with
    | none => exact a.h.none (b.new x o h q)
    | some u => exact a.new x u q n⟩
/-- a new cell that the caller may know from now on -/
theorem Gr.lay {F H : Hp} {p : Addr} {o : HO} (e : Ex F H) (n : H p = none) : Gr F H (upd F p o) (upd H p o) :=
  ⟨.new (e.none n), fun a u h => by
    by_cases q : a = p
    · subst q
      rw [upd_same] at h ⊢
      exact h
    · rw [upd_ne q] at h ⊢
      exact e a u h, .new n, fun a u h m => by
    by_cases q : a = p
    · subst q
      exact n
    · rw [upd_ne q, m] at h
      cases h⟩
/-- a new cell that is one's own -/
theorem Gr.own {F H : Hp} {p : Addr} {o : HO} (e : Ex F H) (n : H p = none) : Gr F H F (upd H p o) :=
  ⟨.refl _, e.mut (e.none n), .new n, fun a u h m => by rw [h] at m; cases m⟩

/-! ### what the names hold -/
inductive SD where
  | un
  | dat (d : Dt)
  /-- a list of one's own -/
  | own (ds : List Dt)
  /-- the instance that is being made -/
  | slf (a C : Addr) (fs : List (Str × Dt))
abbrev Env' := List (Str × SD)
def SD.owns : SD → Bool
  | .own _ => true
  | .slf _ _ _ => true
  | _ => false
def SlotOk (K : PySem.W.Frag) (H0 F H : Hp) : Option V → SD → Prop
  | _, .un => True
  | o, .dat d => ∃ v, o = some v ∧ Rep K F v d
  | o, .own ds => ∃ l vs, o = some (.ref l) ∧ H0 l = none ∧ F l = none ∧ H l = some (.lst vs) ∧ RepL K F vs ds
  | o, .slf x C fs => ∃ dx vfs, o = some (.ref x) ∧ H0 x = none ∧ F x = none ∧ H x = some (.ins C dx vfs) ∧ RepF K F vfs fs
structure Bd where
  X : Cx
  F0 : Hp
  H0 : Hp
structure At (B : Bd) (F : Hp) (σ : L2.St) (H : Hp) (env : Env') : Prop where
  names : B.X.N = env.map (·.1)
  len : σ.length = env.length
  g : Gr B.F0 B.H0 F H
  ok : ∀ (i : Nat) (x : Str) (s : SD), env[i]? = some (x, s) → ∃ o, σ[i]? = some o ∧ SlotOk B.X.K B.H0 F H o s
  apart : ∀ (i j : Nat) (l : Addr) (x y : Str) (s t : SD), i ≠ j → env[i]? = some (x, s) → s.owns = true → σ[i]? = some (some (.ref l)) → env[j]? = some (y, t) → t.owns = true → σ[j]? = some (some (.ref l)) → False
theorem SlotOk.grow {K : PySem.W.Frag} {H0 F H F' H' : Hp} {o : Option V} {s : SD} (g : Gr F H F' H') (h : SlotOk K H0 F H o s) : SlotOk K H0 F' H' o s := by
  cases s with
  | un => trivial
  | dat d =>
    obtain ⟨v, e, r⟩ := h
    exact ⟨v, e, r.mono g.f⟩
  | own ds =>
    obtain ⟨l, vs, e, h0, f, hl, r⟩ := h
    refine ⟨l, vs, e, h0, ?_, g.h _ _ hl, r.mono g.f⟩
    cases q : F' l with
    | none => rfl
    | some u =>
      have z := g.new l u q f
      rw [hl] at z
      cases z
  | slf x C fs =>
    obtain ⟨dx, vfs, e, h0, f, hl, r⟩ := h
    refine ⟨dx, vfs, e, h0, ?_, g.h _ _ hl, r.mono g.f⟩
    cases q : F' x with
    | none => rfl
    | some u =>
      have z := g.new x u q f
      rw [hl] at z
      cases z
theorem At.grow {B : Bd} {F H F' H' : Hp} {σ : L2.St} {env : Env'} (a : At B F σ H env) (g : Gr F H F' H') : At B F' σ H' env :=
  ⟨a.names, a.len, a.g.trans g, fun i x s h => by
    obtain ⟨o, e, k⟩ := a.ok i x s h
    exact ⟨o, e, k.grow g⟩, a.apart⟩
theorem At.ex {B : Bd} {F H : Hp} {σ : L2.St} {env : Env'} (a : At B F σ H env) : Ex F H := a.g.fh

/-! ### judgements of expressions -/
abbrev PD := Dt → Prop
def post (K : PySem.W.Frag) (F H : Hp) (Φ : PD) : VK := fun v H' => ∃ F' d, Gr F H F' H' ∧ Rep K F' v d ∧ Φ d
def postL (K : PySem.W.Frag) (F H : Hp) (Φ : List Dt → Prop) : VK := fun v H' => ∃ F' l vs ds, v = .ref l ∧ Gr F H F' H' ∧ H l = none ∧ F' l = none ∧ H' l = some (.lst vs) ∧ RepL K F' vs ds ∧ Φ ds
def postA (K : PySem.W.Frag) (F H : Hp) (Φ : List Dt → Prop) : List V → Hp → Prop := fun vs H' => ∃ F' ds, Gr F H F' H' ∧ RepL K F' vs ds ∧ Φ ds
def postT (F H : Hp) (Φ : Bool → Prop) : Bool → Hp → Prop := fun b H' => ∃ F', Gr F H F' H' ∧ Φ b
/-- the code's own reading -/
def RE (X : Cx) (e : Expr) : TE := fun σ H Q => ∀ pins s, Inv X pins σ H s → wpAny (model X.prog X.w) X.A (eval e X.env) (EP X pins σ Q) X.xe s
def RT (X : Cx) (e : Expr) : TT := fun σ H Q => ∀ pins s, Inv X pins σ H s → wpAny (model X.prog X.w) X.A (isTrue e X.env (eval e X.env)) (TP X pins σ Q) X.xe s
def RA (X : Cx) (es : List Expr) : TA := fun σ H Q => ∀ pos pins s, Inv X pins σ H s → wpAny (model X.prog X.w) X.A (spliced (backTo pos (starEach es X.env))) (AP X pins σ Q) X.xe s
def RS (X : Cx) (st : Stmt) : TS := fun D σ H => ∀ pins s, Inv X pins σ H s → wpAny (model X.prog X.w) X.A (exec st X.env) (SP X pins D) X.xe s
def RB (X : Cx) (st : List Stmt) : TS := fun D σ H => ∀ pins s, Inv X pins σ H s → wpAny (model X.prog X.w) X.A (execs st X.env) (SP X pins D) X.xe s
section
variable {X : Cx}
theorem pe_re {e : Expr} : PE X e (RE X e) := ⟨fun pins s σ H Q I h => h pins s I⟩
theorem pt_re {e : Expr} : PT X e (RT X e) := ⟨fun pins s σ H Q I h => h pins s I⟩
theorem pa_re {es : List Expr} : PA X es (RA X es) := ⟨fun pos pins s σ H Q I h => h pos pins s I⟩
theorem ps_re {st : Stmt} : PS X st (RS X st) := ⟨fun pins s σ H D I h => h pins s I⟩
theorem pss_re {st : List Stmt} : PSs X st (RB X st) := ⟨fun pins s σ H D I h => h pins s I⟩
theorem re_of {e : Expr} {t : TE} (h : PE X e t) {σ : L2.St} {H : Hp} {Q : VK} (q : t σ H Q) : RE X e σ H Q := fun pins s I => h.run pins s σ H Q I q
theorem rt_of {e : Expr} {t : TT} (h : PT X e t) {σ : L2.St} {H : Hp} {Q : Bool → Hp → Prop} (q : t σ H Q) : RT X e σ H Q := fun pins s I => h.run pins s σ H Q I q
theorem ra_of {es : List Expr} {t : TA} (h : PA X es t) {σ : L2.St} {H : Hp} {Q : List V → Hp → Prop} (q : t σ H Q) : RA X es σ H Q := fun pos pins s I => h.run pos pins s σ H Q I q
theorem rs_of {st : Stmt} {t : TS} (h : PS X st t) {D : Ends} {σ : L2.St} {H : Hp} (q : t D σ H) : RS X st D σ H := fun pins s I => h.run pins s σ H D I q
theorem rb_of {st : List Stmt} {t : TS} (h : PSs X st t) {D : Ends} {σ : L2.St} {H : Hp} (q : t D σ H) : RB X st D σ H := fun pins s I => h.run pins s σ H D I q
theorem re_mono {e : Expr} {σ : L2.St} {H : Hp} {Q Q' : VK} (h : RE X e σ H Q) (m : ∀ v H', Q v H' → Q' v H') : RE X e σ H Q' := fun pins s I =>
  thn (h pins s I) fun u s' ⟨v, H', I', r, q⟩ => ⟨v, H', I', r, m v H' q⟩
theorem rt_mono {e : Expr} {σ : L2.St} {H : Hp} {Q Q' : Bool → Hp → Prop} (h : RT X e σ H Q) (m : ∀ v H', Q v H' → Q' v H') : RT X e σ H Q' := fun pins s I =>
  thn (h pins s I) fun u s' ⟨H', I', q⟩ => ⟨H', I', m _ H' q⟩
theorem ra_mono {es : List Expr} {σ : L2.St} {H : Hp} {Q Q' : List V → Hp → Prop} (h : RA X es σ H Q) (m : ∀ v H', Q v H' → Q' v H') : RA X es σ H Q' := fun pos pins s I =>
  thn (h pos pins s I) fun u s' ⟨v, H', I', r, q⟩ => ⟨v, H', I', r, m v H' q⟩
theorem sp_mono {pins : List (Addr × Obj)} {D D' : Ends} (n : ∀ σ H, D.nx σ H → D'.nx σ H) (r : ∀ v H, D.rt v H → D'.rt v H) (b : ∀ σ H, D.bk σ H → D'.bk σ H) (c : ∀ σ H, D.ct σ H → D'.ct σ H) {f : Flow} {s : Shared} (h : SP X pins D f s) : SP X pins D' f s := by
  cases f with
  | next => obtain ⟨σ', H', I, q⟩ := h; exact ⟨σ', H', I, n _ _ q⟩
  | brk => obtain ⟨σ', H', I, q⟩ := h; exact ⟨σ', H', I, b _ _ q⟩
  | cont => obtain ⟨σ', H', I, q⟩ := h; exact ⟨σ', H', I, c _ _ q⟩
  | ret u => obtain ⟨v, σ', H', I, r', q⟩ := h; exact ⟨v, σ', H', I, r', r _ _ q⟩
theorem rs_mono {st : Stmt} {σ : L2.St} {H : Hp} {D D' : Ends} (h : RS X st D σ H) (n : ∀ σ H, D.nx σ H → D'.nx σ H) (r : ∀ v H, D.rt v H → D'.rt v H) (b : ∀ σ H, D.bk σ H → D'.bk σ H) (c : ∀ σ H, D.ct σ H → D'.ct σ H) : RS X st D' σ H :=
  fun pins s I => thn (h pins s I) fun f s' q => sp_mono n r b c q
theorem rb_mono {st : List Stmt} {σ : L2.St} {H : Hp} {D D' : Ends} (h : RB X st D σ H) (n : ∀ σ H, D.nx σ H → D'.nx σ H) (r : ∀ v H, D.rt v H → D'.rt v H) (b : ∀ σ H, D.bk σ H → D'.bk σ H) (c : ∀ σ H, D.ct σ H → D'.ct σ H) : RB X st D' σ H :=
  fun pins s I => thn (h pins s I) fun f s' q => sp_mono n r b c q
end

structure WE (B : Bd) (e : Expr) (env : Env') (Φ : PD) : Prop where
  mk ::
  run : ∀ F σ H, At B F σ H env → RE B.X e σ H (post B.X.K F H Φ)
instance {B : Bd} {e : Expr} {env : Env'} {Φ : PD} : CoeFun (WE B e env Φ) (fun _ => ∀ F σ H, At B F σ H env → RE B.X e σ H (post B.X.K F H Φ)) := ⟨WE.run⟩

structure WL (B : Bd) (e : Expr) (env : Env') (Φ : List Dt → Prop) : Prop where
  mk ::
  run : ∀ F σ H, At B F σ H env → RE B.X e σ H (postL B.X.K F H Φ)
instance (B : Bd) (e : Expr) (env : Env') (Φ : List Dt → Prop) : CoeFun (WL B e env Φ) (fun _ => ∀ F σ H, At B F σ H env → RE B.X e σ H (postL B.X.K F H Φ)) := ⟨WL.run⟩

structure WA (B : Bd) (es : List Expr) (env : Env') (Φ : List Dt → Prop) : Prop where
  mk ::
  run : ∀ F σ H, At B F σ H env → RA B.X es σ H (postA B.X.K F H Φ)
instance (B : Bd) (es : List Expr) (env : Env') (Φ : List Dt → Prop) : CoeFun (WA B es env Φ) (fun _ => ∀ F σ H, At B F σ H env → RA B.X es σ H (postA B.X.K F H Φ)) := ⟨WA.run⟩

structure WT (B : Bd) (e : Expr) (env : Env') (Φ : Bool → Prop) : Prop where
  mk ::
  run : ∀ F σ H, At B F σ H env → RT B.X e σ H (postT F H Φ)
instance (B : Bd) (e : Expr) (env : Env') (Φ : Bool → Prop) : CoeFun (WT B e env Φ) (fun _ => ∀ F σ H, At B F σ H env → RT B.X e σ H (postT F H Φ)) := ⟨WT.run⟩

structure AE where
  nx : Env' → Prop
  rt : PD
  bk : Env' → Prop := fun _ => False
  ct : Env' → Prop := fun _ => False
def toS (B : Bd) (F : Hp) (P : Env' → Prop) : L2.St → Hp → Prop := fun σ H => ∃ F' env, Ex F F' ∧ At B F' σ H env ∧ P env
def toV (B : Bd) (P : PD) : VK := fun v H => ∃ F d, Gr B.F0 B.H0 F H ∧ Rep B.X.K F v d ∧ P d
def toE (B : Bd) (F : Hp) (D : AE) : Ends := ⟨toS B F D.nx, toV B D.rt, toS B F D.bk, toS B F D.ct⟩
theorem toS.ex {B : Bd} {F F' : Hp} {P : Env' → Prop} (e : Ex F F') (σ : L2.St) (H : Hp) : toS B F' P σ H → toS B F P σ H := fun ⟨F2, env, e2, a, p⟩ => ⟨F2, env, e.trans e2, a, p⟩
structure WS (B : Bd) (st : Stmt) (env : Env') (D : AE) : Prop where
  mk ::
  run : ∀ F σ H, At B F σ H env → RS B.X st (toE B F D) σ H
instance {B : Bd} {st : Stmt} {env : Env'} {D : AE} : CoeFun (WS B st env D) (fun _ => ∀ F σ H, At B F σ H env → RS B.X st (toE B F D) σ H) := ⟨WS.run⟩

structure WB (B : Bd) (st : List Stmt) (env : Env') (D : AE) : Prop where
  mk ::
  run : ∀ F σ H, At B F σ H env → RB B.X st (toE B F D) σ H
instance {B : Bd} {st : List Stmt} {env : Env'} {D : AE} : CoeFun (WB B st env D) (fun _ => ∀ F σ H, At B F σ H env → RB B.X st (toE B F D) σ H) := ⟨WB.run⟩

theorem rs_ex {B : Bd} {st : Stmt} {F F' : Hp} {D : AE} {σ : L2.St} {H : Hp} (e : Ex F F') (h : RS B.X st (toE B F' D) σ H) : RS B.X st (toE B F D) σ H := rs_mono h (toS.ex e) (fun _ _ q => q) (toS.ex e) (toS.ex e)
theorem rb_ex {B : Bd} {st : List Stmt} {F F' : Hp} {D : AE} {σ : L2.St} {H : Hp} (e : Ex F F') (h : RB B.X st (toE B F' D) σ H) : RB B.X st (toE B F D) σ H := rb_mono h (toS.ex e) (fun _ _ q => q) (toS.ex e) (toS.ex e)

section
variable {B : Bd} {env : Env'} {e a b : Expr} {Φ Ψ : PD}
theorem WE.imp (h : WE B e env Φ) (m : ∀ d, Φ d → Ψ d) : WE B e env Ψ := .mk fun F σ H A => re_mono (h F σ H A) fun v H' ⟨F', d, g, r, q⟩ => ⟨F', d, g, r, m d q⟩
theorem WL.imp {Φ Ψ : List Dt → Prop} (h : WL B e env Φ) (m : ∀ d, Φ d → Ψ d) : WL B e env Ψ := .mk fun F σ H A => re_mono (h F σ H A) fun v H' ⟨F', l, vs, ds, e1, g, n, f, hl, r, q⟩ => ⟨F', l, vs, ds, e1, g, n, f, hl, r, m ds q⟩
theorem WT.imp {Φ Ψ : Bool → Prop} (h : WT B e env Φ) (m : ∀ d, Φ d → Ψ d) : WT B e env Ψ := .mk fun F σ H A => rt_mono (h F σ H A) fun v H' ⟨F', g, q⟩ => ⟨F', g, m _ q⟩
/-- a new list as data -/
theorem we_wl (h : WL B e env fun ds => Φ (.lst ds)) : WE B e env Φ := .mk fun F σ H A => re_mono (h F σ H A) fun v H' ⟨F', l, vs, ds, e1, g, n, f, hl, r, q⟩ => by
  subst e1
  refine ⟨upd F' l (.lst vs), .lst ds, ⟨g.f.trans (.new f), fun a u z => ?_, g.h, fun a u z m => ?_⟩, .lst upd_same (r.mono (.new f)), q⟩
  · by_cases e2 : a = l
    · subst e2
      rw [upd_same] at z
      rw [hl]
      exact z
    · rw [upd_ne e2] at z
      exact g.fh a u z
  · by_cases e2 : a = l
    · subst e2
      exact n
    · rw [upd_ne e2] at z
      exact g.new a u z m
end
end Fw
namespace Fw
open PySem PySem.Spec L2

/-! ### places of names -/
inductive Pl : Env' → Str → SD → (SD → Env') → Prop where
  | here {x : Str} {s : SD} {r : Env'} : Pl ((x, s) :: r) x s (fun t => (x, t) :: r)
  | there {p : Str × SD} {r : Env'} {x : Str} {s : SD} {f : SD → Env'} : Pl r x s f → Pl (p :: r) x s (fun t => p :: f t)
theorem Pl.ix {env : Env'} {x : Str} {s : SD} {f : SD → Env'} (h : Pl env x s f) : ∃ i : Nat, env[i]? = some (x, s) ∧ ∀ t, f t = env.set i (x, t) := by
  induction h with
  | here => exact ⟨0, rfl, fun _ => rfl⟩
  | there _ ih =>
    obtain ⟨i, h1, h2⟩ := ih
    exact ⟨i + 1, by simpa using h1, fun t => congrArg (List.cons _) (h2 t)⟩

section
variable {B : Bd} {env : Env'} {F H : Hp} {σ : L2.St} {x : Str} {s : SD} {f : SD → Env'}
theorem At.name (A : At B F σ H env) {i : Nat} (h : env[i]? = some (x, s)) : B.X.N[i]? = some x := by
  rw [A.names, List.getElem?_map, h]
  rfl
theorem names_set {env : Env'} {i : Nat} {x : Str} {s t : SD} (h : env[i]? = some (x, s)) : (env.set i (x, t)).map (·.1) = env.map (·.1) := by
  apply List.ext_getElem?
  intro j
  rw [List.getElem?_map, List.getElem?_map, List.getElem?_set]
  by_cases e : i = j
  · subst e
    have hl := (List.getElem?_eq_some_iff.mp h).1
    rw [if_pos rfl, if_pos hl, h]
    rfl
  · rw [if_neg e]
/-- a name gets a value -/
theorem At.put (A : At B F σ H env) {i : Nat} {t : SD} {o : Option V} (h : env[i]? = some (x, s)) (k : SlotOk B.X.K B.H0 F H o t)
    (ap : t.owns = true → ∀ (l : Addr), o = some (.ref l) → ∀ (j : Nat) (y : Str) (u : SD), j ≠ i → env[j]? = some (y, u) → u.owns = true → σ[j]? = some (some (.ref l)) → False) : At B F (σ.set i o) H (env.set i (x, t)) := by
  have hl : i < env.length := (List.getElem?_eq_some_iff.mp h).1
  have hσ : i < σ.length := by rw [A.len]; exact hl
  refine ⟨by rw [names_set h]; exact A.names, by rw [List.length_set, List.length_set]; exact A.len, A.g, fun j y u e => ?_, fun j1 j2 l y1 y2 u1 u2 hj e1 w1 q1 e2 w2 q2 => ?_⟩
  · by_cases hj : i = j
    · subst hj
      rw [List.getElem?_set_self hl] at e
      cases e
      exact ⟨o, List.getElem?_set_self hσ, k⟩
    · rw [List.getElem?_set_ne hj] at e
      obtain ⟨o', h1, h2⟩ := A.ok j y u e
      exact ⟨o', by rw [List.getElem?_set_ne hj]; exact h1, h2⟩
  · by_cases g1 : i = j1
    · subst g1
      rw [List.getElem?_set_self hl] at e1
      rw [List.getElem?_set_self hσ] at q1
      rw [List.getElem?_set_ne hj] at e2 q2
      cases e1
      cases q1
      exact ap w1 l rfl j2 y2 u2 (Ne.symm hj) e2 w2 q2
    · rw [List.getElem?_set_ne g1] at e1 q1
      by_cases g2 : i = j2
      · subst g2
        rw [List.getElem?_set_self hl] at e2
        rw [List.getElem?_set_self hσ] at q2
        cases e2
        cases q2
        exact ap w2 l rfl j1 y1 u1 hj e1 w1 q1
      · rw [List.getElem?_set_ne g2] at e2 q2
        exact A.apart j1 j2 l y1 y2 u1 u2 hj e1 w1 q1 e2 w2 q2
theorem At.putD (A : At B F σ H env) {i : Nat} {v : V} {d : Dt} (h : env[i]? = some (x, s)) (r : Rep B.X.K F v d) : At B F (σ.set i (some v)) H (env.set i (x, .dat d)) :=
  A.put h ⟨v, rfl, r⟩ fun z => nomatch z
theorem At.putU (A : At B F σ H env) {i : Nat} {o : Option V} (h : env[i]? = some (x, s)) : At B F (σ.set i o) H (env.set i (x, .un)) :=
  A.put h trivial fun z => nomatch z
/-- a slot's description replaced, the value as it is -/
theorem At.re (A : At B F σ H env) {i : Nat} {t : SD} {o : Option V} (h : env[i]? = some (x, s)) (ho : σ[i]? = some o) (k : SlotOk B.X.K B.H0 F H o t) (w : t.owns = true → s.owns = true) : At B F σ H (env.set i (x, t)) := by
  have q := A.put (t := t) (o := o) h k fun z l e j y u hj e1 w1 q1 => by
    subst e
    exact A.apart j i l y x u s hj e1 w1 q1 h (w z) ho
  have e : σ.set i o = σ := by
    apply List.ext_getElem?
    intro j
    rw [List.getElem?_set]
    by_cases hj : i = j
    · subst hj
      rw [if_pos rfl, if_pos (List.getElem?_eq_some_iff.mp ho).1, ho]
    · rw [if_neg hj]
  rw [e] at q
  exact q
/-- one's own list becomes data -/
theorem At.frz (A : At B F σ H env) {i : Nat} {ds : List Dt} (h : env[i]? = some (x, .own ds)) : ∃ l vs, σ[i]? = some (some (.ref l)) ∧ F l = none ∧ B.H0 l = none ∧ H l = some (.lst vs) ∧ RepL B.X.K F vs ds ∧
    At B (upd F l (.lst vs)) σ H (env.set i (x, .dat (.lst ds))) := by
  obtain ⟨o, ho, l, vs, e, h0, f, hl, r⟩ := A.ok i x _ h
  subst e
  have g : Gr B.F0 B.H0 (upd F l (.lst vs)) H := ⟨A.g.f.trans (.new f), fun a u z => by
      by_cases q : a = l
      · subst q
        rw [upd_same] at z
        rw [hl]
        exact z
      · rw [upd_ne q] at z
        exact A.g.fh a u z, A.g.h, fun a u z n => by
      by_cases q : a = l
      · subst q
        exact h0
      · rw [upd_ne q] at z
        exact A.g.new a u z n⟩
  have ex : Ex F (upd F l (.lst vs)) := .new f
  -- the other slots at the larger part
  have A1 : At B F σ H (env.set i (x, .un)) := A.re h ho trivial fun z => nomatch z
  have hl' : i < env.length := (List.getElem?_eq_some_iff.mp h).1
  have A2 : At B (upd F l (.lst vs)) σ H (env.set i (x, .un)) := ⟨A1.names, A1.len, g, fun j y u e => by
      obtain ⟨o', h1, h2⟩ := A1.ok j y u e
      refine ⟨o', h1, ?_⟩
      have nl : ∀ l', u.owns = true → o' = some (.ref l') → l' ≠ l := fun l' w e' z => by
        subst z
        subst e'
        by_cases hj : i = j
        · subst hj
          rw [List.getElem?_set_self hl'] at e
          cases e
          cases w
        · rw [List.getElem?_set_ne hj] at e
          exact A.apart i j l' x y _ u hj h rfl ho e w h1
      cases u with
      | un => trivial
      | dat d =>
        obtain ⟨v, e1, r1⟩ := h2
        exact ⟨v, e1, r1.mono ex⟩
      | own es =>
        obtain ⟨l1, vs1, e1, a0, a1, a2, a3⟩ := h2
        exact ⟨l1, vs1, e1, a0, by rw [upd_ne (nl l1 rfl e1)]; exact a1, a2, a3.mono ex⟩
      | slf l1 C fs =>
        obtain ⟨dx, vs1, e1, a0, a1, a2, a3⟩ := h2
        exact ⟨dx, vs1, e1, a0, by rw [upd_ne (nl l1 rfl e1)]; exact a1, a2, a3.mono ex⟩, A1.apart⟩
  have A3 := A2.re (i := i) (s := .un) (t := .dat (.lst ds)) (x := x) (o := some (.ref l)) (by rw [List.getElem?_set_self hl']) ho ⟨_, rfl, .lst upd_same (r.mono ex)⟩ fun z => nomatch z
  rw [List.set_set] at A3
  exact ⟨l, vs, ho, f, h0, hl, r, A3⟩
/-- a cell that nobody here owns is written -/
theorem At.foreign (A : At B F σ H env) {p : Addr} {o : HO} (f : F p = none) (h0 : B.H0 p = none)
    (ap : ∀ (j : Nat) (y : Str) (u : SD), env[j]? = some (y, u) → u.owns = true → σ[j]? = some (some (.ref p)) → False) : At B F σ (upd H p o) env :=
  ⟨A.names, A.len, ⟨A.g.f, A.g.fh.mut f, A.g.h.mut h0, A.g.new⟩, fun i x s h => by
    obtain ⟨o', h1, h2⟩ := A.ok i x s h
    refine ⟨o', h1, ?_⟩
    have nl : ∀ l, s.owns = true → o' = some (.ref l) → l ≠ p := fun l w e z => by
      subst z
      subst e
      exact ap i x s h w h1
    cases s with
    | un => trivial
    | dat d => exact h2
    | own es =>
      obtain ⟨l1, vs1, e1, a0, a1, a2, a3⟩ := h2
      exact ⟨l1, vs1, e1, a0, a1, by rw [upd_ne (nl l1 rfl e1)]; exact a2, a3⟩
    | slf l1 C fs =>
      obtain ⟨dx, vs1, e1, a0, a1, a2, a3⟩ := h2
      exact ⟨dx, vs1, e1, a0, a1, by rw [upd_ne (nl l1 rfl e1)]; exact a2, a3⟩, A.apart⟩
/-- one's own list is written -/
theorem At.write (A : At B F σ H env) {i : Nat} {ds es : List Dt} {l : Addr} {vs : List V} (h : env[i]? = some (x, .own ds)) (hs : σ[i]? = some (some (.ref l))) (r : RepL B.X.K F vs es) :
    At B F σ (upd H l (.lst vs)) (env.set i (x, .own es)) := by
  obtain ⟨o, ho, l0, vs0, e, h0, f, hl, r0⟩ := A.ok i x _ h
  rw [hs] at ho
  cases ho
  cases e
  have hl' : i < env.length := (List.getElem?_eq_some_iff.mp h).1
  have A1 : At B F σ H (env.set i (x, .un)) := A.re h hs trivial fun z => nomatch z
  have A2 : At B F σ (upd H l (.lst vs)) (env.set i (x, .un)) := A1.foreign f h0 fun j y u e w q => by
    by_cases hj : i = j
    · subst hj
      rw [List.getElem?_set_self hl'] at e
      cases e
      cases w
    · rw [List.getElem?_set_ne hj] at e
      exact A.apart i j l x y _ u hj h rfl hs e w q
  have A3 := A2.put (i := i) (s := .un) (t := .own es) (x := x) (o := some (.ref l)) (by rw [List.getElem?_set_self hl']) ⟨l, vs, rfl, h0, f, upd_same, r⟩ fun _ l' e' j y u hj e1 w1 q1 => by
    cases e'
    rw [List.getElem?_set_ne (Ne.symm hj)] at e1
    exact A.apart i j l x y _ u (Ne.symm hj) h rfl hs e1 w1 q1
  rw [List.set_set] at A3
  have e : σ.set i (some (.ref l)) = σ := by
    apply List.ext_getElem?
    intro j
    rw [List.getElem?_set]
    by_cases hj : i = j
    · subst hj
      rw [if_pos rfl, if_pos (List.getElem?_eq_some_iff.mp hs).1, hs]
    · rw [if_neg hj]
  rw [e] at A3
  exact A3
/-- the instance that is being made is written -/
theorem At.writeI (A : At B F σ H env) {i : Nat} {C C' dx : Addr} {ds es : List (Str × Dt)} {l : Addr} {vs : List (Str × V)} (h : env[i]? = some (x, .slf l C ds)) (hs : σ[i]? = some (some (.ref l))) (r : RepF B.X.K F vs es) :
    At B F σ (upd H l (.ins C' dx vs)) (env.set i (x, .slf l C' es)) := by
  obtain ⟨o, ho, dx0, vs0, e, h0, f, hl, r0⟩ := A.ok i x _ h
  have hl' : i < env.length := (List.getElem?_eq_some_iff.mp h).1
  have A1 : At B F σ H (env.set i (x, .un)) := A.re h hs trivial fun z => nomatch z
  have A2 : At B F σ (upd H l (.ins C' dx vs)) (env.set i (x, .un)) := A1.foreign f h0 fun j y u e w q => by
    by_cases hj : i = j
    · subst hj
      rw [List.getElem?_set_self hl'] at e
      cases e
      cases w
    · rw [List.getElem?_set_ne hj] at e
      exact A.apart i j l x y _ u hj h rfl hs e w q
  have A3 := A2.put (i := i) (s := .un) (t := .slf l C' es) (x := x) (o := some (.ref l)) (by rw [List.getElem?_set_self hl']) ⟨dx, vs, rfl, h0, f, upd_same, r⟩ fun _ l' e' j y u hj e1 w1 q1 => by
    cases e'
    rw [List.getElem?_set_ne (Ne.symm hj)] at e1
    exact A.apart i j l x y _ u (Ne.symm hj) h rfl hs e1 w1 q1
  rw [List.set_set] at A3
  have e : σ.set i (some (.ref l)) = σ := by
    apply List.ext_getElem?
    intro j
    rw [List.getElem?_set]
    by_cases hj : i = j
    · subst hj
      rw [if_pos rfl, if_pos (List.getElem?_eq_some_iff.mp hs).1, hs]
    · rw [if_neg hj]
  rw [e] at A3
  exact A3
end

/-! ### names, constants -/
section
variable {B : Bd} {env : Env'} {x : Str} {pos : Pos} {Φ : PD} {f : SD → Env'} {d : Dt}
theorem post_now {K : PySem.W.Frag} {F H : Hp} {v : V} (e : Ex F H) (r : Rep K F v d) (q : Φ d) : post K F H Φ v H := ⟨F, d, .refl e, r, q⟩
theorem we_name (hp : Pl env x (.dat d) f) (q : Φ d) (hv : Vis B.X.env.scope x := by first | exact Or.inl rfl | exact Or.inr (Or.inl rfl) | exact Or.inr (Or.inr rfl)) (hd : (x == ("__debug__" : Str)) = false := by decide)
    (hcd : (x == ("__classdict__" : Str)) = false := by decide) : WE B (.Name x pos) env Φ := .mk fun F σ H A => by
  obtain ⟨i, h, _⟩ := hp.ix
  obtain ⟨o, ho, v, e, r⟩ := A.ok i x _ h
  subst e
  exact re_of (pe_var (A.name h) hv hd hcd) ⟨v, ho, post_now A.ex r q⟩
theorem we_int {i j pos} (q : Φ (.int i)) : WE B (.Constant (.int i) j pos) env Φ := .mk fun F σ H A => re_of pe_int (post_now A.ex (.int i) q)
theorem we_bl {b j pos} (q : Φ (.bl b)) : WE B (.Constant (.bool b) j pos) env Φ := .mk fun F σ H A => re_of pe_bl (post_now A.ex (.bl b) q)
theorem we_non {j pos} (q : Φ .non) : WE B (.Constant .none j pos) env Φ := .mk fun F σ H A => re_of pe_non (post_now A.ex .non q)
theorem we_str {x j pos} (q : Φ (.str x)) : WE B (.Constant (.str x) j pos) env Φ := .mk fun F σ H A => re_of pe_str (post_now A.ex (.str x) q)
theorem we_gint {i : Int} {u : Value} (hg : Gl B.X x) (hm : B.X.mg x = some u) (r : RelV (.int i) u) (q : Φ (.int i)) (hd : (x == ("__debug__" : Str)) = false := by decide) : WE B (.Name x pos) env Φ := .mk fun F σ H A => re_of (pe_glob hg hm r hd) (post_now A.ex (.int i) q)
theorem we_gstr {i : Str} {u : Value} (hg : Gl B.X x) (hm : B.X.mg x = some u) (r : RelV (.str i) u) (q : Φ (.str i)) (hd : (x == ("__debug__" : Str)) = false := by decide) : WE B (.Name x pos) env Φ := .mk fun F σ H A => re_of (pe_glob hg hm r hd) (post_now A.ex (.str i) q)

/-- what does not lie in the heap -/
def flatD : Dt → Prop
  | .non => True
  | .bl _ => True
  | .int _ => True
  | .str _ => True
  | _ => False
theorem Rep.flat {K : PySem.W.Frag} {H H' : Hp} {v : V} (r : Rep K H v d) (f : flatD d) : Rep K H' v d := by
  cases r with
  | non => exact .non
  | bl b => exact .bl b
  | int b => exact .int b
  | str b => exact .str b
  | lst _ _ => cases f
  | tup _ _ => cases f
  | tupN _ _ _ => cases f
  | ins _ _ => cases f
  | dct _ => cases f
  | scr _ => cases f
/-- one's own list read while e is evaluated, its answer no part of it -/
theorem we_frz {e : Expr} {ds : List Dt} (hp : Pl env x (.own ds) f) (h : WE B e (f (.dat (.lst ds))) fun d => flatD d ∧ Φ d) : WE B e env Φ := .mk fun F σ H A => by
  obtain ⟨i, hi, hf⟩ := hp.ix
  obtain ⟨l, vs, hs, fl, h0, hl, r, A1⟩ := A.frz hi
  rw [← hf] at A1
  exact re_mono (h _ σ H A1) fun v H' ⟨F', d, g, r', fd, q⟩ => ⟨F, d, ⟨.refl F, A.ex.trans g.h, g.h, fun a u h n => by rw [h] at n; cases n⟩, r'.flat fd, q⟩
theorem wt_frz {e : Expr} {ds : List Dt} {Φ : Bool → Prop} (hp : Pl env x (.own ds) f) (h : WT B e (f (.dat (.lst ds))) Φ) : WT B e env Φ := .mk fun F σ H A => by
  obtain ⟨i, hi, hf⟩ := hp.ix
  obtain ⟨l, vs, hs, fl, h0, hl, r, A1⟩ := A.frz hi
  rw [← hf] at A1
  exact rt_mono (h _ σ H A1) fun v H' ⟨F', g, q⟩ => ⟨F, ⟨.refl F, A.ex.trans g.h, g.h, fun a u h n => by rw [h] at n; cases n⟩, q⟩
/-- one's own list is data from now on -/
theorem wb_frz {st : List Stmt} {ds : List Dt} {D : AE} (hp : Pl env x (.own ds) f) (h : WB B st (f (.dat (.lst ds))) D) : WB B st env D := .mk fun F σ H A => by
  obtain ⟨i, hi, hf⟩ := hp.ix
  obtain ⟨l, vs, hs, fl, h0, hl, r, A1⟩ := A.frz hi
  rw [← hf] at A1
  exact rb_ex (.new fl) (h _ σ H A1)
theorem ws_frz {st : Stmt} {ds : List Dt} {D : AE} (hp : Pl env x (.own ds) f) (h : WS B st (f (.dat (.lst ds))) D) : WS B st env D := .mk fun F σ H A => by
  obtain ⟨i, hi, hf⟩ := hp.ix
  obtain ⟨l, vs, hs, fl, h0, hl, r, A1⟩ := A.frz hi
  rw [← hf] at A1
  exact rs_ex (.new fl) (h _ σ H A1)
end

/-! ### statements -/
section
variable {B : Bd} {env : Env'} {D : AE} {st : Stmt} {rest : List Stmt} {e c : Expr} {x : Str} {pos pos' : Pos} {s : SD} {f : SD → Env'}
theorem wb_nil (h : D.nx env) : WB B [] env D := .mk fun F σ H A => rb_of pss_nil ⟨F, env, .refl F, A, h⟩
theorem wb_cons {nx : Env' → Prop} {rt : PD} {bk ct : Env' → Prop} (h : WS B st env ⟨fun env' => WB B rest env' ⟨nx, rt, bk, ct⟩, rt, bk, ct⟩) : WB B (st :: rest) env ⟨nx, rt, bk, ct⟩ := .mk fun F σ H A =>
  rb_of (pss_cons ps_re pss_re) (rs_mono (h F σ H A) (fun σ' H' ⟨F', env', e, A', q⟩ => rb_ex e (q F' σ' H' A')) (fun _ _ q => q) (fun _ _ q => q) fun _ _ q => q)
theorem ws_pass (h : D.nx env) : WS B (.Pass pos) env D := .mk fun F σ H A => rs_of ps_pass ⟨F, env, .refl F, A, h⟩
theorem ws_doc {x j pos pos'} (h : D.nx env) : WS B (.Expr (.Constant (.str x) j pos) pos') env D := .mk fun F σ H A => rs_of ps_doc ⟨F, env, .refl F, A, h⟩
theorem ws_ret (h : WE B e env D.rt) : WS B (.Return (some e) pos) env D := .mk fun F σ H A =>
  rs_of (ps_ret pe_re) (re_mono (h F σ H A) fun v H' ⟨F', d, g, r, q⟩ => ⟨F', d, A.g.trans g, r, q⟩)
theorem ws_retN (h : D.rt .non) : WS B (.Return none pos) env D := .mk fun F σ H A => rs_of ps_retN ⟨F, .non, A.g, .non, h⟩
theorem ws_if {a b : List Stmt} (h : WT B c env fun k => if k = true then WB B a env D else WB B b env D) : WS B (.If c a b pos) env D := .mk fun F σ H A =>
  rs_of (ps_if pt_re pss_re pss_re) (rt_mono (h F σ H A) fun k H' ⟨F', g, q⟩ => by
    cases k with
    | true =>
      rw [if_pos rfl] at q
      show RB B.X a (toE B F D) σ H'
      exact rb_ex g.f (q F' σ H' (A.grow g))
    | false =>
      rw [if_neg Bool.false_ne_true] at q
      show RB B.X b (toE B F D) σ H'
      exact rb_ex g.f (q F' σ H' (A.grow g)))
theorem ws_asg (hp : Pl env x s f) (h : WE B e env fun d => D.nx (f (.dat d))) (nd : B.X.N.Nodup) (hx : Loc B.X.env.scope x := by first | exact Or.inl rfl | exact Or.inr rfl) (hs : swapsWith e (some (.Name x pos')) pos.line B.X.env = pure false := by rfl)
    (hf : B.X.fn x = true ∨ B.X.env.scope.names.lookup x = some .local := by first | exact .inl rfl | exact .inr rfl | assumption) : WS B (.Assign [.Name x pos'] e pos) env D := .mk fun F σ H A => by
  obtain ⟨i, hi, hfi⟩ := hp.ix
  refine rs_of (ps_set nd (A.name hi) hx pe_re hs hf) (re_mono (h F σ H A) fun v H' ⟨F', d, g, r, q⟩ => ?_)
  refine ⟨F', _, g.f, (A.grow g).putD hi r, ?_⟩
  rw [← hfi]
  exact q
theorem At.putL {F H F' H' : Hp} {σ : L2.St} {l : Addr} {vs : List V} {ds : List Dt} {i : Nat} (A : At B F σ H env) (h : env[i]? = some (x, s)) (g : Gr F H F' H') (n : H l = none) (f : F' l = none) (hl : H' l = some (.lst vs)) (r : RepL B.X.K F' vs ds) :
    At B F' (σ.set i (some (.ref l))) H' (env.set i (x, .own ds)) := by
  refine (A.grow g).put h ⟨l, vs, rfl, A.g.h.none n, f, hl, r⟩ fun _ l' e j y u _ e1 w1 q1 => ?_
  cases e
  obtain ⟨o, ho, k⟩ := A.ok j y u e1
  rw [q1] at ho
  cases ho
  cases u with
  | un => cases w1
  | dat _ => cases w1
  | own es =>
    obtain ⟨l1, vs1, e1, a0, a1, a2, a3⟩ := k
    cases e1
    rw [n] at a2
    cases a2
  | slf l1 C fs =>
    obtain ⟨dx, vs1, e1, a0, a1, a2, a3⟩ := k
    cases e1
    rw [n] at a2
    cases a2
theorem ws_asgL (hp : Pl env x s f) (h : WL B e env fun ds => D.nx (f (.own ds))) (nd : B.X.N.Nodup) (hx : Loc B.X.env.scope x := by first | exact Or.inl rfl | exact Or.inr rfl) (hs : swapsWith e (some (.Name x pos')) pos.line B.X.env = pure false := by rfl)
    (hf : B.X.fn x = true ∨ B.X.env.scope.names.lookup x = some .local := by first | exact .inl rfl | exact .inr rfl | assumption) : WS B (.Assign [.Name x pos'] e pos) env D := .mk fun F σ H A => by
  obtain ⟨i, hi, hfi⟩ := hp.ix
  refine rs_of (ps_set nd (A.name hi) hx pe_re hs hf) (re_mono (h F σ H A) fun v H' ⟨F', l, vs, ds, e, g, n, fl, hl, r, q⟩ => ?_)
  subst e
  refine ⟨F', _, g.f, A.putL hi g n fl hl r, ?_⟩
  rw [← hfi]
  exact q
theorem ws_expr (h : WE B e env fun _ => D.nx env) (hs : swapsWith e none pos.line B.X.env = pure false := by rfl) : WS B (.Expr e pos) env D := .mk fun F σ H A =>
  rs_of (ps_expr pe_re hs) (re_mono (h F σ H A) fun v H' ⟨F', d, g, r, q⟩ => ⟨F', env, g.f, A.grow g, q⟩)
/-- what the proof never comes to -/
theorem ws_never (h : False) : WS B st env D := h.elim
end

/-! ### operators -/
def RO (X : Cx) (f : Value → Value → Sem Value) : R2 := fun x y H Q => ∀ (pins : List (Addr × Obj)) (s : Shared) (σ : L2.St) (v u : Value), Inv X pins σ H s → RelV x v → RelV y u → wpAny (model X.prog X.w) X.A (f v u) (EP X pins σ Q) X.xe s
structure WO (B : Bd) (f : Value → Value → Sem Value) (x y : Dt) (Φ : PD) : Prop where
  mk ::
  run : ∀ F H vx vy, Ex F H → Rep B.X.K F vx x → Rep B.X.K F vy y → RO B.X f vx vy H (post B.X.K F H Φ)
instance (B : Bd) (f : Value → Value → Sem Value) (x y : Dt) (Φ : PD) : CoeFun (WO B f x y Φ) (fun _ => ∀ F H vx vy, Ex F H → Rep B.X.K F vx x → Rep B.X.K F vy y → RO B.X f vx vy H (post B.X.K F H Φ)) := ⟨WO.run⟩

section
variable {B : Bd} {env : Env'} {Φ : PD} {a b : Expr} {op : Operator} {cop : CmpOp} {pos : Pos}
theorem op_ro {X : Cx} {f : Value → Value → Sem Value} : OpR X f (RO X f) := fun pins s σ H x y v u Q I rx ry h => h pins s σ v u I rx ry
theorem ro_of {X : Cx} {f : Value → Value → Sem Value} {r : R2} (h : OpR X f r) {x y : V} {H : Hp} {Q : VK} (q : r x y H Q) : RO X f x y H Q := fun pins s σ v u I rx ry => h pins s σ H x y v u Q I rx ry q
theorem ro_mono {X : Cx} {f : Value → Value → Sem Value} {x y : V} {H : Hp} {Q Q' : VK} (h : RO X f x y H Q) (m : ∀ v H', Q v H' → Q' v H') : RO X f x y H Q' := fun pins s σ v u I rx ry =>
  thn (h pins s σ v u I rx ry) fun u s' ⟨v, H', I', r, q⟩ => ⟨v, H', I', r, m v H' q⟩
theorem we_two {f : Value → Value → Sem Value} (A : ∀ F σ H, At B F σ H env → RE B.X a σ H (post B.X.K F H fun x => WE B b env fun y => WO B f x y Φ)) :
    ∀ F σ H, At B F σ H env → tOp (RO B.X f) (RE B.X a) (RE B.X b) σ H (post B.X.K F H Φ) := fun F σ H h =>
  re_mono (A F σ H h) fun vx H1 ⟨F1, x, g1, r1, q1⟩ => re_mono (q1 F1 σ H1 (h.grow g1)) fun vy H2 ⟨F2, y, g2, r2, q2⟩ =>
    ro_mono (q2 F2 H2 vx vy g2.fh (r1.mono g2.f) r2) fun v H3 ⟨F3, d, g3, r3, q3⟩ => ⟨F3, d, (g1.trans g2).trans g3, r3, q3⟩
theorem we_bin (h : WE B a env fun x => WE B b env fun y => WO B (binaryOp op) x y Φ) : WE B (.BinOp a op b pos) env Φ := .mk fun F σ H A => re_of (pe_op op_ro pe_re pe_re) (we_two h F σ H A)
theorem we_cmp (h : WE B a env fun x => WE B b env fun y => WO B (compareOp cop) x y Φ) (hm : behindInMarks cop b = false := by first | exact nomark _ | rfl | with_unfolding_all rfl) : WE B (.Compare a [cop] [b] pos) env Φ := .mk fun F σ H A => re_of (pe_cmpR op_ro pe_re pe_re hm) (we_two h F σ H A)
theorem top_mono {X : Cx} {f : Value → Value → Sem Value} {a b : Expr} {σ : L2.St} {H : Hp} {Q Q' : VK} (h : tOp (RO X f) (RE X a) (RE X b) σ H Q) (m : ∀ v H', Q v H' → Q' v H') : tOp (RO X f) (RE X a) (RE X b) σ H Q' :=
  re_mono h fun _ _ h1 => re_mono h1 fun _ _ h2 => ro_mono h2 m
theorem wt_cmp {Φ : Bool → Prop} (h : WE B a env fun x => WE B b env fun y => WO B (compareOp cop) x y fun d => ∃ k, d = .bl k ∧ Φ k) (hm : behindInMarks cop b = false := by first | exact nomark _ | rfl | with_unfolding_all rfl) : WT B (.Compare a [cop] [b] pos) env Φ := .mk fun F σ H A =>
  rt_of (pt_cmpR op_ro pe_re pe_re hm) (top_mono (we_two h F σ H A) fun v H' ⟨F', d, g, r, k, e, q⟩ => by
    subst e
    cases r
    exact ⟨k, rfl, F', g, q⟩)
/-- a test that is an expression of a truth value -/
theorem wt_val {e : Expr} {Φ : Bool → Prop} (h : WE B e env fun d => ∃ k, d = .bl k ∧ Φ k) (he : ∀ whole, isTrue e B.X.env whole = (do let v ← whole; standAt e.pos; holding [v] (truthy v)) := by intro _; rfl) : WT B e env Φ := .mk fun F σ H A =>
  rt_of (pt_val pe_re he) (re_mono (h F σ H A) fun v H' ⟨F', d, g, r, k, e, q⟩ => by
    subst e
    cases r
    exact ⟨k, rfl, F', g, q⟩)
theorem wt_not {c : Expr} {Φ : Bool → Prop} (h : WT B c env fun k => Φ (!k)) : WT B (.UnaryOp .Not c pos) env Φ := .mk fun F σ H A => rt_of (pt_not pt_re) (rt_mono (h F σ H A) fun k H' q => q)
def RW' (X : Cx) (e : Expr) : TT := fun σ H Q => ∀ whole pins s, Inv X pins σ H s → wpAny (model X.prog X.w) X.A (isTrue e X.env whole) (TP X pins σ Q) X.xe s
theorem pw_rw {X : Cx} {e : Expr} : PW X e (RW' X e) := ⟨fun whole pins s σ H Q I h => h whole pins s I⟩
/-- and, or as tests: whatever the whole is -/
structure WW (B : Bd) (e : Expr) (env : Env') (Φ : Bool → Prop) : Prop where
  mk ::
  run : ∀ F σ H, At B F σ H env → RW' B.X e σ H (postT F H Φ)
instance (B : Bd) (e : Expr) (env : Env') (Φ : Bool → Prop) : CoeFun (WW B e env Φ) (fun _ => ∀ F σ H, At B F σ H env → RW' B.X e σ H (postT F H Φ)) := ⟨WW.run⟩

theorem rw_of {X : Cx} {e : Expr} {t : TT} (h : PW X e t) {σ : L2.St} {H : Hp} {Q : Bool → Hp → Prop} (q : t σ H Q) : RW' X e σ H Q := fun whole pins s I => h.run whole pins s σ H Q I q
theorem rw_mono {X : Cx} {e : Expr} {σ : L2.St} {H : Hp} {Q Q' : Bool → Hp → Prop} (h : RW' X e σ H Q) (m : ∀ v H', Q v H' → Q' v H') : RW' X e σ H Q' := fun whole pins s I =>
  thn (h whole pins s I) fun u s' ⟨H', I', q⟩ => ⟨H', I', m _ H' q⟩
theorem wt_ww {e : Expr} {Φ : Bool → Prop} (h : WW B e env Φ) : WT B e env Φ := .mk fun F σ H A => rt_of pw_rw.pt (h F σ H A)
theorem ww_and1 {Φ : Bool → Prop} (h : WT B a env Φ) : WW B (.BoolOp .And [a] pos) env Φ := .mk fun F σ H A => rw_of (pw_and1 pt_re) (h F σ H A)
theorem ww_or1 {Φ : Bool → Prop} (h : WT B a env Φ) : WW B (.BoolOp .Or [a] pos) env Φ := .mk fun F σ H A => rw_of (pw_or1 pt_re) (h F σ H A)
theorem ww_and {rest : List Expr} {Φ : Bool → Prop} (h : WT B a env fun k => if k = true then WW B (.BoolOp .And (b :: rest) pos) env Φ else Φ false) : WW B (.BoolOp .And (a :: b :: rest) pos) env Φ := .mk fun F σ H A =>
  rw_of (pw_and pt_re pw_rw) (rt_mono (h F σ H A) fun k H' ⟨F', g, q⟩ => by
    cases k with
    | true =>
      rw [if_pos rfl] at q
      show RW' B.X _ σ H' _
      exact rw_mono (q F' σ H' (A.grow g)) fun k2 H2 ⟨F2, g2, q2⟩ => ⟨F2, g.trans g2, q2⟩
    | false =>
      rw [if_neg Bool.false_ne_true] at q
      exact ⟨F', g, q⟩)
theorem ww_or {rest : List Expr} {Φ : Bool → Prop} (h : WT B a env fun k => if k = true then Φ true else WW B (.BoolOp .Or (b :: rest) pos) env Φ) : WW B (.BoolOp .Or (a :: b :: rest) pos) env Φ := .mk fun F σ H A =>
  rw_of (pw_or pt_re pw_rw) (rt_mono (h F σ H A) fun k H' ⟨F', g, q⟩ => by
    cases k with
    | true =>
      rw [if_pos rfl] at q
      exact ⟨F', g, q⟩
    | false =>
      rw [if_neg Bool.false_ne_true] at q
      show RW' B.X _ σ H' _
      exact rw_mono (q F' σ H' (A.grow g)) fun k2 H2 ⟨F2, g2, q2⟩ => ⟨F2, g.trans g2, q2⟩)
/-- and, or, not as values -/
theorem we_one {bop} (h : WE B a env Φ) : WE B (.BoolOp bop [a] pos) env Φ := .mk fun F σ H A => re_of (pe_one pe_re) (h F σ H A)
theorem we_and {rest : List Expr} (h : WE B a env fun d => ∃ k, d = .bl k ∧ (if k = true then WE B (.BoolOp .And (b :: rest) pos) env Φ else Φ (.bl false))) : WE B (.BoolOp .And (a :: b :: rest) pos) env Φ := .mk fun F σ H A =>
  re_of (pe_and pe_re pe_re) (re_mono (h F σ H A) fun v H' ⟨F', d, g, r, k, e, q⟩ => by
    subst e
    cases r
    refine ⟨k, rfl, ?_⟩
    cases k with
    | true =>
      rw [if_pos rfl] at q ⊢
      exact re_mono (q F' σ H' (A.grow g)) fun k2 H2 ⟨F2, d2, g2, r2, q2⟩ => ⟨F2, d2, g.trans g2, r2, q2⟩
    | false =>
      rw [if_neg Bool.false_ne_true] at q ⊢
      exact ⟨F', _, g, .bl false, q⟩)
theorem we_or {rest : List Expr} (h : WE B a env fun d => ∃ k, d = .bl k ∧ (if k = true then Φ (.bl true) else WE B (.BoolOp .Or (b :: rest) pos) env Φ)) : WE B (.BoolOp .Or (a :: b :: rest) pos) env Φ := .mk fun F σ H A =>
  re_of (pe_or pe_re pe_re) (re_mono (h F σ H A) fun v H' ⟨F', d, g, r, k, e, q⟩ => by
    subst e
    cases r
    refine ⟨k, rfl, ?_⟩
    cases k with
    | false =>
      rw [if_neg Bool.false_ne_true] at q ⊢
      exact re_mono (q F' σ H' (A.grow g)) fun k2 H2 ⟨F2, d2, g2, r2, q2⟩ => ⟨F2, d2, g.trans g2, r2, q2⟩
    | true =>
      rw [if_pos rfl] at q ⊢
      exact ⟨F', _, g, .bl true, q⟩)
theorem we_not (h : WE B a env fun d => ∃ k, d = .bl k ∧ Φ (.bl (!k))) : WE B (.UnaryOp .Not a pos) env Φ := .mk fun F σ H A =>
  re_of (pe_not pe_re) (re_mono (h F σ H A) fun v H' ⟨F', d, g, r, k, e, q⟩ => by
    subst e
    cases r
    exact ⟨k, rfl, F', _, g, .bl _, q⟩)
theorem we_ifx {c : Expr} (h : WT B c env fun k => if k = true then WE B a env Φ else WE B b env Φ) : WE B (.IfExp c a b pos) env Φ := .mk fun F σ H A =>
  re_of (pe_ifExp pt_re pe_re pe_re) (rt_mono (h F σ H A) fun k H' ⟨F', g, q⟩ => by
    cases k with
    | true =>
      rw [if_pos rfl] at q
      show RE B.X a σ H' _
      exact re_mono (q F' σ H' (A.grow g)) fun k2 H2 ⟨F2, d2, g2, r2, q2⟩ => ⟨F2, d2, g.trans g2, r2, q2⟩
    | false =>
      rw [if_neg Bool.false_ne_true] at q
      show RE B.X b σ H' _
      exact re_mono (q F' σ H' (A.grow g)) fun k2 H2 ⟨F2, d2, g2, r2, q2⟩ => ⟨F2, d2, g.trans g2, r2, q2⟩)
theorem we_neg (h : WE B a env fun d => ∃ i, d = .int i ∧ Φ (.int (-i))) : WE B (.UnaryOp .USub a pos) env Φ := .mk fun F σ H A =>
  re_of (pe_un un_neg pe_re) (re_mono (h F σ H A) fun v H' ⟨F', d, g, r, i, e, q⟩ => by
    subst e
    cases r
    exact ⟨i, rfl, F', _, g, .int _, q⟩)
end
end Fw
namespace Fw
open PySem PySem.Spec L2

/-! ### operators on data -/
section
variable {B : Bd} {Φ : PD} {i j : Int} {x y : Str}
theorem wo_of {f : Value → Value → Sem Value} {r : R2} (ho : OpR B.X f r) {a b : Dt} (h : ∀ F H vx vy, Ex F H → Rep B.X.K F vx a → Rep B.X.K F vy b → r vx vy H (post B.X.K F H Φ)) : WO B f a b Φ := .mk fun F H vx vy e r1 r2 => ro_of ho (h F H vx vy e r1 r2)
theorem wo_I0 {f : Value → Value → Sem Value} {g : Int → Int → V} {d : Dt} (ho : OpR B.X f (rI0 g)) (hg : ∀ (K : PySem.W.Frag) (F : Hp), Rep K F (g i j) d) (q : Φ d) : WO B f (.int i) (.int j) Φ := wo_of ho fun F H vx vy e r1 r2 => by
  cases r1
  cases r2
  exact ⟨i, j, rfl, rfl, post_now e (hg _ _) q⟩
theorem wo_I {f : Value → Value → Sem Value} {C : Int → Int → Prop} {g : Int → Int → V} {d : Dt} (ho : OpR B.X f (rI C g)) (hc : C i j) (hg : ∀ (K : PySem.W.Frag) (F : Hp), Rep K F (g i j) d) (q : Φ d) : WO B f (.int i) (.int j) Φ := wo_of ho fun F H vx vy e r1 r2 => by
  cases r1
  cases r2
  exact ⟨i, j, rfl, rfl, hc, post_now e (hg _ _) q⟩
theorem wo_add (q : Φ (.int (i + j))) : WO B (binaryOp .Add) (.int i) (.int j) Φ := wo_I0 op_add (fun _ _ => .int _) q
theorem wo_sub (q : Φ (.int (i - j))) : WO B (binaryOp .Sub) (.int i) (.int j) Φ := wo_I0 op_sub (fun _ _ => .int _) q
theorem wo_mul (hc : CMul i j) (q : Φ (.int (i * j))) : WO B (binaryOp .Mult) (.int i) (.int j) Φ := wo_I op_mul hc (fun _ _ => .int _) q
theorem wo_fdiv (hc : CDiv i j) (q : Φ (.int (i / j))) : WO B (binaryOp .FloorDiv) (.int i) (.int j) Φ := wo_I op_fdiv hc (fun _ _ => .int _) q
theorem wo_mod (hc : 0 < j) (q : Φ (.int (i % j))) : WO B (binaryOp .Mod) (.int i) (.int j) Φ := wo_I op_mod hc (fun _ _ => .int _) q
theorem wo_pow (hc : CPow i j) (q : Φ (.int (i ^ j.toNat))) : WO B (binaryOp .Pow) (.int i) (.int j) Φ := wo_I op_pow hc (fun _ _ => .int _) q
theorem wo_lt (q : Φ (.bl (decide (i < j)))) : WO B (compareOp .Lt) (.int i) (.int j) Φ := wo_I0 op_lt (fun _ _ => .bl _) q
theorem wo_le (q : Φ (.bl (decide (i ≤ j)))) : WO B (compareOp .LtE) (.int i) (.int j) Φ := wo_I0 op_le (fun _ _ => .bl _) q
theorem wo_gt (q : Φ (.bl (decide (j < i)))) : WO B (compareOp .Gt) (.int i) (.int j) Φ := wo_I0 op_gt (fun _ _ => .bl _) q
theorem wo_ge (q : Φ (.bl (decide (j ≤ i)))) : WO B (compareOp .GtE) (.int i) (.int j) Φ := wo_I0 op_ge (fun _ _ => .bl _) q
theorem wo_eq (q : Φ (.bl (decide (i = j)))) : WO B (compareOp .Eq) (.int i) (.int j) Φ := wo_of op_eq fun F H vx vy e r1 r2 => by
  cases r1
  cases r2
  refine ⟨rfl, post_now e (.bl _) ?_⟩
  have z : decide (V.int i = V.int j) = decide (i = j) := by rw [dec_int, Bool.beq_eq_decide_eq]
  rw [z]
  exact q
theorem wo_ne (q : Φ (.bl (!decide (i = j)))) : WO B (compareOp .NotEq) (.int i) (.int j) Φ := wo_of op_ne fun F H vx vy e r1 r2 => by
  cases r1
  cases r2
  refine ⟨rfl, post_now e (.bl _) ?_⟩
  have z : decide (V.int i = V.int j) = decide (i = j) := by rw [dec_int, Bool.beq_eq_decide_eq]
  rw [z]
  exact q
theorem wo_eqS (q : Φ (.bl (decide (x = y)))) : WO B (compareOp .Eq) (.str x) (.str y) Φ := wo_of op_eq fun F H vx vy e r1 r2 => by
  cases r1
  cases r2
  refine ⟨rfl, post_now e (.bl _) ?_⟩
  have z : decide (V.str x = V.str y) = decide (x = y) := by rw [dec_str, Bool.beq_eq_decide_eq]
  rw [z]
  exact q
theorem wo_neB {a b : Bool} (q : Φ (.bl (!decide (a = b)))) : WO B (compareOp .NotEq) (.bl a) (.bl b) Φ := wo_of op_ne fun F H vx vy e r1 r2 => by
  cases r1
  cases r2
  refine ⟨rfl, post_now e (.bl _) ?_⟩
  have z : decide (V.bl a = V.bl b) = decide (a = b) := by rw [dec_bl, Bool.beq_eq_decide_eq]
  rw [z]
  exact q
def isN : Dt → Bool
  | .non => true
  | _ => false
theorem isN_rep {K : PySem.W.Frag} {F : Hp} {v : V} {d : Dt} (r : Rep K F v d) : decide (v = V.non) = isN d := by
  cases r <;> first | rfl | (apply decide_eq_false; intro z; cases z)
theorem wo_is {d : Dt} (q : Φ (.bl (isN d))) : WO B (compareOp .Is) d .non Φ := wo_of op_isN fun F H vx vy e r1 r2 => by
  cases r2
  refine ⟨rfl, post_now e (.bl _) ?_⟩
  rw [isN_rep r1]
  exact q
theorem wo_isnt {d : Dt} (q : Φ (.bl (!isN d))) : WO B (compareOp .IsNot) d .non Φ := wo_of op_notN fun F H vx vy e r1 r2 => by
  cases r2
  refine ⟨rfl, post_now e (.bl _) ?_⟩
  rw [isN_rep r1]
  exact q
theorem wo_addS (hz : x.length + y.length ≤ sizeLine) (q : Φ (.str (x ++ y))) : WO B (binaryOp .Add) (.str x) (.str y) Φ := wo_of op_add_str fun F H vx vy e r1 r2 => by
  cases r1
  cases r2
  exact ⟨x, y, rfl, rfl, hz, post_now e (.str _) q⟩
theorem wo_inC {c : Nat} (q : Φ (.bl (decide (c ∈ y.cps.toList)))) : WO B (compareOp .In) (.str ⟨#[c]⟩) (.str y) Φ := wo_of op_in_sign fun F H vx vy e r1 r2 => by
  cases r1
  cases r2
  exact ⟨c, y, rfl, rfl, post_now e (.bl _) q⟩

/-- lists and tuples -/
def SeqD (d : Dt) (ds : List Dt) : Prop := d = .lst ds ∨ ∃ nd, d = .tup nd ds
theorem SeqD.l {ds : List Dt} : SeqD (.lst ds) ds := .inl rfl
theorem SeqD.t {nd : Bool} {ds : List Dt} : SeqD (.tup nd ds) ds := .inr ⟨nd, rfl⟩
theorem Rep.seq {K : PySem.W.Frag} {F H : Hp} {v : V} {d : Dt} {ds : List Dt} (r : Rep K F v d) (s : SeqD d ds) (e : Ex F H) : ∃ p vs, v = .ref p ∧ (SqL K H p vs ∨ SqT K H p vs) ∧ RepL K F vs ds := by
  rcases s with rfl | ⟨nd, rfl⟩
  · cases r with
    | lst h r => exact ⟨_, _, rfl, .inl (SqL.of (e _ _ h)), r⟩
  · cases r with
    | tup h r => exact ⟨_, _, rfl, .inr (.inl (ex_rd e h)), r⟩
    | tupN h _ r => exact ⟨_, _, rfl, .inr (.inl (.inr ⟨_, e _ _ h⟩)), r⟩
theorem Rep.tupS {K : PySem.W.Frag} {F H : Hp} {v : V} {nd : Bool} {ds : List Dt} (r : Rep K F v (.tup nd ds)) (e : Ex F H) : ∃ p vs, v = .ref p ∧ SqT K H p vs ∧ RepL K F vs ds := by
  cases r with
  | tup h r => exact ⟨_, _, rfl, .inl (ex_rd e h), r⟩
  | tupN h _ r => exact ⟨_, _, rfl, .inl (.inr ⟨_, e _ _ h⟩), r⟩
theorem Rep.lstS {K : PySem.W.Frag} {F H : Hp} {v : V} {ds : List Dt} (r : Rep K F v (.lst ds)) (e : Ex F H) : ∃ p vs, v = .ref p ∧ H p = some (.lst vs) ∧ RepL K F vs ds := by
  cases r with
  | lst h r => exact ⟨_, _, rfl, e _ _ h, r⟩
/-- t + u, u not empty -/
theorem wo_addT {n1 n2 : Bool} {ds es : List Dt} (h1 : ds ≠ []) (h2 : es ≠ []) (hz : ds.length + es.length ≤ sizeLine) (q : Φ (.tup false (ds ++ es))) : WO B (binaryOp .Add) (.tup n1 ds) (.tup n2 es) Φ := wo_of op_catT fun F H vx vy e r1 r2 => by
  obtain ⟨p, vs, rfl, hp, r1⟩ := r1.tupS e
  obtain ⟨p2, ws, rfl, hp2, r2⟩ := r2.tupS e
  refine ⟨p, p2, vs, ws, rfl, rfl, hp, hp2, fun z => ?_, by rw [r1.length, r2.length]; exact hz, fun z => ?_, fun _ l hl => ?_⟩
  · subst z
    cases r1
    exact h1 rfl
  · subst z
    cases r2
    exact (h2 rfl).elim
  · exact ⟨_, _, Gr.lay e hl, .tup (.inl upd_same) ((r1.append r2).mono (.new (e.none hl))), q⟩
def flatB' : Dt → Bool
  | .non => true
  | .bl _ => true
  | .int _ => true
  | .str _ => true
  | _ => false
def eqF : Dt → Dt → Bool
  | .non, .non => true
  | .bl a, .bl b => a == b
  | .bl p, .int i => (if p then 1 else 0) == i
  | .int i, .bl p => i == (if p then 1 else 0)
  | .int a, .int b => a == b
  | .str a, .str b => a == b
  | _, _ => false
theorem flat_rep {K : PySem.W.Frag} {F : Hp} {v : V} {d : Dt} (r : Rep K F v d) (h : flatB' d = true) : flatV v = true := by
  cases r <;> first | rfl | cases h
theorem eqF_rep {K : PySem.W.Frag} {F : Hp} {v w : V} {d c : Dt} (r : Rep K F v d) (r2 : Rep K F w c) (h : flatB' d = true) (h2 : flatB' c = true) : eqV v w = eqF d c := by
  cases r <;> first | (cases h; done) | (cases r2 <;> first | rfl | cases h2)
def inF (x : Dt) (ds : List Dt) : Bool := ds.any fun y => eqF y x
theorem flats_rep {K : PySem.W.Frag} {F : Hp} : ∀ {vs : List V} {ds : List Dt}, RepL K F vs ds → ds.all flatB' = true → vs.all flatV = true
  | _, _, .nil, _ => rfl
  | _, _, .cons h r, f => by
    rw [List.all_cons, Bool.and_eq_true] at f ⊢
    exact ⟨flat_rep h f.1, flats_rep r f.2⟩
theorem inF_rep {K : PySem.W.Frag} {F : Hp} {v : V} {d : Dt} (r0 : Rep K F v d) (h0 : flatB' d = true) : ∀ {vs : List V} {ds : List Dt}, RepL K F vs ds → ds.all flatB' = true → inV v vs = inF d ds
  | _, _, .nil, _ => rfl
  | _, _, .cons h r, f => by
    rw [List.all_cons, Bool.and_eq_true (a := flatB' _)] at f
    have ih := inF_rep r0 h0 r f.2
    unfold inV inF at ih ⊢
    rw [List.any_cons, List.any_cons, ih, eqF_rep h r0 f.1 h0]
theorem wo_in {d c : Dt} {ds : List Dt} (s : SeqD c ds) (h0 : flatB' d = true) (h1 : ds.all flatB' = true) (q : Φ (.bl (inF d ds))) : WO B (compareOp .In) d c Φ := wo_of op_in_seq fun F H vx vy e r1 r2 => by
  obtain ⟨p, vs, rfl, hp, r2⟩ := r2.seq s e
  refine ⟨p, vs, rfl, hp, flat_rep r1 h0, flats_rep r2 h1, post_now e (.bl _) ?_⟩
  rw [inF_rep r1 h0 r2 h1]
  exact q
theorem wo_nin {d c : Dt} {ds : List Dt} (s : SeqD c ds) (h0 : flatB' d = true) (h1 : ds.all flatB' = true) (q : Φ (.bl (!inF d ds))) : WO B (compareOp .NotIn) d c Φ := wo_of op_notIn_seq fun F H vx vy e r1 r2 => by
  obtain ⟨p, vs, rfl, hp, r2⟩ := r2.seq s e
  refine ⟨p, vs, rfl, hp, flat_rep r1 h0, flats_rep r2 h1, post_now e (.bl _) ?_⟩
  rw [inF_rep r1 h0 r2 h1]
  exact q
theorem inF_str {x : Str} {xs : List Str} : inF (.str x) (xs.map .str) = decide (x ∈ xs) := by
  unfold inF
  induction xs with
  | nil => rfl
  | cons y ys ih =>
    rw [List.map_cons, List.any_cons, ih]
    show ((y == x) || decide (x ∈ ys)) = decide (x ∈ y :: ys)
    by_cases h : y = x
    · subst h
      simp
    · have e1 : (y == x) = false := by simpa using h
      rw [e1, Bool.false_or]
      have : (x ∈ y :: ys) ↔ x ∈ ys := by
        rw [List.mem_cons]
        exact ⟨fun z => z.elim (fun z => absurd z.symm h) id, .inr⟩
      exact decide_eq_decide.mpr this.symm
theorem inF_int {x : Int} {xs : List Int} : inF (.int x) (xs.map .int) = decide (x ∈ xs) := by
  unfold inF
  induction xs with
  | nil => rfl
  | cons y ys ih =>
    rw [List.map_cons, List.any_cons, ih]
    show ((y == x) || decide (x ∈ ys)) = decide (x ∈ y :: ys)
    by_cases h : y = x
    · subst h
      simp
    · have e1 : (y == x) = false := by simpa using h
      rw [e1, Bool.false_or]
      have : (x ∈ y :: ys) ↔ x ∈ ys := by
        rw [List.mem_cons]
        exact ⟨fun z => z.elim (fun z => absurd z.symm h) id, .inr⟩
      exact decide_eq_decide.mpr this.symm
theorem flats_str (xs : List Str) : (xs.map Dt.str).all flatB' = true := by
  rw [List.all_map]
  exact List.all_eq_true.mpr fun _ _ => rfl
theorem flats_int (xs : List Int) : (xs.map Dt.int).all flatB' = true := by
  rw [List.all_map]
  exact List.all_eq_true.mpr fun _ _ => rfl
end

/-! ### data as the library's -/
def toPy : Dt → PyData
  | .non => .none
  | .bl b => .bool b
  | .int i => .int i
  | .str x => .str x
  | .lst xs => .list (go xs)
  | .tup _ xs => .tuple (go xs)
  | .ins _ _ => .none
  | .dct _ => .none
  | .scr _ => .none
where go : List Dt → List PyData
  | [] => []
  | x :: xs => toPy x :: go xs
theorem toPy_go : ∀ xs : List Dt, toPy.go xs = xs.map toPy
  | [] => rfl
  | x :: xs => by rw [toPy.go, toPy_go xs, List.map_cons]
/-- nested at most n deep, no objects -/
def okD : Nat → Dt → Bool
  | _, .non => true
  | _, .bl _ => true
  | _, .int _ => true
  | _, .str x => PyData.strOk x
  | n + 1, .lst xs => xs.all (okD n)
  | n + 1, .tup _ xs => xs.all (okD n)
  | _, _ => false
theorem canLays_of {ps : List PyData} (h : ∀ p ∈ ps, p.canLay0 = true) : PyData.canLayAll0 ps = true := by
  induction ps with
  | nil => simp [PyData.canLayAll0]
  | cons p ps ih =>
    simp only [PyData.canLayAll0]
    rw [h p List.mem_cons_self, ih fun q hq => h q (List.mem_cons_of_mem _ hq)]
    rfl
theorem depths_of {ps : List PyData} {n : Nat} (h : ∀ p ∈ ps, p.depth ≤ n) : PyData.depthAll ps ≤ n := by
  induction ps with
  | nil => simp [PyData.depthAll]
  | cons p ps ih =>
    have h1 := h p List.mem_cons_self
    have h2 := ih fun q hq => h q (List.mem_cons_of_mem _ hq)
    simp only [PyData.depthAll]
    omega
theorem okD_py : ∀ (n : Nat) (d : Dt), okD n d = true → (toPy d).canLay0 = true ∧ (toPy d).depth ≤ n
  | n, .non, _ => ⟨by simp [toPy, PyData.canLay0], by simp [toPy, PyData.depth]⟩
  | n, .bl b, _ => ⟨by simp [toPy, PyData.canLay0], by simp [toPy, PyData.depth]⟩
  | n, .int b, _ => ⟨by simp [toPy, PyData.canLay0], by simp [toPy, PyData.depth]⟩
  | n, .str b, h => ⟨by
      have h' : PyData.strOk b = true := by
        cases n <;> exact h
      simpa [toPy, PyData.canLay0] using h', by simp [toPy, PyData.depth]⟩
  | n + 1, .lst xs, h => by
    have h' : xs.all (okD n) = true := h
    have hx : ∀ p ∈ xs.map toPy, p.canLay0 = true ∧ p.depth ≤ n := fun p hp => by
      obtain ⟨x, hm, rfl⟩ := List.mem_map.mp hp
      exact okD_py n x (List.all_eq_true.mp h' x hm)
    have a := canLays_of fun p hp => (hx p hp).1
    have b := depths_of (n := n) fun p hp => (hx p hp).2
    have e : toPy (.lst xs) = .list (xs.map toPy) := by rw [toPy, toPy_go]
    rw [e]
    refine ⟨by simp only [PyData.canLay0]; exact a, ?_⟩
    simp only [PyData.depth]
    omega
  | n + 1, .tup _ xs, h => by
    have h' : xs.all (okD n) = true := h
    have hx : ∀ p ∈ xs.map toPy, p.canLay0 = true ∧ p.depth ≤ n := fun p hp => by
      obtain ⟨x, hm, rfl⟩ := List.mem_map.mp hp
      exact okD_py n x (List.all_eq_true.mp h' x hm)
    have a := canLays_of fun p hp => (hx p hp).1
    have b := depths_of (n := n) fun p hp => (hx p hp).2
    have e : ∀ nd, toPy (.tup nd xs) = .tuple (xs.map toPy) := fun nd => by rw [toPy, toPy_go]
    rw [e]
    refine ⟨by simp only [PyData.canLay0]; exact a, ?_⟩
    simp only [PyData.depth]
    omega
  | 0, .lst _, h => nomatch h
  | 0, .tup _ _, h => nomatch h
  | 0, .ins _ _, h => nomatch h
  | n + 1, .ins _ _, h => nomatch h
  | 0, .dct _, h => nomatch h
  | n + 1, .dct _, h => nomatch h
  | 0, .scr _, h => nomatch h
  | n + 1, .scr _, h => nomatch h
theorem okD_shaped {n : Nat} {d : Dt} (h : okD n d = true) (hn : n ≤ 64) : SeqAt.shaped (toPy d) = true := by
  obtain ⟨a, b⟩ := okD_py n d h
  show ((toPy d).canLay0 && decide ((toPy d).depth ≤ 64)) = true
  rw [Bool.and_eq_true]
  exact ⟨a, decide_eq_true (by omega)⟩
theorem dps_of {K : PySem.W.Frag} {F H : Hp} {P : Dt → Prop} (hP : ∀ d, P d → ∀ v, Rep K F v d → Dp K H v (toPy d)) : ∀ {vs : List V} {ds : List Dt}, RepL K F vs ds → (∀ d ∈ ds, P d) → DpAll K H vs (ds.map toPy)
  | _, _, .nil, _ => .nil
  | _, _, .cons h r, p => .cons (hP _ (p _ List.mem_cons_self) _ h) (dps_of hP r fun d hd => p d (List.mem_cons_of_mem _ hd))
theorem dp_of {K : PySem.W.Frag} {F H : Hp} (e : Ex F H) : ∀ (n : Nat) (d : Dt), okD n d = true → ∀ v, Rep K F v d → Dp K H v (toPy d)
  | n, .non, _, _, r => by cases r; rw [toPy]; exact .non
  | n, .bl b, _, _, r => by cases r; rw [toPy]; exact .bl b
  | n, .int b, _, _, r => by cases r; rw [toPy]; exact .int b
  | n, .str b, h, _, r => by cases r; rw [toPy]; exact .str b
  | n + 1, .lst xs, h, _, r => by
    obtain ⟨p, vs, rfl, hp, r⟩ := r.lstS e
    rw [toPy, toPy_go]
    exact .lst (SqL.of hp) (dps_of (P := fun d => okD n d = true) (fun d hd v hv => dp_of e n d hd v hv) r fun d hd => List.all_eq_true.mp (show xs.all (okD n) = true from h) d hd)
  | n + 1, .tup _ xs, h, _, r => by
    obtain ⟨p, vs, rfl, hp, r⟩ := r.tupS e
    rw [toPy, toPy_go]
    exact .tup hp (dps_of (P := fun d => okD n d = true) (fun d hd v hv => dp_of e n d hd v hv) r fun d hd => List.all_eq_true.mp (show xs.all (okD n) = true from h) d hd)
  | 0, .lst _, h, _, _ => nomatch h
  | 0, .tup _ _, h, _, _ => nomatch h
  | 0, .ins _ _, h, _, _ => nomatch h
  | n + 1, .ins _ _, h, _, _ => nomatch h
  | 0, .dct _, h, _, _ => nomatch h
  | n + 1, .dct _, h, _, _ => nomatch h
  | 0, .scr _, h, _, _ => nomatch h
  | n + 1, .scr _, h, _, _ => nomatch h
def eqP (x y : Dt) : Bool := PyData.eqv (toPy x) (toPy y)
section
variable {B : Bd} {Φ : PD} {x y : Dt} {n m : Nat}
theorem wo_eqD (hu : B.X.A.units + 65 < cLine) (hx : okD n x = true) (hy : okD m y = true) (q : Φ (.bl (eqP x y))) (hn : n ≤ 64 := by decide) (hm : m ≤ 64 := by decide) : WO B (compareOp .Eq) x y Φ := wo_of (op_eqD (by omega)) fun F H vx vy e r1 r2 =>
  ⟨_, _, dp_of e n x hx vx r1, dp_of e m y hy vy r2, okD_shaped hx hn, okD_shaped hy hm, post_now e (.bl _) q⟩
theorem wo_neD (hu : B.X.A.units + 65 < cLine) (hx : okD n x = true) (hy : okD m y = true) (q : Φ (.bl (!eqP x y))) (hn : n ≤ 64 := by decide) (hm : m ≤ 64 := by decide) : WO B (compareOp .NotEq) x y Φ := wo_of (op_neD (by omega)) fun F H vx vy e r1 r2 =>
  ⟨_, _, dp_of e n x hx vx r1, dp_of e m y hy vy r2, okD_shaped hx hn, okD_shaped hy hm, post_now e (.bl _) q⟩
theorem any_py {ds : List Dt} : ((ds.map toPy).any fun z => PyData.eqv z (toPy x)) = ds.any fun z => eqP z x := by
  rw [List.any_map]
  rfl
theorem wo_inD {ds : List Dt} (hu : B.X.A.units + 65 < cLine) (hx : okD n x = true) (hy : okD m (.lst ds) = true) (q : Φ (.bl (ds.any fun z => eqP z x))) (hn : n ≤ 64 := by decide) (hm : m ≤ 64 := by decide) : WO B (compareOp .In) x (.lst ds) Φ := wo_of (op_inD hu) fun F H vx vy e r1 r2 => by
  have h2 := dp_of e m _ hy vy r2
  have h3 := okD_shaped hy hm
  rw [toPy, toPy_go] at h2 h3
  refine ⟨_, _, dp_of e n x hx vx r1, h2, okD_shaped hx hn, h3, post_now e (.bl _) ?_⟩
  rw [any_py]
  exact q
theorem wo_ninD {ds : List Dt} (hu : B.X.A.units + 65 < cLine) (hx : okD n x = true) (hy : okD m (.lst ds) = true) (q : Φ (.bl (!ds.any fun z => eqP z x))) (hn : n ≤ 64 := by decide) (hm : m ≤ 64 := by decide) : WO B (compareOp .NotIn) x (.lst ds) Φ := wo_of (op_notInD hu) fun F H vx vy e r1 r2 => by
  have h2 := dp_of e m _ hy vy r2
  have h3 := okD_shaped hy hm
  rw [toPy, toPy_go] at h2 h3
  refine ⟨_, _, dp_of e n x hx vx r1, h2, okD_shaped hx hn, h3, post_now e (.bl _) ?_⟩
  rw [any_py]
  exact q
theorem eqP_refl (h : okD n x = true) : eqP x x = true := SeqAt.eqv_refl _ (okD_py n x h).1
end
end Fw
namespace Fw
open PySem PySem.Spec L2

/-! ### argument lists, displays -/
section
variable {B : Bd} {env : Env'} {e : Expr} {es : List Expr} {Φ : PD} {pos : Pos}
theorem wa_nil {Ψ : List Dt → Prop} (h : Ψ []) : WA B [] env Ψ := .mk fun F σ H A => ra_of pa_nil ⟨F, [], .refl A.ex, .nil, h⟩
theorem wa_cons {Ψ : List Dt → Prop} (h : WE B e env fun d => WA B es env fun ds => Ψ (d :: ds)) (hs : starEach (e :: es) B.X.env = (false, eval e B.X.env) :: starEach es B.X.env := by rfl) : WA B (e :: es) env Ψ := .mk fun F σ H A =>
  ra_of (pa_cons pe_re pa_re hs) (re_mono (h F σ H A) fun v H1 ⟨F1, d, g, r, q⟩ => ra_mono (q F1 σ H1 (A.grow g)) fun vs H2 ⟨F2, ds, g2, r2, q2⟩ => ⟨F2, d :: ds, g.trans g2, .cons (r.mono g2.f) r2, q2⟩)
theorem we_tup {k} (h : WA B es env fun ds => ds.length ≤ sizeLine ∧ Φ (.tup false ds)) : WE B (.Tuple es k pos) env Φ := .mk fun F σ H A =>
  re_of (pe_tup pa_re) (ra_mono (h F σ H A) fun vs H1 ⟨F1, ds, g, r, hl, q⟩ => ⟨by rw [r.length]; exact hl, fun p hp => ⟨_, _, g.trans (Gr.lay g.fh hp), .tup (.inl upd_same) (r.mono (.new (g.fh.none hp))), q⟩⟩)
theorem wl_lst {Ψ : List Dt → Prop} (h : WA B es env fun ds => ds.length ≤ sizeLine ∧ Ψ ds) : WL B (.List es pos) env Ψ := .mk fun F σ H A =>
  re_of (pe_lst pa_re) (ra_mono (h F σ H A) fun vs H1 ⟨F1, ds, g, r, hl, q⟩ => ⟨by rw [r.length]; exact hl, fun p hp => ⟨F1, p, vs, ds, rfl, g.trans (Gr.own g.fh hp), g.h.none hp, g.fh.none hp, upd_same, r, q⟩⟩)
end

/-! ### places -/
def IxD (x y : Dt) (Φ : PD) : Prop := ∃ i, y = .int i ∧ ((∃ ds v, SeqD x ds ∧ atI ds i = some v ∧ Φ v) ∨ (∃ z c, x = .str z ∧ z.length ≤ sizeLine ∧ atI z.cps.toList i = some c ∧ Φ (.str ⟨#[c]⟩)) ∨ ∃ ns n, x = .scr ns ∧ atI ns i = some n ∧ Φ (.int n))
section
variable {B : Bd} {env : Env'} {a b : Expr} {Φ : PD} {pos : Pos}
theorem RepL.atI {K : PySem.W.Frag} {F : Hp} {vs : List V} {ds : List Dt} {i : Int} {d : Dt} (r : RepL K F vs ds) (h : L2.atI ds i = some d) : ∃ v, L2.atI vs i = some v ∧ Rep K F v d := by
  unfold L2.atI at h ⊢
  rw [r.length]
  cases e : ixN ds.length i with
  | none =>
    rw [e] at h
    cases h
  | some j =>
    rw [e] at h
    exact r.get' h
theorem atI_map {α β : Type} {f : α → β} {xs : List α} {i : Int} {x : α} (h : atI xs i = some x) : atI (xs.map f) i = some (f x) := by
  unfold atI at h ⊢
  rw [List.length_map]
  cases e : ixN xs.length i with
  | none =>
    rw [e] at h
    cases h
  | some j =>
    rw [e] at h
    show (xs.map f)[j]? = some (f x)
    rw [List.getElem?_map, show xs[j]? = some x from h]
    rfl
theorem we_ix (h : WE B a env fun x => WE B b env fun y => IxD x y Φ) (hs : PlainIx b := by exact fun _ _ => rfl) : WE B (.Subscript a b pos) env Φ := .mk fun F σ H A =>
  re_of (pe_ix ix_seq pe_re pe_re hs) (re_mono (h F σ H A) fun vx H1 ⟨F1, x, g, r, q⟩ => re_mono (q F1 σ H1 (A.grow g)) fun vy H2 ⟨F2, y, g2, r2, i, e, q2⟩ => by
    subst e
    cases r2
    have r' := r.mono g2.f
    rcases q2 with ⟨ds, d, s, hd, q3⟩ | ⟨z, c, rfl, hz, hd, q3⟩ | ⟨ns, n, rfl, hd, q3⟩
    · obtain ⟨p, vs, rfl, hp, rl⟩ := r'.seq s g2.fh
      obtain ⟨v, hv, rv⟩ := rl.atI hd
      have fin : post B.X.K F H Φ v H2 := ⟨F2, d, g.trans g2, rv, q3⟩
      rcases hp with hp | hp
      · exact .inl ⟨p, vs, i, v, rfl, rfl, hp, hv, fin⟩
      · exact .inr (.inl ⟨p, vs, i, v, rfl, rfl, hp, hv, fin⟩)
    · cases r'
      exact .inr (.inr ⟨z, i, c, rfl, rfl, hz, hd, F2, _, g.trans g2, .str _, q3⟩)
    · cases r' with
      | scr hp => exact .inl ⟨_, _, i, _, rfl, rfl, ex_l g2.fh hp, atI_map hd, F2, _, g.trans g2, .int _, q3⟩)
theorem ixd_l {ds : List Dt} {i : Int} {v : Dt} (h : atI ds i = some v) (q : Φ v) : IxD (.lst ds) (.int i) Φ := ⟨i, rfl, .inl ⟨ds, v, .l, h, q⟩⟩
theorem ixd_t {nd : Bool} {ds : List Dt} {i : Int} {v : Dt} (h : atI ds i = some v) (q : Φ v) : IxD (.tup nd ds) (.int i) Φ := ⟨i, rfl, .inl ⟨ds, v, .t, h, q⟩⟩
theorem ixd_s {z : Str} {i : Int} {c : Nat} (hz : z.length ≤ sizeLine) (h : atI z.cps.toList i = some c) (q : Φ (.str ⟨#[c]⟩)) : IxD (.str z) (.int i) Φ := ⟨i, rfl, .inr (.inl ⟨z, c, rfl, hz, h, q⟩)⟩
theorem ixd_x {ns : List Int} {i n : Int} (h : atI ns i = some n) (q : Φ (.int n)) : IxD (.scr ns) (.int i) Φ := ⟨i, rfl, .inr (.inr ⟨ns, n, rfl, h, q⟩)⟩
end

/-! ### slices -/
def cutD {α : Type} (xs : List α) (lo hi : Option Int) : List α := (xs.drop (HT.sIx xs.length 0 lo)).take (HT.sIx xs.length xs.length hi - HT.sIx xs.length 0 lo)
theorem cutD_map {α β : Type} {f : α → β} {xs : List α} {lo hi : Option Int} : cutD (xs.map f) lo hi = (cutD xs lo hi).map f := by
  unfold cutD
  rw [List.length_map, List.map_take, List.map_drop]
theorem RepL.cut {K : PySem.W.Frag} {F : Hp} {vs : List V} {ds : List Dt} (r : RepL K F vs ds) (lo hi : Option Int) : RepL K F (cutV vs lo hi) (cutD ds lo hi) := by
  unfold cutV cutD
  rw [r.length]
  exact (r.drop _).take _
def RP (X : Cx) (e : Option Expr) : TO := fun σ H Q => ∀ pins s, Inv X pins σ H s → wpAny (model X.prog X.w) X.A (evalPart e X.env) (fun u s' => ∃ o H', Inv X pins σ H' s' ∧ IsPart u o ∧ Q o H') X.xe s
theorem po_rp {X : Cx} {e : Option Expr} : PO X e (RP X e) := ⟨fun pins s σ H Q I h => h pins s I⟩
theorem rp_of {X : Cx} {e : Option Expr} {t : TO} (h : PO X e t) {σ : L2.St} {H : Hp} {Q : Option Int → Hp → Prop} (q : t σ H Q) : RP X e σ H Q := fun pins s I => h.run pins s σ H Q I q
theorem rp_mono {X : Cx} {e : Option Expr} {σ : L2.St} {H : Hp} {Q Q' : Option Int → Hp → Prop} (h : RP X e σ H Q) (m : ∀ v H', Q v H' → Q' v H') : RP X e σ H Q' := fun pins s I =>
  thn (h pins s I) fun u s' ⟨o, H', I', r, q⟩ => ⟨o, H', I', r, m o H' q⟩
structure WP (B : Bd) (e : Option Expr) (env : Env') (Φ : Option Int → Prop) : Prop where
  mk ::
  run : ∀ F σ H, At B F σ H env → RP B.X e σ H fun o H' => ∃ F', Gr F H F' H' ∧ Φ o
instance (B : Bd) (e : Option Expr) (env : Env') (Φ : Option Int → Prop) : CoeFun (WP B e env Φ) (fun _ => ∀ F σ H, At B F σ H env → RP B.X e σ H fun o H' => ∃ F', Gr F H F' H' ∧ Φ o) := ⟨WP.run⟩

section
variable {B : Bd} {env : Env'} {a e : Expr} {lo hi : Option Expr} {Φ : PD} {Ψ : List Dt → Prop} {pos p2 : Pos}
theorem wp_none {Φ : Option Int → Prop} (h : Φ none) : WP B none env Φ := .mk fun F σ H A => rp_of po_none ⟨F, .refl A.ex, h⟩
theorem wp_some {Φ : Option Int → Prop} (h : WE B e env fun d => ∃ i, d = .int i ∧ Φ (some i)) : WP B (some e) env Φ := .mk fun F σ H A =>
  rp_of (po_some pe_re) (re_mono (h F σ H A) fun v H' ⟨F', d, g, r, i, e, q⟩ => by
    subst e
    cases r
    exact ⟨i, rfl, F', g, q⟩)
theorem wl_sl (h : WE B a env fun x => WP B lo env fun l => WP B hi env fun u => ∃ ds, x = .lst ds ∧ Ψ (cutD ds l u)) : WL B (.Subscript a (.Slice lo hi none p2) pos) env Ψ := .mk fun F σ H A =>
  re_of (pe_slice sl_list pe_re po_rp po_rp) (re_mono (h F σ H A) fun vx H1 ⟨F1, x, g, r, q⟩ => rp_mono (q F1 σ H1 (A.grow g)) fun l H2 ⟨F2, g2, q2⟩ => rp_mono (q2 F2 σ H2 (A.grow (g.trans g2))) fun u H3 ⟨F3, g3, ds, e, q3⟩ => by
    subst e
    have G := (g.trans g2).trans g3
    obtain ⟨p, vs, rfl, hp, rl⟩ := (r.mono (g2.f.trans g3.f)).lstS g3.fh
    exact ⟨p, vs, rfl, SqL.of hp, fun l hl => ⟨F3, l, _, _, rfl, G.trans (Gr.own G.fh hl), G.h.none hl, G.fh.none hl, upd_same, rl.cut _ _, q3⟩⟩)
theorem we_slT (h : WE B a env fun x => WP B lo env fun l => WP B hi env fun u => ∃ nd ds, x = .tup nd ds ∧ ¬ (HT.sIx ds.length 0 l = 0 ∧ HT.sIx ds.length ds.length u = ds.length) ∧ Φ (.tup false (cutD ds l u))) : WE B (.Subscript a (.Slice lo hi none p2) pos) env Φ := .mk fun F σ H A =>
  re_of (pe_slice sl_tup pe_re po_rp po_rp) (re_mono (h F σ H A) fun vx H1 ⟨F1, x, g, r, q⟩ => rp_mono (q F1 σ H1 (A.grow g)) fun l H2 ⟨F2, g2, q2⟩ => rp_mono (q2 F2 σ H2 (A.grow (g.trans g2))) fun u H3 ⟨F3, g3, nd, ds, e, hn, q3⟩ => by
    subst e
    have G := (g.trans g2).trans g3
    obtain ⟨p, vs, rfl, hp, rl⟩ := (r.mono (g2.f.trans g3.f)).tupS g3.fh
    exact ⟨p, vs, rfl, hp, by rw [rl.length]; exact hn, fun l hl => ⟨_, _, G.trans (Gr.lay G.fh hl), .tup (.inl upd_same) ((rl.cut _ _).mono (.new (G.fh.none hl))), q3⟩⟩)
theorem we_slS (h : WE B a env fun x => WP B lo env fun l => WP B hi env fun u => ∃ z, x = .str z ∧ z.length ≤ sizeLine ∧ Φ (.str (cutS z l u))) : WE B (.Subscript a (.Slice lo hi none p2) pos) env Φ := .mk fun F σ H A =>
  re_of (pe_slice sl_str pe_re po_rp po_rp) (re_mono (h F σ H A) fun vx H1 ⟨F1, x, g, r, q⟩ => rp_mono (q F1 σ H1 (A.grow g)) fun l H2 ⟨F2, g2, q2⟩ => rp_mono (q2 F2 σ H2 (A.grow (g.trans g2))) fun u H3 ⟨F3, g3, z, e, hn, q3⟩ => by
    subst e
    cases r
    exact ⟨z, rfl, hn, F3, _, (g.trans g2).trans g3, .str _, q3⟩)
end

/-! ### attributes -/
section
variable {B : Bd} {env : Env'} {o : Expr} {f x : Str} {Φ : PD} {pos pos' : Pos}
theorem we_fld (h : WE B o env fun d => ∃ C fs v, d = .ins C fs ∧ Cls B.X.K C ∧ NoAttr B.X.K C f ∧ fs.lookup f = some v ∧ Φ v) (hb : attributeBase o f B.X.env (eval o B.X.env) = eval o B.X.env := by rfl) : WE B (.Attribute o f pos) env Φ := .mk fun F σ H A =>
  re_of (pe_fld pe_re hb) (re_mono (h F σ H A) fun v H' ⟨F', d, g, r, C, fs, z, e, c, n, l, q⟩ => by
    subst e
    cases r with
    | ins hi rf =>
      obtain ⟨w, h1, h2⟩ := rf.lookup l
      exact ⟨_, C, _, _, w, rfl, g.fh _ _ hi, c, n, h1, F', z, g, h2, q⟩)
/-- self.f, self being made -/
theorem we_self {a C : Addr} {fs : List (Str × Dt)} {p : SD → Env'} {v : Dt} {pos2 : Pos} (hp : Pl env x (.slf a C fs) p) (c : Cls B.X.K C) (n : NoAttr B.X.K C f) (l : fs.lookup f = some v) (q : Φ v) (hv : Vis B.X.env.scope x := by first | exact Or.inl rfl | exact Or.inr (Or.inl rfl) | exact Or.inr (Or.inr rfl))
    (hd : (x == ("__debug__" : Str)) = false := by decide) (hcd : (x == ("__classdict__" : Str)) = false := by decide) (hb : attributeBase (.Name x pos2) f B.X.env (eval (.Name x pos2) B.X.env) = eval (.Name x pos2) B.X.env := by rfl) : WE B (.Attribute (.Name x pos2) f pos) env Φ := .mk fun F σ H A => by
  obtain ⟨i, h, _⟩ := hp.ix
  obtain ⟨o, ho, dx, vfs, e, _, _, hi, rf⟩ := A.ok i x _ h
  subst e
  obtain ⟨w, h1, h2⟩ := rf.lookup l
  exact re_of (pe_fld (pe_var (A.name h) hv hd hcd) hb) ⟨_, ho, a, C, dx, vfs, w, rfl, hi, c, n, h1, post_now A.ex h2 q⟩
/-- self.f = e, self being made -/
theorem ws_self {D : AE} {e : Expr} {a C : Addr} {fs : List (Str × Dt)} {p : SD → Env'} {pos2 : Pos} (hp : Pl env x (.slf a C fs) p) (c : Cls B.X.K C) (n : NoAttr B.X.K C f) (hl : fs.length < 1000) (h : WE B e env fun d => D.nx (p (.slf a C (putD f d fs)))) (hv : Vis B.X.env.scope x := by first | exact Or.inl rfl | exact Or.inr (Or.inl rfl) | exact Or.inr (Or.inr rfl))
    (hd : (x == ("__debug__" : Str)) = false := by decide) (hcd : (x == ("__classdict__" : Str)) = false := by decide) (hs : swapsWith e (some (.Attribute (.Name x pos2) f pos')) pos.line B.X.env = pure false := by rfl) :
    WS B (.Assign [.Attribute (.Name x pos2) f pos'] e pos) env D := .mk fun F σ H A => by
  obtain ⟨i, hi, hfi⟩ := hp.ix
  refine rs_of (ps_fld (pe_var (A.name hi) hv hd hcd) pe_re hs) (re_mono (h F σ H A) fun v H' ⟨F', d, g, r, q⟩ => ?_)
  have A' := A.grow g
  obtain ⟨o, ho, dx, vfs, e, _, _, hI, rf⟩ := A'.ok i x _ hi
  subst e
  refine ⟨_, ho, a, C, dx, vfs, rfl, hI, c, n, by rw [rf.length]; exact hl, F', _, g.f, A'.writeI hi ho (rf.put r), ?_⟩
  rw [← hfi]
  exact q
end

/-! ### calls -/
structure WC (B : Bd) (r : List V → Hp → VK → Prop) (ds : List Dt) (Φ : PD) : Prop where
  mk ::
  run : ∀ F H vs (Q : VK), Ex F H → RepL B.X.K F vs ds → (∀ v H', post B.X.K F H Φ v H' → Q v H') → r vs H Q
instance (B : Bd) (r : List V → Hp → VK → Prop) (ds : List Dt) (Φ : PD) : CoeFun (WC B r ds Φ) (fun _ => ∀ F H vs (Q : VK), Ex F H → RepL B.X.K F vs ds → (∀ v H', post B.X.K F H Φ v H' → Q v H') → r vs H Q) := ⟨WC.run⟩

structure WCL (B : Bd) (r : List V → Hp → VK → Prop) (ds : List Dt) (Ψ : List Dt → Prop) : Prop where
  mk ::
  run : ∀ F H vs (Q : VK), Ex F H → RepL B.X.K F vs ds → (∀ v H', postL B.X.K F H Ψ v H' → Q v H') → r vs H Q
instance (B : Bd) (r : List V → Hp → VK → Prop) (ds : List Dt) (Ψ : List Dt → Prop) : CoeFun (WCL B r ds Ψ) (fun _ => ∀ F H vs (Q : VK), Ex F H → RepL B.X.K F vs ds → (∀ v H', postL B.X.K F H Ψ v H' → Q v H') → r vs H Q) := ⟨WCL.run⟩

section
variable {B : Bd} {env : Env'} {x : Str} {e : Expr} {es : List Expr} {Φ : PD} {Ψ : List Dt → Prop} {p pos : Pos} {id T : String} {r : List V → Hp → VK → Prop}
theorem wc_run {F H : Hp} {σ : L2.St} {es : List Expr} (h : RA B.X es σ H (postA B.X.K F H fun ds => WC B r ds Φ)) : tCB r (RA B.X es) σ H (post B.X.K F H Φ) :=
  ra_mono h fun vs H1 ⟨F1, ds, g, rl, q⟩ => q F1 H1 vs _ g.fh rl fun v H2 ⟨F2, d, g2, r2, q2⟩ => ⟨F2, d, g.trans g2, r2, q2⟩
theorem wcl_run {F H : Hp} {σ : L2.St} {es : List Expr} (h : RA B.X es σ H (postA B.X.K F H fun ds => WCL B r ds Ψ)) : tCB r (RA B.X es) σ H (postL B.X.K F H Ψ) :=
  ra_mono h fun vs H1 ⟨F1, ds, g, rl, q⟩ => q F1 H1 vs _ g.fh rl fun v H2 ⟨F2, l, ws, es, e, g2, n, f, hl, r2, q2⟩ => ⟨F2, l, ws, es, e, g.trans g2, g.h.none n, f, hl, r2, q2⟩
theorem we_callB (hc : CallR B.X (.builtin id) r) (hm : B.X.mg x = none) (hv : bootBuiltins x = some (.builtin id)) (h : WA B (e :: es) env fun ds => WC B r ds Φ) (hg : Gl B.X x := by rfl) (hn : x ≠ "__name__" := by decide) (hdb : (x == ("__debug__" : Str)) = false := by decide)
    (he : starEach (e :: es) B.X.env = (false, eval e B.X.env) :: starEach es B.X.env := by rfl) (hpl : (backTo pos (starEach es B.X.env)).any (·.1) = false := by rfl) : WE B (.Call (.Name x p) (e :: es) [] pos) env Φ := .mk fun F σ H A =>
  re_of (pe_callB hc hg hm hv pa_re hn hdb he hpl) (wc_run (h F σ H A))
theorem wl_callB (hc : CallR B.X (.builtin id) r) (hm : B.X.mg x = none) (hv : bootBuiltins x = some (.builtin id)) (h : WA B (e :: es) env fun ds => WCL B r ds Ψ) (hg : Gl B.X x := by rfl) (hn : x ≠ "__name__" := by decide) (hdb : (x == ("__debug__" : Str)) = false := by decide)
    (he : starEach (e :: es) B.X.env = (false, eval e B.X.env) :: starEach es B.X.env := by rfl) (hpl : (backTo pos (starEach es B.X.env)).any (·.1) = false := by rfl) : WL B (.Call (.Name x p) (e :: es) [] pos) env Ψ := .mk fun F σ H A =>
  re_of (pe_callB hc hg hm hv pa_re hn hdb he hpl) (wcl_run (h F σ H A))
theorem we_callT (hc : CallR B.X (.type T) r) (hm : B.X.mg x = none) (hv : bootBuiltins x = some (.type T)) (h : WA B (e :: es) env fun ds => WC B r ds Φ) (hg : Gl B.X x := by rfl) (hn : x ≠ "__name__" := by decide) (hdb : (x == ("__debug__" : Str)) = false := by decide)
    (he : starEach (e :: es) B.X.env = (false, eval e B.X.env) :: starEach es B.X.env := by rfl) (hpl : (backTo pos (starEach es B.X.env)).any (·.1) = false := by rfl) : WE B (.Call (.Name x p) (e :: es) [] pos) env Φ := .mk fun F σ H A =>
  re_of (pe_callTy hc hg hm hv pa_re hn hdb he hpl) (wc_run (h F σ H A))
theorem wl_callT (hc : CallR B.X (.type T) r) (hm : B.X.mg x = none) (hv : bootBuiltins x = some (.type T)) (h : WA B (e :: es) env fun ds => WCL B r ds Ψ) (hg : Gl B.X x := by rfl) (hn : x ≠ "__name__" := by decide) (hdb : (x == ("__debug__" : Str)) = false := by decide)
    (he : starEach (e :: es) B.X.env = (false, eval e B.X.env) :: starEach es B.X.env := by rfl) (hpl : (backTo pos (starEach es B.X.env)).any (·.1) = false := by rfl) : WL B (.Call (.Name x p) (e :: es) [] pos) env Ψ := .mk fun F σ H A =>
  re_of (pe_callTy hc hg hm hv pa_re hn hdb he hpl) (wcl_run (h F σ H A))
theorem we_callF (hc : CallR B.X (.builtin id) r) (hm : B.X.mg x = some (.builtin id)) (h : WA B (e :: es) env fun ds => WC B r ds Φ) (hg : Gl B.X x := by rfl) (hdb : (x == ("__debug__" : Str)) = false := by decide)
    (he : starEach (e :: es) B.X.env = (false, eval e B.X.env) :: starEach es B.X.env := by rfl) (hpl : (backTo pos (starEach es B.X.env)).any (·.1) = false := by rfl) : WE B (.Call (.Name x p) (e :: es) [] pos) env Φ := .mk fun F σ H A =>
  re_of (pe_callBfun hc hg hm pa_re hdb he hpl) (wc_run (h F σ H A))
end

/-! ### the built-ins -/
section
variable {B : Bd} {env : Env'} {a b : Expr} {Φ : PD} {Ψ : List Dt → Prop} {p pos : Pos}
theorem wc_one {r : List V → Hp → VK → Prop} {d : Dt} (h : ∀ F H v (Q : VK), Ex F H → Rep B.X.K F v d → (∀ v H', post B.X.K F H Φ v H' → Q v H') → r [v] H Q) : WC B r [d] Φ := .mk fun F H vs Q e rl k => by
  cases rl with
  | cons r1 r2 =>
    cases r2
    exact h F H _ Q e r1 k
theorem wcl_one {r : List V → Hp → VK → Prop} {d : Dt} (h : ∀ F H v (Q : VK), Ex F H → Rep B.X.K F v d → (∀ v H', postL B.X.K F H Ψ v H' → Q v H') → r [v] H Q) : WCL B r [d] Ψ := .mk fun F H vs Q e rl k => by
  cases rl with
  | cons r1 r2 =>
    cases r2
    exact h F H _ Q e r1 k
theorem wc_two {r : List V → Hp → VK → Prop} {d c : Dt} (h : ∀ F H v w (Q : VK), Ex F H → Rep B.X.K F v d → Rep B.X.K F w c → (∀ v H', post B.X.K F H Φ v H' → Q v H') → r [v, w] H Q) : WC B r [d, c] Φ := .mk fun F H vs Q e rl k => by
  cases rl with
  | cons r1 r2 =>
    cases r2 with
    | cons r2 r3 =>
      cases r3
      exact h F H _ _ Q e r1 r2 k
/-- len(x) -/
def LenD (d : Dt) (Φ : PD) : Prop := (∃ ds, SeqD d ds ∧ Φ (.int (ds.length : Nat))) ∨ (∃ ns, d = .scr ns ∧ Φ (.int (ns.length : Nat))) ∨ ∃ z, d = .str z ∧ z.length ≤ sizeLine ∧ Φ (.int (z.length : Nat))
theorem we_len (hm : B.X.mg "len" = none) (h : WE B a env fun d => LenD d Φ) (hg : Gl B.X "len" := by rfl) (hs : starEach [a] B.X.env = [(false, eval a B.X.env)] := by rfl) :
    WE B (.Call (.Name "len" p) [a] [] pos) env Φ :=
  we_callB call_len hm boot_len (wa_cons (h.imp fun d q => wa_nil (wc_one fun F H v Q e r k => by
    rcases q with ⟨ds, s, q⟩ | ⟨ns, rfl, q⟩ | ⟨z, rfl, hz, q⟩
    · obtain ⟨p, vs, rfl, hp, rl⟩ := r.seq s e
      refine ⟨_, vs.length, rfl, ?_, k _ _ (post_now e (.int _) (by rw [rl.length]; exact q))⟩
      rcases hp with hp | hp
      · exact .inl ⟨vs, hp, rfl⟩
      · exact .inr ⟨vs, hp, rfl⟩
    · cases r with
      | scr hp => exact ⟨_, _, rfl, .inl ⟨_, ex_l e hp, rfl⟩, k _ _ (post_now e (.int _) (by rw [List.length_map]; exact q))⟩
    · cases r
      exact ⟨_, _, rfl, ⟨hz, rfl⟩, k _ _ (post_now e (.int _) q)⟩)) hs) hg (he := hs)
theorem len_l {ds : List Dt} (q : Φ (.int (ds.length : Nat))) : LenD (.lst ds) Φ := .inl ⟨ds, .l, q⟩
theorem len_t {nd : Bool} {ds : List Dt} (q : Φ (.int (ds.length : Nat))) : LenD (.tup nd ds) Φ := .inl ⟨ds, .t, q⟩
theorem len_s {z : Str} (hz : z.length ≤ sizeLine) (q : Φ (.int (z.length : Nat))) : LenD (.str z) Φ := .inr (.inr ⟨z, rfl, hz, q⟩)
theorem len_x {ns : List Int} (q : Φ (.int (ns.length : Nat))) : LenD (.scr ns) Φ := .inr (.inl ⟨ns, rfl, q⟩)
/-- int(n), int(flag) -/
def intD : Dt → Option Int
  | .int i => some i
  | .bl b => some (if b then 1 else 0)
  | _ => none
theorem we_int1 (hm : B.X.mg "int" = none) (h : WE B a env fun d => ∃ i, intD d = some i ∧ Φ (.int i)) (hg : Gl B.X "int" := by rfl) (hs : starEach [a] B.X.env = [(false, eval a B.X.env)] := by rfl) : WE B (.Call (.Name "int" p) [a] [] pos) env Φ :=
  we_callT call_int1 hm (by decide +kernel) (wa_cons (h.imp fun d q => wa_nil (wc_one fun F H v Q e r k => by
    obtain ⟨i, ei, q⟩ := q
    cases r <;> first
      | cases ei; done
      | skip
    · cases ei
      exact .inr ⟨_, rfl, k _ _ (post_now e (.int _) q)⟩
    · cases ei
      exact .inl ⟨_, rfl, k _ _ (post_now e (.int _) q)⟩)) hs) hg (he := hs)
/-- min, max of two -/
theorem we_min2 (hm : B.X.mg "min" = none) (hc : B.X.calm = true) (h : WE B a env fun x => WE B b env fun y => ∃ i j, x = .int i ∧ y = .int j ∧ Φ (.int (if j < i then j else i))) (hg : Gl B.X "min" := by rfl) (hs : starEach [a, b] B.X.env = (false, eval a B.X.env) :: starEach [b] B.X.env := by rfl)
    (hs2 : starEach [b] B.X.env = [(false, eval b B.X.env)] := by rfl) (hpl : (backTo pos (starEach [b] B.X.env)).any (·.1) = false := by rfl) : WE B (.Call (.Name "min" p) [a, b] [] pos) env Φ :=
  we_callB (call_min2 hc) hm (by decide +kernel) (wa_cons (h.imp fun x q => wa_cons (q.imp fun y q => wa_nil (wc_two fun F H v w Q e r r2 k => by
    obtain ⟨i, j, rfl, rfl, q⟩ := q
    cases r
    cases r2
    exact ⟨i, j, rfl, k _ _ (post_now e (.int _) q)⟩)) hs2) hs) hg (he := hs) (hpl := hpl)
theorem we_max2 (hm : B.X.mg "max" = none) (hc : B.X.calm = true) (h : WE B a env fun x => WE B b env fun y => ∃ i j, x = .int i ∧ y = .int j ∧ Φ (.int (if j > i then j else i))) (hg : Gl B.X "max" := by rfl) (hs : starEach [a, b] B.X.env = (false, eval a B.X.env) :: starEach [b] B.X.env := by rfl)
    (hs2 : starEach [b] B.X.env = [(false, eval b B.X.env)] := by rfl) (hpl : (backTo pos (starEach [b] B.X.env)).any (·.1) = false := by rfl) : WE B (.Call (.Name "max" p) [a, b] [] pos) env Φ :=
  we_callB (call_max2 hc) hm (by decide +kernel) (wa_cons (h.imp fun x q => wa_cons (q.imp fun y q => wa_nil (wc_two fun F H v w Q e r r2 k => by
    obtain ⟨i, j, rfl, rfl, q⟩ := q
    cases r
    cases r2
    exact ⟨i, j, rfl, k _ _ (post_now e (.int _) q)⟩)) hs2) hs) hg (he := hs) (hpl := hpl)
/-- max of a list of ints -/
theorem we_maxL (hm : B.X.mg "max" = none) (hc : B.X.calm = true) (h : WE B a env fun d => ∃ ns : List Int, d = .lst (ns.map .int) ∧ 0 < ns.length ∧ ∀ m, m ∈ ns → (∀ y, y ∈ ns → y ≤ m) → Φ (.int m)) (hg : Gl B.X "max" := by rfl) (hs : starEach [a] B.X.env = [(false, eval a B.X.env)] := by rfl) : WE B (.Call (.Name "max" p) [a] [] pos) env Φ :=
  we_callB (cr_max hc) hm (by decide +kernel) (wa_cons (h.imp fun d q => wa_nil (wc_one fun F H v Q e r k => by
    obtain ⟨ns, rfl, h0, q⟩ := q
    obtain ⟨p, vs, rfl, hp, rl⟩ := r.lstS e
    have ev := rl.ints
    subst ev
    exact ⟨p, ns, rfl, SqL.of hp, h0, fun m h1 h2 => k _ _ (post_now e (.int _) (q m h1 h2))⟩)) hs) hg (he := hs)
/-- all of a list of truth values -/
theorem we_all (hm : B.X.mg "all" = none) (hc : B.X.calm = true) (h : WE B a env fun d => ∃ bs : List Bool, d = .lst (bs.map .bl) ∧ Φ (.bl (bs.all id))) (hg : Gl B.X "all" := by rfl) (hs : starEach [a] B.X.env = [(false, eval a B.X.env)] := by rfl) : WE B (.Call (.Name "all" p) [a] [] pos) env Φ :=
  we_callB (cr_all hc) hm (by decide +kernel) (wa_cons (h.imp fun d q => wa_nil (wc_one fun F H v Q e r k => by
    obtain ⟨ns, rfl, q⟩ := q
    obtain ⟨p, vs, rfl, hp, rl⟩ := r.lstS e
    have ev := rl.bls
    subst ev
    exact ⟨p, ns, rfl, SqL.of hp, k _ _ (post_now e (.bl _) q)⟩)) hs) hg (he := hs)
/-- list(x) -/
theorem wl_list (hm : B.X.mg "list" = none) (h : WE B a env fun d => ∃ ds, SeqD d ds ∧ Ψ ds) (hg : Gl B.X "list" := by rfl) (hs : starEach [a] B.X.env = [(false, eval a B.X.env)] := by rfl) : WL B (.Call (.Name "list" p) [a] [] pos) env Ψ :=
  wl_callT call_list_of hm (by decide +kernel) (wa_cons (h.imp fun d q => wa_nil (wcl_one fun F H v Q e r k => by
    obtain ⟨ds, s, q⟩ := q
    obtain ⟨p, vs, rfl, hp, rl⟩ := r.seq s e
    exact ⟨p, vs, rfl, hp, fun l hl => k _ _ ⟨F, l, vs, ds, rfl, Gr.own e hl, hl, e.none hl, upd_same, rl, q⟩⟩)) hs) hg (he := hs)
/-- tuple(list): the new tuple has no dict -/
theorem call_tuple_l {X : Cx} : CallR X (.type "tuple") (fun xs H Q => ∃ p ys, xs = [.ref p] ∧ SqL X.K H p ys ∧ ∀ l o, H l = none → o.dict = none → Q (.ref l) (upd H l (.frz o (.tup ys)))) := by
  intro pins s σ H xs us Q I rel want
  obtain ⟨p, ys, rfl, hq, q⟩ := want
  obtain ⟨u, rfl, relx⟩ := vals1 rel
  cases relx
  obtain ⟨its, r', pl, hz⟩ := I.list hq
  have hlen := r'.length
  refine PySem.call_tuple_list pl.isList (fun h' kp => ?_) (by simp only [List.size_toArray] <;> omega)
  have I1 : Inv X pins σ H { s with heap := h' } :=
    I.kept (t' := s.toks) kp
  have ho : (h'.push { cls := .type "tuple", data := .seq its.toArray }).get? h'.objs.size = some { cls := .type "tuple", data := .seq its.toArray } := Heap.get?_push_size _ rfl
  have I2 : Inv X pins σ (upd H h'.objs.size (.frz { cls := .type "tuple", data := .seq its.toArray } (.tup ys))) { s with heap := h'.push { cls := .type "tuple", data := .seq its.toArray } } :=
    I1.laid (t' := s.toks) (fun b o e => Heap.get?_push_of_some _ e) (Nat.le_refl _) ⟨ho, hz, its, r', ⟨_, ho, rfl, _, rfl⟩⟩
  exact ⟨.ref h'.objs.size, _, I2, rfl, q _ _ (I1.hok.fresh (Nat.le_refl _)) rfl⟩
theorem we_tuple (hm : B.X.mg "tuple" = none) (h : WE B a env fun d => ∃ ds, d = .lst ds ∧ Φ (.tup true ds)) (hg : Gl B.X "tuple" := by rfl) (hs : starEach [a] B.X.env = [(false, eval a B.X.env)] := by rfl) : WE B (.Call (.Name "tuple" p) [a] [] pos) env Φ :=
  we_callT call_tuple_l hm (by decide +kernel) (wa_cons (h.imp fun d q => wa_nil (wc_one fun F H v Q e r k => by
    obtain ⟨ds, rfl, q⟩ := q
    obtain ⟨p, vs, rfl, hp, rl⟩ := r.lstS e
    exact ⟨p, vs, rfl, SqL.of hp, fun l o hl ho => k _ _ ⟨_, _, Gr.lay e hl, .tupN upd_same ho (rl.mono (.new (e.none hl))), q⟩⟩)) hs) hg (he := hs)
/-- gcd -/
theorem we_gcd (hm : B.X.mg "gcd" = some (.builtin "math.gcd")) (h : WE B a env fun x => WE B b env fun y => ∃ i j : Int, x = .int i ∧ y = .int j ∧ Φ (.int ((Nat.gcd i.natAbs j.natAbs : Nat) : Int))) (hg : Gl B.X "gcd" := by rfl) (hs : starEach [a, b] B.X.env = (false, eval a B.X.env) :: starEach [b] B.X.env := by rfl)
    (hs2 : starEach [b] B.X.env = [(false, eval b B.X.env)] := by rfl) (hpl : (backTo pos (starEach [b] B.X.env)).any (·.1) = false := by rfl) : WE B (.Call (.Name "gcd" p) [a, b] [] pos) env Φ :=
  we_callF cr_gcd hm (wa_cons (h.imp fun x q => wa_cons (q.imp fun y q => wa_nil (wc_two fun F H v w Q e r r2 k => by
    obtain ⟨i, j, rfl, rfl, q⟩ := q
    cases r
    cases r2
    exact ⟨i, j, rfl, k _ _ (post_now e (.int _) q)⟩)) hs2) hs) hg (he := hs) (hpl := hpl)
/-- list + list, list * n -/
theorem wl_cat (h : WE B a env fun x => WE B b env fun y => ∃ ds es, x = .lst ds ∧ y = .lst es ∧ ds.length + es.length ≤ sizeLine ∧ Ψ (ds ++ es)) : WL B (.BinOp a .Add b pos) env Ψ := .mk fun F σ H A =>
  re_of (pe_op op_cat pe_re pe_re) (re_mono (h F σ H A) fun vx H1 ⟨F1, x, g, r, q⟩ => re_mono (q F1 σ H1 (A.grow g)) fun vy H2 ⟨F2, y, g2, r2, ds, es, e1, e2, hz, q2⟩ => by
    subst e1
    subst e2
    have G := g.trans g2
    obtain ⟨p, vs, rfl, hp, rl⟩ := (r.mono g2.f).lstS G.fh
    obtain ⟨p2, ws, rfl, hp2, rl2⟩ := r2.lstS G.fh
    exact ⟨p, p2, vs, ws, rfl, rfl, hp, hp2, by rw [rl.length, rl2.length]; exact hz, fun l hl => ⟨F2, l, _, _, rfl, G.trans (Gr.own G.fh hl), G.h.none hl, G.fh.none hl, upd_same, rl.append rl2, q2⟩⟩)
theorem RepL.rep {K : PySem.W.Frag} {F : Hp} {vs : List V} {ds : List Dt} (r : RepL K F vs ds) : ∀ n : Nat, RepL K F (List.replicate n vs).flatten (List.replicate n ds).flatten
  | 0 => .nil
  | n + 1 => by
    rw [List.replicate_succ, List.replicate_succ, List.flatten_cons, List.flatten_cons]
    exact r.append (RepL.rep r n)
theorem wl_rep (h : WE B a env fun x => WE B b env fun y => ∃ (ds : List Dt) (n : Nat), x = .lst ds ∧ y = .int (n : Int) ∧ ds.length * n ≤ sizeLine ∧ n < 1000 ∧ Ψ (List.replicate n ds).flatten) : WL B (.BinOp a .Mult b pos) env Ψ := .mk fun F σ H A =>
  re_of (pe_op op_rep pe_re pe_re) (re_mono (h F σ H A) fun vx H1 ⟨F1, x, g, r, q⟩ => re_mono (q F1 σ H1 (A.grow g)) fun vy H2 ⟨F2, y, g2, r2, ds, n, e1, e2, hz, hn, q2⟩ => by
    subst e1
    subst e2
    cases r2
    have G := g.trans g2
    obtain ⟨p, vs, rfl, hp, rl⟩ := (r.mono g2.f).lstS G.fh
    refine ⟨p, _, vs, rfl, rfl, hp, by omega, by omega, by rw [rl.length, Int.toNat_natCast]; exact hz, fun l hl => ⟨F2, l, _, _, rfl, G.trans (Gr.own G.fh hl), G.h.none hl, G.fh.none hl, upd_same, ?_, q2⟩⟩
    rw [Int.toNat_natCast]
    exact rl.rep n)
end

/-! ### methods of built-in types -/
section
variable {B : Bd} {env : Env'} {a o : Expr} {Φ : PD} {p pos : Pos} {x : Str} {f : SD → Env'} {D : AE}
theorem we_join (h : WE B o env fun d => ∃ s : Str, d = .str s ∧ WE B a env fun c => ∃ ys : List Str, c = .lst (ys.map .str) ∧ (ys.map (·.length)).sum + ys.length * s.length ≤ 16777216 ∧ Φ (.str (Txt.join s ys))) (hs : starEach [a] B.X.env = [(false, eval a B.X.env)] := by rfl) (hbase : attributeBase o "join" B.X.env (eval o B.X.env) = eval o B.X.env := by rfl) (hline : (p.endLine == pos.line) = true := by rfl) :
    WE B (.Call (.Attribute o "join" p) [a] [] pos) env Φ := .mk fun F σ H A =>
  re_of (pe_join pe_re pe_re hs hbase hline) (re_mono (h F σ H A) fun v H1 ⟨F1, d, g, r, s, e, q⟩ => by
    subst e
    cases r
    exact ⟨⟨s, rfl⟩, re_mono (q F1 σ H1 (A.grow g)) fun y H2 ⟨F2, c, g2, r2, ys, e2, hz, q2⟩ => by
      subst e2
      obtain ⟨p, vs, rfl, hp, rl⟩ := r2.lstS g2.fh
      have ev := rl.strs
      subst ev
      exact ⟨s, p, ys, rfl, rfl, .inl (SqL.of hp), hz, F2, _, g.trans g2, .str _, q2⟩⟩)
theorem we_upper (h : WE B o env fun d => ∃ s : Str, d = .str s ∧ s.length ≤ 5592405 ∧ Φ (.str (Txt.upper s))) (hbase : attributeBase o "upper" B.X.env (eval o B.X.env) = eval o B.X.env := by rfl) (hline : (p.endLine == pos.line) = true := by rfl) :
    WE B (.Call (.Attribute o "upper" p) [] [] pos) env Φ := .mk fun F σ H A =>
  re_of (pe_upper pe_re hbase hline) (re_mono (h F σ H A) fun v H1 ⟨F1, d, g, r, s, e, hz, q⟩ => by
    subst e
    cases r
    exact ⟨⟨s, rfl⟩, s, rfl, rfl, hz, F1, _, g, .str _, q⟩)
/-- t.index(x) of a tuple of texts that has no dict -/
theorem we_tindex (h : WE B o env fun d => ∃ xs : List Str, d = .tup true (xs.map .str) ∧ WE B a env fun c => ∃ (z : Str) (j : Nat), c = .str z ∧ xs[j]? = some z ∧ (∀ m, m < j → xs[m]? ≠ some z) ∧ Φ (.int (j : Nat))) (hs : starEach [a] B.X.env = [(false, eval a B.X.env)] := by rfl)
    (hbase : attributeBase o "index" B.X.env (eval o B.X.env) = eval o B.X.env := by rfl) (hline : (p.endLine == pos.line) = true := by rfl)
    (hfew : ((backTo pos (starEach [a] B.X.env)).all (fun x => !x.1) && (backToKw pos (keywordEach [] B.X.env)).all (fun x => x.1.isSome)
      && decide (([a] : List Expr).length + ([] : List Keyword).length + (if ([] : List Keyword).isEmpty then 0 else 1) < 30)) = true := by rfl) :
    WE B (.Call (.Attribute o "index" p) [a] [] pos) env Φ := .mk fun F σ H A pins s I => by
  refine wpAny_Call_method_late hbase hfew hline rfl (thn (h F σ H A pins s I) fun v s1 ⟨x, H1, I1, rx, F1, d, g, r, xs, e, q⟩ => ?_)
  subst e
  cases r with
  | tupN ha hd rl =>
    have ev := rl.strs
    subst ev
    cases rx
    have ha' := g.fh _ _ ha
    have ok := I1.hok _ _ ha'
    obtain ⟨ho, _, its, _, o2, ho2, hc, n, hdt⟩ := ok
    rw [ho] at ho2
    cases ho2
    refine ⟨"tuple", "tuple.index", PySem.F.plainAttrs_tuple, PySem.F.slot_tuple_index, PySem.F.type_tuple_index, ⟨_, ho, hc⟩, fun b eb => by cases eb; exact ⟨_, ho, hd⟩, ?_⟩
    have hA := ra_of (X := B.X) (es := [a]) (pa_cons pe_re pa_nil (by rw [hs]; rfl)) (Q := postA B.X.K F1 H1 fun ds => ∃ c, ds = [c] ∧ ∃ (z : Str) (j : Nat), c = .str z ∧ xs[j]? = some z ∧ (∀ m, m < j → xs[m]? ≠ some z) ∧ Φ (.int (j : Nat)))
      (re_mono (q F1 σ H1 (A.grow g)) fun v H2 ⟨F2, c, g2, r2, q2⟩ => ⟨F2, [c], g2, .cons r2 .nil, c, rfl, q2⟩)
    have hB := hA pos pins s1 I1
    rw [hs] at hB ⊢
    refine Calls.callWith_builtin rfl (Calls.evalArgs_plain ?_)
    refine thn hB fun us s2 ⟨vs, H2, I2, r2, F2, ds, g2, rl2, c, e, z, j, e2, hz, hj, q2⟩ => ?_
    subst e
    subst e2
    cases rl2 with
    | cons rc rn =>
      cases rn
      cases rc
      exact mt_tup_index pins s2 σ H2 (V.ref _) _ _ us _ I2 rfl r2 ⟨_, xs, z, j, rfl, rfl, .inl (.inr ⟨_, g2.h _ _ ha'⟩), hz, hj, F2, _, g.trans g2, .int _, q2⟩
/-- xs.append(e), xs one's own -/
theorem ws_append {e : Expr} {ds : List Dt} {pos1 pos2 pos3 : Pos} (hp : Pl env x (.own ds) f) (h : WE B e env fun d => D.nx (f (.own (ds ++ [d])))) (hz : ds.length < sizeLine) (hv : Vis B.X.env.scope x := by first | exact Or.inl rfl | exact Or.inr (Or.inl rfl) | exact Or.inr (Or.inr rfl))
    (hd : (x == ("__debug__" : Str)) = false := by decide)
    (hcd : (x == ("__classdict__" : Str)) = false := by decide)
    (hs : starEach [e] B.X.env = [(false, eval e B.X.env)] := by rfl) (hbase : attributeBase (.Name x pos1) "append" B.X.env (eval (.Name x pos1) B.X.env) = eval (.Name x pos1) B.X.env := by rfl) (hline : (pos2.endLine == pos3.line) = true := by rfl)
    (hfew : ((backTo pos3 (starEach [e] B.X.env)).all (fun x => !x.1) && (backToKw pos3 (keywordEach [] B.X.env)).all (fun x => x.1.isSome)
      && decide (([e] : List Expr).length + ([] : List Keyword).length
        + (if ([] : List Keyword).isEmpty then 0 else 1) < 30)) = true := by rfl)
    (hsw : swapsWith (.Call (.Attribute (.Name x pos1) "append" pos2) [e] [] pos3) none pos.line B.X.env = pure false := by rfl) :
    WS B (.Expr (.Call (.Attribute (.Name x pos1) "append" pos2) [e] [] pos3) pos) env D := .mk fun F σ H A => by
  obtain ⟨i, hi, hfi⟩ := hp.ix
  obtain ⟨o, ho, l, vs, e1, h0, fl, hl, rl⟩ := A.ok i x _ hi
  subst e1
  refine rs_of (ps_expr (pe_bm PySem.F.plainAttrs_list PySem.F.slot_list_append PySem.F.type_list_append mt_append (pe_var (A.name hi) hv hd hcd) (pa_cons pe_re pa_nil (by rw [hs]; rfl)) hbase hfew hline (by rw [hs]; rfl) rfl) hsw) ?_
  refine ⟨_, ho, .inl ⟨rfl, _, SqL.of hl⟩, re_mono (h F σ H A) fun v H' ⟨F', d, g, r, q⟩ => ?_⟩
  have A' := A.grow g
  obtain ⟨o', ho', l', vs', e', _, _, hl', rl'⟩ := A'.ok i x _ hi
  rw [ho] at ho'
  cases ho'
  cases e'
  refine ⟨l, vs', v, rfl, rfl, hl', by rw [rl'.length]; exact hz, F', _, g.f, A'.write hi ho (rl'.append (.cons r .nil)), ?_⟩
  rw [← hfi]
  exact q
/-- xs.reverse(), xs one's own -/
theorem ws_reverse {ds : List Dt} {pos1 pos2 pos3 : Pos} (hp : Pl env x (.own ds) f) (h : D.nx (f (.own ds.reverse))) (hv : Vis B.X.env.scope x := by first | exact Or.inl rfl | exact Or.inr (Or.inl rfl) | exact Or.inr (Or.inr rfl))
    (hd : (x == ("__debug__" : Str)) = false := by decide)
    (hcd : (x == ("__classdict__" : Str)) = false := by decide)
    (hbase : attributeBase (.Name x pos1) "reverse" B.X.env (eval (.Name x pos1) B.X.env) = eval (.Name x pos1) B.X.env := by rfl) (hline : (pos2.endLine == pos3.line) = true := by rfl)
    (hsw : swapsWith (.Call (.Attribute (.Name x pos1) "reverse" pos2) [] [] pos3) none pos.line B.X.env = pure false := by rfl) :
    WS B (.Expr (.Call (.Attribute (.Name x pos1) "reverse" pos2) [] [] pos3) pos) env D := .mk fun F σ H A => by
  obtain ⟨i, hi, hfi⟩ := hp.ix
  obtain ⟨o, ho, l, vs, e1, h0, fl, hl, rl⟩ := A.ok i x _ hi
  subst e1
  refine rs_of (ps_expr (pe_bm0 PySem.F.plainAttrs_list PySem.F.slot_list_reverse PySem.F.type_list_reverse mt_reverse (pe_var (A.name hi) hv hd hcd) hbase hline) hsw) ?_
  refine ⟨_, ho, .inl ⟨rfl, _, SqL.of hl⟩, l, vs, rfl, rfl, hl, F, _, .refl F, A.write hi ho rl.reverse, ?_⟩
  rw [← hfi]
  exact h
/-- xs[i] = e, xs one's own -/
theorem ws_setix {e b : Expr} {ds : List Dt} {pos1 pos2 : Pos} (hp : Pl env x (.own ds) f) (h : WE B e env fun d => WE B b env fun c => ∃ (j : Nat), c = .int (j : Int) ∧ j < ds.length ∧ D.nx (f (.own (ds.set j d)))) (hv : Vis B.X.env.scope x := by first | exact Or.inl rfl | exact Or.inr (Or.inl rfl) | exact Or.inr (Or.inr rfl))
    (hd : (x == ("__debug__" : Str)) = false := by decide)
    (hcd : (x == ("__classdict__" : Str)) = false := by decide)
    (ha : ∀ v, assign (.Subscript (.Name x pos1) b pos2) B.X.env v = (do
      let ov ← holding [v] (eval (.Name x pos1) B.X.env)
      let iv ← holding [v, ov] (eval b B.X.env)
      standAt pos2
      holding [v, ov, iv]
        (setItem ov iv v)
      release [v, ov, iv] []) := by intro _; rfl)
    (hs : swapsWithSole [.Subscript (.Name x pos1) b pos2] e pos.line B.X.env = pure false := by rfl) (hw : swappedStores [.Subscript (.Name x pos1) b pos2] e B.X.env = pure none := by rfl)
    (h1 : (assignEach [.Subscript (.Name x pos1) b pos2] B.X.env).map (·.2) = [assign (.Subscript (.Name x pos1) b pos2) B.X.env] := by rfl) :
    WS B (.Assign [.Subscript (.Name x pos1) b pos2] e pos) env D := .mk fun F σ H A => by
  obtain ⟨i, hi, hfi⟩ := hp.ix
  refine rs_of (ps_asg pe_re (pg_sub (pe_var (A.name hi) hv hd hcd) pe_re set_list ha) hs hw h1) (re_mono (h F σ H A) fun v H' ⟨F', d, g, r, q⟩ => ?_)
  have A' := A.grow g
  obtain ⟨o, ho, _⟩ := A'.ok i x _ hi
  obtain ⟨o1, ho1, l, vs, e1, h0, fl, hl, rl⟩ := A'.ok i x _ hi
  subst e1
  refine ⟨_, ho1, re_mono (q F' σ H' A') fun w H2 ⟨F2, c, g2, r2, j, e2, hj, q2⟩ => ?_⟩
  subst e2
  cases r2
  have A2 := A'.grow g2
  refine ⟨l, vs, (j : Int), j, rfl, rfl, g2.h _ _ hl, ?_, F2, _, g.f.trans g2.f, A2.write hi ho1 (RepL.set (r.mono g2.f) j (rl.mono g2.f)), ?_⟩
  · unfold ixN
    rw [rl.length, if_pos (by omega), if_pos (by omega)]
    simp
  · rw [← hfi]
    exact q2
end
end Fw
namespace Fw
open PySem PySem.Spec L2

/-! ### targets -/
mutual
/-- the datum d goes to the target: env becomes env'; the names that are stored -/
inductive TgE (X : Cx) : Expr → Dt → Env' → Env' → List Str → Prop
  | name {x : Str} {pos : Pos} {d : Dt} {env env' : Env'} {s : SD} {f : SD → Env'} : Pl env x s f → env' = f (.dat d) → Loc X.env.scope x → (X.fn x = true ∨ X.env.scope.names.lookup x = some .local) → TgE X (.Name x pos) d env env' [x]
  | tup {es : List Expr} {k : Nat} {pos : Pos} {nd : Bool} {ds : List Dt} {env env' : Env'} {ns : List Str} : TgsE X es ds env env' ns → (assignEach es X.env).length = ds.length → (assignEach es X.env).findIdx? (·.1) = none → TgE X (.Tuple es k pos) (.tup nd ds) env env' ns
inductive TgsE (X : Cx) : List Expr → List Dt → Env' → Env' → List Str → Prop
  | nil {env : Env'} : TgsE X [] [] env env []
  | cons {e : Expr} {es : List Expr} {d : Dt} {ds : List Dt} {env env1 env2 : Env'} {ns ms : List Str} : TgE X e d env env1 ns → TgsE X es ds env1 env2 ms → (assignEach (e :: es) X.env).map (·.2) = assign e X.env :: (assignEach es X.env).map (·.2) → TgsE X (e :: es) (d :: ds) env env2 (ns ++ ms)
end
def RG (X : Cx) (tg : Expr) : TG := fun v σ H Q => ∀ pins s u, Inv X pins σ H s → RelV v u → wpAny (model X.prog X.w) X.A (assign tg X.env u) (fun _ s' => ∃ σ' H', Inv X pins σ' H' s' ∧ Q σ' H') X.xe s
def RGs (X : Cx) (ts : List Expr) : TGs := fun vs σ H Q => ∀ pins s us, Inv X pins σ H s → Vals vs us → wpAny (model X.prog X.w) X.A (assignInOrder ((assignEach ts X.env).map (·.2)) us) (fun _ s' => ∃ σ' H', Inv X pins σ' H' s' ∧ Q σ' H') X.xe s
theorem pg_rg {X : Cx} {tg : Expr} : PG X tg (RG X tg) := ⟨fun pins s σ H v u Q I r h => h pins s u I r⟩
theorem pgs_rgs {X : Cx} {ts : List Expr} : PGs X ts (RGs X ts) := ⟨fun pins s σ H v u Q I r h => h pins s u I r⟩
theorem rg_of {X : Cx} {tg : Expr} {g : TG} (h : PG X tg g) {v : V} {σ : L2.St} {H : Hp} {Q : L2.St → Hp → Prop} (q : g v σ H Q) : RG X tg v σ H Q := fun pins s u I r => h.run pins s σ H v u Q I r q
theorem rgs_of {X : Cx} {ts : List Expr} {g : TGs} (h : PGs X ts g) {v : List V} {σ : L2.St} {H : Hp} {Q : L2.St → Hp → Prop} (q : g v σ H Q) : RGs X ts v σ H Q := fun pins s u I r => h.run pins s σ H v u Q I r q
theorem rg_mono {X : Cx} {tg : Expr} {v : V} {σ : L2.St} {H : Hp} {Q Q' : L2.St → Hp → Prop} (h : RG X tg v σ H Q) (m : ∀ σ' H', Q σ' H' → Q' σ' H') : RG X tg v σ H Q' := fun pins s u I r => thn (h pins s u I r) fun _ s' ⟨σ', H', I', q⟩ => ⟨σ', H', I', m _ _ q⟩
theorem rgs_mono {X : Cx} {tg : List Expr} {v : List V} {σ : L2.St} {H : Hp} {Q Q' : L2.St → Hp → Prop} (h : RGs X tg v σ H Q) (m : ∀ σ' H', Q σ' H' → Q' σ' H') : RGs X tg v σ H Q' := fun pins s u I r => thn (h pins s u I r) fun _ s' ⟨σ', H', I', q⟩ => ⟨σ', H', I', m _ _ q⟩
/-- behind the store -/
def TgP (B : Bd) (F : Hp) (H : Hp) (σ : L2.St) (env' : Env') (ns : List Str) : L2.St → Hp → Prop := fun σ' H' => H' = H ∧ At B F σ' H env' ∧ σ'.length = σ.length ∧ ∀ (j : Nat) (x : Str), B.X.N[j]? = some x → x ∉ ns → σ'[j]? = σ[j]?
mutual
theorem tg_run {B : Bd} (nd : B.X.N.Nodup) (hc : B.X.calm = true) : ∀ {tg : Expr} {d : Dt} {env env' : Env'} {ns : List Str}, TgE B.X tg d env env' ns → ∀ {F : Hp} {σ : L2.St} {H : Hp} {v : V}, At B F σ H env → Rep B.X.K F v d → RG B.X tg v σ H (TgP B F H σ env' ns)
  | _, _, _, _, _, .name (x := x) hp he hl hf, F, σ, H, v, A, r => by
    subst he
    obtain ⟨i, hi, hfi⟩ := hp.ix
    refine rg_of (pg_name nd (A.name hi) hl hf) ⟨rfl, ?_, by rw [List.length_set], fun j y hj hy => ?_⟩
    · rw [hfi]
      exact A.putD hi r
    · rw [List.getElem?_set_ne]
      intro e
      subst e
      rw [A.name hi] at hj
      cases hj
      exact hy List.mem_cons_self
  | _, _, _, _, _, .tup (es := es) t h1 h2, F, σ, H, v, A, r => by
    obtain ⟨p, vs, rfl, hp, rl⟩ := r.tupS A.ex
    exact rg_of (pg_tup hc pgs_rgs rfl h2) ⟨p, vs, rfl, hp, by rw [rl.length, h1], tgs_run nd hc t A rl⟩
theorem tgs_run {B : Bd} (nd : B.X.N.Nodup) (hc : B.X.calm = true) : ∀ {ts : List Expr} {ds : List Dt} {env env' : Env'} {ns : List Str}, TgsE B.X ts ds env env' ns → ∀ {F : Hp} {σ : L2.St} {H : Hp} {vs : List V}, At B F σ H env → RepL B.X.K F vs ds → RGs B.X ts vs σ H (TgP B F H σ env' ns)
  | _, _, _, _, _, .nil, F, σ, H, vs, A, r => by
    cases r
    exact rgs_of pgs_nil ⟨rfl, rfl, A, rfl, fun _ _ _ _ => rfl⟩
  | _, _, _, _, _, .cons t ts hs, F, σ, H, vs, A, r => by
    cases r with
    | cons r1 r2 =>
      refine rgs_of (pgs_cons pg_rg pgs_rgs hs) ⟨_, _, rfl, rg_mono (tg_run nd hc t A r1) fun σ1 H1 ⟨e1, A1, l1, k1⟩ => ?_⟩
      subst e1
      refine rgs_mono (tgs_run nd hc ts A1 r2) fun σ2 H2 ⟨e2, A2, l2, k2⟩ => ⟨e2, A2, l2.trans l1, fun j x hj hx => ?_⟩
      rw [List.mem_append] at hx
      rw [k2 j x hj fun z => hx (.inr z), k1 j x hj fun z => hx (.inl z)]
end

/-! ### what is walked -/
structure Walk (K : PySem.W.Frag) (F1 : Hp) (J : It) (ds : List Dt) : Prop where
  go : ∀ i H, Ex F1 H → i < ds.length → J.go i H
  stop : ∀ i H, Ex F1 H → ds.length ≤ i → J.stop i H
  yld : ∀ i F H x H', Ex F1 F → Ex F H → i < ds.length → J.yld i H x H' → ∃ F' d, Gr F H F' H' ∧ ds[i]? = some d ∧ Rep K F' x d
def RI (X : Cx) (tg iter : Expr) : TI := fun σ H R => ∀ pins s, Inv X pins σ H s → wpAny (model X.prog X.w) X.A (eval iter X.env) (fun v s1 => wpAny (model X.prog X.w) X.A (pyIter v) (PIE X pins σ tg R) X.xe s1) X.xe s
theorem pi_ri {X : Cx} {tg iter : Expr} : PI X tg iter (RI X tg iter) := ⟨fun pins s σ H R I h => h pins s I⟩
theorem ri_of {X : Cx} {tg iter : Expr} {w : TI} (h : PI X tg iter w) {σ : L2.St} {H : Hp} {R : It → Hp → Prop} (q : w σ H R) : RI X tg iter σ H R := fun pins s I => h.run pins s σ H R I q
theorem ri_mono {X : Cx} {tg iter : Expr} {σ : L2.St} {H : Hp} {R R' : It → Hp → Prop} (h : RI X tg iter σ H R) (m : ∀ J H', R J H' → R' J H') : RI X tg iter σ H R' := fun pins s I =>
  thn (h pins s I) fun v s1 h1 => thn h1 fun u s2 ⟨it, fp, tn, J, H', e, I', T, st, f, q⟩ => ⟨it, fp, tn, J, H', e, I', T, st, f, m _ _ q⟩
structure WIt (B : Bd) (tg iter : Expr) (env : Env') (Ξ : List Dt → Prop) : Prop where
  mk ::
  run : ∀ F σ H, At B F σ H env → RI B.X tg iter σ H fun J H1 => ∃ F1 ds, Gr F H F1 H1 ∧ Walk B.X.K F1 J ds ∧ Ξ ds
instance (B : Bd) (tg iter : Expr) (env : Env') (Ξ : List Dt → Prop) : CoeFun (WIt B tg iter env Ξ) (fun _ => ∀ F σ H, At B F σ H env → RI B.X tg iter σ H fun J H1 => ∃ F1 ds, Gr F H F1 H1 ∧ Walk B.X.K F1 J ds ∧ Ξ ds) := ⟨WIt.run⟩

section
variable {B : Bd} {tg iter a : Expr} {env : Env'} {Ξ : List Dt → Prop} {p pos : Pos}
theorem wi_l (h : WE B iter env fun d => ∃ ds, d = .lst ds ∧ Ξ ds) : WIt B tg iter env Ξ := .mk fun F σ H A => ri_of (pi_list pe_re) (re_mono (h F σ H A) fun v H1 ⟨F1, d, g, r, ds, e, q⟩ => by
  subst e
  cases r with
  | lst ha rl =>
    refine ⟨_, rfl, ⟨_, SqL.of (g.fh _ _ ha)⟩, F1, ds, g, ⟨fun i H' e hi => ?_, fun i H' e hi => ?_, fun i F' H' x H2 e e2 hi y => ?_⟩, q⟩
    · obtain ⟨v, hv, _⟩ := rl.get' (List.getElem?_eq_getElem hi)
      exact ⟨_, v, SqL.of (e _ _ ha), hv⟩
    · exact ⟨_, SqL.of (e _ _ ha), by rw [rl.length]; exact hi⟩
    · obtain ⟨eH, y⟩ := y
      subst eH
      obtain ⟨d, hd, rd⟩ := rl.get (y _ (SqL.of (e2 _ _ (e _ _ ha))))
      exact ⟨F', d, .refl e2, hd, rd.mono e⟩)
theorem wi_t (h : WE B iter env fun d => ∃ nd ds, d = .tup nd ds ∧ Ξ ds) : WIt B tg iter env Ξ := .mk fun F σ H A => ri_of (pi_tup pe_re) (re_mono (h F σ H A) fun v H1 ⟨F1, d, g, r, nd, ds, e, q⟩ => by
  subst e
  obtain ⟨p, vs, rfl, hp, rl⟩ := r.tupS (.refl F1)
  have sq : ∀ H', Ex F1 H' → SqT B.X.K H' p vs := fun H' e => by
    obtain ⟨p', vs', e1, hp', rl'⟩ := r.tupS e
    cases e1
    rcases hp with hp | hp
    · exact .inl (ex_rd e hp)
    · exact .inr hp
  refine ⟨_, rfl, ⟨_, sq _ g.fh⟩, F1, ds, g, ⟨fun i H' e hi => ?_, fun i H' e hi => ?_, fun i F' H' x H2 e e2 hi y => ?_⟩, q⟩
  · obtain ⟨v, hv, _⟩ := rl.get' (List.getElem?_eq_getElem hi)
    exact ⟨_, v, sq _ e, hv⟩
  · exact ⟨_, sq _ e, by rw [rl.length]; exact hi⟩
  · obtain ⟨eH, y⟩ := y
    subst eH
    obtain ⟨d, hd, rd⟩ := rl.get (y _ (sq _ (e.trans e2)))
    exact ⟨F', d, .refl e2, hd, rd.mono e⟩)
theorem wi_x (h : WE B iter env fun d => ∃ ns : List Int, d = .scr ns ∧ Ξ (ns.map .int)) : WIt B tg iter env Ξ := .mk fun F σ H A => ri_of (pi_list pe_re) (re_mono (h F σ H A) fun v H1 ⟨F1, d, g, r, ns, e, q⟩ => by
  subst e
  cases r with
  | scr ha =>
    refine ⟨_, rfl, ⟨_, ex_l g.fh ha⟩, F1, ns.map .int, g, ⟨fun i H' e hi => ?_, fun i H' e hi => ?_, fun i F' H' x H2 e e2 hi y => ?_⟩, q⟩
    · rw [List.length_map] at hi
      exact ⟨_, .int ns[i], ex_l e ha, by rw [List.getElem?_map, List.getElem?_eq_getElem hi]; rfl⟩
    · exact ⟨_, ex_l e ha, by rw [List.length_map] at hi ⊢; exact hi⟩
    · obtain ⟨eH, y⟩ := y
      subst eH
      have z := y _ (ex_l (e.trans e2) ha)
      rw [List.length_map] at hi
      rw [List.getElem?_map, List.getElem?_eq_getElem hi] at z
      cases z
      exact ⟨F', .int ns[i], .refl e2, by rw [List.getElem?_map, List.getElem?_eq_getElem hi]; rfl, .int _⟩)
theorem wi_s (h : WE B iter env fun d => ∃ z : Str, d = .str z ∧ Ξ (z.cps.toList.map fun c => .str ⟨#[c]⟩)) : WIt B tg iter env Ξ := .mk fun F σ H A => ri_of (pi_str pe_re) (re_mono (h F σ H A) fun v H1 ⟨F1, d, g, r, z, e, q⟩ => by
  subst e
  cases r
  refine ⟨z, rfl, F1, _, g, ⟨fun i H' e hi => ?_, fun i H' e hi => ?_, fun i F' H' x H2 e e2 hi y => ?_⟩, q⟩
  · rw [List.length_map, Array.length_toList] at hi
    exact hi
  · rw [List.length_map, Array.length_toList] at hi
    exact hi
  · obtain ⟨eH, c, hc, ex⟩ := y
    subst eH
    subst ex
    refine ⟨F', _, .refl e2, ?_, .str _⟩
    rw [List.getElem?_map, Array.getElem?_toList, hc]
    rfl)
theorem wi_r (hm : B.X.mg "range" = none) (h : WE B a env fun d => ∃ n : Nat, d = .int (n : Int) ∧ n < 1000000 ∧ Ξ ((List.range n).map fun (i : Nat) => .int (i : Int))) (hg : Gl B.X "range" := by rfl) (hs : starEach [a] B.X.env = [(false, eval a B.X.env)] := by rfl) : WIt B tg (.Call (.Name "range" p) [a] [] pos) env Ξ := .mk fun F σ H A =>
  ri_of (pi_range1 hg hm (pa_cons pe_re pa_nil (by rw [hs]; rfl)) hs) (re_mono (h F σ H A) fun v H1 ⟨F1, d, g, r, n, e, hn, q⟩ => by
    subst e
    cases r
    refine ⟨(n : Int), rfl, by omega, by omega, F1, _, g, ⟨fun i H' e hi => ?_, fun i H' e hi => ?_, fun i F' H' x H2 e e2 hi y => ?_⟩, q⟩
    · rw [List.length_map, List.length_range] at hi
      show i < (n : Int).toNat
      rw [Int.toNat_natCast]
      exact hi
    · rw [List.length_map, List.length_range] at hi
      show (n : Int).toNat ≤ i
      rw [Int.toNat_natCast]
      exact hi
    · obtain ⟨eH, ex⟩ := y
      subst eH
      subst ex
      rw [List.length_map, List.length_range] at hi
      refine ⟨F', .int (i : Int), .refl e2, ?_, ?_⟩
      · rw [List.getElem?_map, List.getElem?_range hi]
        rfl
      · rw [Int.zero_add]
        exact .int _)
end

/-! ### for, while -/
section
variable {B : Bd} {tg iter c : Expr} {env : Env'} {body : List Stmt} {D : AE} {pos : Pos}
theorem take_at {α : Type} {xs : List α} {i : Nat} {x : α} (h : xs[i]? = some x) : xs = xs.take i ++ x :: xs.drop (i + 1) ∧ xs.take (i + 1) = xs.take i ++ [x] := by
  obtain ⟨hl, rfl⟩ := List.getElem?_eq_some_iff.mp h
  constructor
  · rw [List.getElem_cons_drop, List.take_append_drop]
  · rw [List.take_add_one, h]
    rfl
theorem ws_for {α : Type} {nx : Env' → Prop} {rt : PD} {bk ct : Env' → Prop} (xs : List α) (enc : α → Dt) (I : List α → Env' → Prop) (hi : WIt B tg iter env fun ds => ds = xs.map enc) (h0 : I [] env)
    (hs : ∀ pre x post env1, xs = pre ++ x :: post → I pre env1 → ∃ env2 ns, TgE B.X tg (enc x) env1 env2 ns ∧ WB B body env2 ⟨I (pre ++ [x]), rt, nx, I (pre ++ [x])⟩)
    (hd : ∀ env1, I xs env1 → nx env1) (nd : B.X.N.Nodup) (hc : B.X.calm = true := by rfl) (hp : PassesOwn (model B.X.prog B.X.w) B.X.A B.X.env B.X.xe := by exact PassesOwn.never) (hf : ∀ x, foldedSetIterable iter B.X.env x = pure x := by intro _; rfl) :
    WS B (.For tg iter body [] pos) env ⟨nx, rt, bk, ct⟩ := .mk fun F σ H A => by
  refine rs_of (ps_for hp hc pi_ri pg_rg pss_re hf) (ri_mono (hi F σ H A) fun J H1 ⟨F1, ds, g, W, e⟩ => ?_)
  subst e
  have hlen : (xs.map enc).length = xs.length := List.length_map ..
  refine ⟨fun i m σ' H' => m = xs.length - i ∧ i ≤ xs.length ∧ toS B F1 (I (xs.take i)) σ' H', ⟨xs.length, by omega, Nat.zero_le _, F1, env, .refl _, A.grow g, h0⟩, ?_⟩
  rintro i m σ' H' ⟨rfl, hle, F2, env1, e1, A1, q1⟩
  by_cases hlt : i < xs.length
  · have ex : Ex F1 H' := e1.trans A1.ex
    have hx : xs[i]? = some xs[i] := List.getElem?_eq_getElem hlt
    obtain ⟨hsplit, htake⟩ := take_at hx
    obtain ⟨env2, ns, T, hb⟩ := hs (xs.take i) xs[i] (xs.drop (i + 1)) env1 hsplit q1
    refine .inr ⟨W.go i H' ex (by rw [hlen]; exact hlt), toS B F1 (I (xs.take (i + 1))), fun σ2 H2 q => ⟨xs.length - (i + 1), by omega, rfl, hlt, q⟩, fun x H2 y => ?_⟩
    obtain ⟨F3, d, g3, hd', r⟩ := W.yld i F2 H' x H2 e1 A1.ex (by rw [hlen]; exact hlt) y
    rw [List.getElem?_map, hx] at hd'
    cases hd'
    refine rg_mono (tg_run nd hc T (A1.grow g3) r) fun σ4 H4 ⟨e4, A4, _, _⟩ => ?_
    subst e4
    refine rb_mono (hb F3 σ4 H4 A4) ?_ (fun _ _ q => q) ?_ ?_
    · intro σ5 H5 q
      show toS B F1 (I (xs.take (i + 1))) σ5 H5
      rw [htake]
      exact toS.ex (e1.trans g3.f) _ _ q
    · intro σ5 H5 q
      exact toS.ex ((g.f.trans e1).trans g3.f) _ _ q
    · intro σ5 H5 q
      show toS B F1 (I (xs.take (i + 1))) σ5 H5
      rw [htake]
      exact toS.ex (e1.trans g3.f) _ _ q
  · have e : i = xs.length := by omega
    subst e
    refine .inl ⟨W.stop _ H' (e1.trans A1.ex) (by rw [hlen]; exact Nat.le_refl _), F2, env1, g.f.trans e1, A1, hd env1 ?_⟩
    rw [List.take_length] at q1
    exact q1
theorem ws_while {nx : Env' → Prop} {rt : PD} {bk ct : Env' → Prop} (W : Nat → Env' → Prop) (m0 : Nat) (h0 : W m0 env)
    (hs : ∀ m env1, W m env1 → WT B c env1 fun b => if b = true then WB B body env1 ⟨fun e => ∃ m', m' < m ∧ W m' e, rt, nx, fun e => ∃ m', m' < m ∧ W m' e⟩ else nx env1)
    (hp : PassesOwn (model B.X.prog B.X.w) B.X.A B.X.env B.X.xe := by exact PassesOwn.never) : WS B (.While c body [] pos) env ⟨nx, rt, bk, ct⟩ := .mk fun F σ H A => by
  refine rs_of (ps_while hp pt_re pss_re) ⟨fun m σ' H' => toS B F (W m) σ' H', ⟨m0, F, env, .refl _, A, h0⟩, fun m σ' H' ⟨F1, env1, e1, A1, q1⟩ => ?_⟩
  refine rt_mono (hs m env1 q1 F1 σ' H' A1) fun b H2 ⟨F2, g2, q2⟩ => ?_
  have A2 := A1.grow g2
  cases b with
  | true =>
    rw [if_pos rfl] at q2
    refine ⟨toS B F fun e => ∃ m', m' < m ∧ W m' e, fun σ3 H3 ⟨F3, env3, e3, A3, m', hm, w⟩ => ⟨m', hm, F3, env3, e3, A3, w⟩, ?_⟩
    exact rb_ex (e1.trans g2.f) (q2 F2 σ' H2 A2)
  | false =>
    rw [if_neg Bool.false_ne_true] at q2
    exact ⟨F2, env1, e1.trans g2.f, A2, q2⟩
end

/-! ### list comprehensions -/
def RTs (X : Cx) (ifs : List Expr) : TT := fun σ H Q => ∀ pins s, Inv X pins σ H s →
  wpAny (model X.prog X.w) X.A
    (forIn ifs true fun c r => if r = true then do let ok ← isTrue c X.env (eval c X.env); pure (ForInStep.yield ok) else pure (ForInStep.yield r))
    (TP X pins σ Q) X.xe s
theorem rts_of {X : Cx} {ifs : List Expr} {t : TT} (h : PTs X ifs t) {σ : L2.St} {H : Hp} {Q : Bool → Hp → Prop} (q : t σ H Q) : RTs X ifs σ H Q := fun pins s I => h.run pins s σ H Q I q
theorem rts_mono {X : Cx} {e : List Expr} {σ : L2.St} {H : Hp} {Q Q' : Bool → Hp → Prop} (h : RTs X e σ H Q) (m : ∀ v H', Q v H' → Q' v H') : RTs X e σ H Q' := fun pins s I =>
  thn (h pins s I) fun u s' ⟨H', I', q⟩ => ⟨H', I', m _ H' q⟩
structure WTs (B : Bd) (ifs : List Expr) (env : Env') (Φ : Bool → Prop) : Prop where
  mk ::
  run : ∀ F σ H, At B F σ H env → RTs B.X ifs σ H (postT F H Φ)
instance (B : Bd) (ifs : List Expr) (env : Env') (Φ : Bool → Prop) : CoeFun (WTs B ifs env Φ) (fun _ => ∀ F σ H, At B F σ H env → RTs B.X ifs σ H (postT F H Φ)) := ⟨WTs.run⟩

theorem wts_nil {B : Bd} {env : Env'} {Φ : Bool → Prop} (h : Φ true) : WTs B [] env Φ := .mk fun F σ H A => rts_of pts_nil ⟨F, .refl A.ex, h⟩
theorem wts_one {B : Bd} {env : Env'} {c : Expr} {Φ : Bool → Prop} (h : WT B c env Φ) : WTs B [c] env Φ := .mk fun F σ H A => rts_of (pts_one pt_re) (h F σ H A)
/-- the block's context -/
abbrev Bk (B : Bd) (scope : Scope) (s : Shared) (H : Hp) (C : Addr) (cl : List (Str × Addr)) (fp : List Addr) : Bd := ⟨B.X.blk s H scope (compEnvC scope cl C B.X.env) fp, B.F0, B.H0⟩
theorem At.bk {B : Bd} {F H : Hp} {σ : L2.St} {env : Env'} (A : At B F σ H env) (scope : Scope) (s : Shared) (Hh : Hp) (C : Addr) (cl : List (Str × Addr)) (fp : List Addr) : At (Bk B scope s Hh C cl fp) F σ H env := ⟨A.names, A.len, A.g, A.ok, A.apart⟩
theorem wipe_out' {σ : L2.St} {i : Nat} : ∀ {vs : List Nat}, i ∉ vs → (wipe σ vs)[i]? = σ[i]? := wipe_out
theorem wipe_eq {σ σ2 : L2.St} : ∀ {vs : List Nat}, σ2.length = σ.length → (∀ j, j ∉ vs → σ2[j]? = σ[j]?) → wipe σ2 vs = wipe σ vs := fun {vs} hl h => by
  apply List.ext_getElem?
  intro j
  by_cases hj : j ∈ vs
  · have key : ∀ (τ : L2.St) (ws : List Nat), j ∈ ws → (wipe τ ws)[j]? = if j < τ.length then some none else none := by
      intro τ ws
      induction ws with
      | nil => intro h; cases h
      | cons w ws ih =>
        intro h
        unfold wipe
        rw [List.getElem?_set]
        by_cases e : w = j
        · rw [if_pos e, wipe_length]
          subst e
          rfl
        · rw [if_neg e]
          exact ih ((List.mem_cons.mp h).resolve_left fun z => e z.symm)
    rw [key _ _ hj, key _ _ hj, hl]
  · rw [wipe_out hj, wipe_out hj, h j hj]
section
variable {B : Bd} {tg iter elt : Expr} {ifs : List Expr} {env : Env'} {D : AE} {pos : Pos} {scope : Scope} {own : List (Str × Nat)} {α : Type}
theorem At.wipe {F H : Hp} {σ : L2.St} (A : At B F σ H env) : ∀ {vs : List Nat}, (∀ v ∈ vs, ∃ x, env[v]? = some (x, .un)) → At B F (L2.wipe σ vs) H env := by
  intro vs
  induction vs with
  | nil => intro _; exact A
  | cons v vs ih =>
    intro h
    obtain ⟨x, hx⟩ := h v List.mem_cons_self
    have A1 := ih fun w hw => h w (List.mem_cons_of_mem _ hw)
    have A2 := A1.putU (i := v) (o := none) hx
    have e : env.set v (x, .un) = env := by
      apply List.ext_getElem?
      intro j
      rw [List.getElem?_set]
      by_cases hj : v = j
      · subst hj
        rw [if_pos rfl, if_pos (List.getElem?_eq_some_iff.mp hx).1, hx]
      · rw [if_neg hj]
    rw [e] at A2
    exact A2
def gB (B : Bd) (scope : Scope) (tg : Expr) : TG := fun v σ H Q => ∀ s Hh C cl fp, RG (Bk B scope s Hh C cl fp).X tg v σ H Q
def tB' (B : Bd) (scope : Scope) (ifs : List Expr) : TT := fun σ H Q => ∀ s Hh C cl fp, RTs (Bk B scope s Hh C cl fp).X ifs σ H Q
def eB (B : Bd) (scope : Scope) (elt : Expr) : TE := fun σ H Q => ∀ s Hh C cl fp, RE (Bk B scope s Hh C cl fp).X elt σ H Q
/-- the whole run -/
theorem lc_run {F H : Hp} {σ : L2.St} {Q : VK} (xs : List α) (enc : α → Dt) (keep : α → Bool) (val : α → Dt) (E2 : α → Env') (ns : List Str) (nd : B.X.N.Nodup) (hc : B.X.calm = true) (hun : ∀ p ∈ own, env[p.2]? = some (p.1, .un)) (hns : ∀ x ∈ ns, x ∈ own.map (·.1)) (hz : xs.length ≤ 1000000)
    (hT : ∀ x ∈ xs, ∀ s Hh C cl fp, TgE (Bk B scope s Hh C cl fp).X tg (enc x) env (E2 x) ns) (ht : ∀ x ∈ xs, ∀ s Hh C cl fp, WTs (Bk B scope s Hh C cl fp) ifs (E2 x) fun b => b = keep x)
    (he : ∀ x ∈ xs, keep x = true → ∀ s Hh C cl fp, WE (Bk B scope s Hh C cl fp) elt (E2 x) fun d => d = val x) (A : At B F σ H env) (hi : RI B.X tg iter σ H fun J H1 => ∃ F1 ds, Gr F H F1 H1 ∧ Walk B.X.K F1 J ds ∧ ds = xs.map enc)
    (hQ : ∀ v H', postL B.X.K F H (fun ds => ds = (xs.filter keep).map val) v H' → Q v H') : tLc (RI B.X tg iter) (gB B scope tg) (tB' B scope ifs) (eB B scope elt) (own.map (·.2)) σ H Q := by
  refine ri_mono hi fun J H1 ⟨F1, ds, g, W, e⟩ => ?_
  subst e
  have hlen : (xs.map enc).length = xs.length := List.length_map ..
  intro Dl hD
  have A1 := A.grow g
  refine ⟨fun i m H' => m = xs.length - i ∧ i ≤ xs.length ∧ ∃ F' vs, Gr F1 H1 F' H' ∧ F' Dl = none ∧ H' Dl = some (.lst vs) ∧ RepL B.X.K F' vs (((xs.take i).filter keep).map val), ⟨xs.length, by omega, Nat.zero_le _, F1, [], Gr.own g.fh hD, g.fh.none hD, upd_same, .nil⟩, ?_⟩
  rintro i m H' ⟨rfl, hle, F', vs, g2, fD, hDl, rl⟩
  by_cases hlt : i < xs.length
  · have hx : xs[i]? = some xs[i] := List.getElem?_eq_getElem hlt
    have hm : xs[i] ∈ xs := List.getElem_mem hlt
    obtain ⟨_, htake⟩ := take_at hx
    refine .inr ⟨W.go i H' (g2.f.trans g2.fh) (by rw [hlen]; exact hlt), fun H'' => i + 1 ≤ xs.length ∧ ∃ F' vs, Gr F1 H1 F' H'' ∧ F' Dl = none ∧ H'' Dl = some (.lst vs) ∧ RepL B.X.K F' vs (((xs.take (i + 1)).filter keep).map val),
      fun H2 q => ⟨xs.length - (i + 1), by omega, rfl, q.1, q.2⟩, fun x H2 y => ?_⟩
    obtain ⟨F3, d, g3, hd', r⟩ := W.yld i F' H' x H2 g2.f g2.fh (by rw [hlen]; exact hlt) y
    rw [List.getElem?_map, hx] at hd'
    cases hd'
    have dD : ∀ {Fa Ha Fb Hb : Hp}, Gr Fa Ha Fb Hb → Fa Dl = none → Ha Dl = some (.lst vs) → Fb Dl = none ∧ Hb Dl = some (.lst vs) := fun {Fa Ha Fb Hb} ga fa ha => by
      refine ⟨?_, ga.h _ _ ha⟩
      cases q : Fb Dl with
      | none => rfl
      | some o =>
        have z := ga.new _ _ q fa
        rw [ha] at z
        cases z
    obtain ⟨fD3, hD3⟩ := dD g3 fD hDl
    have G3 := g2.trans g3
    have A3 : At B F3 σ H2 env := A1.grow G3
    have A3w : At B F3 (L2.wipe σ (own.map (·.2))) H2 env := A3.wipe fun v hv => by
      obtain ⟨p, hp, rfl⟩ := List.mem_map.mp hv
      exact ⟨p.1, hun p hp⟩
    have wl : (L2.wipe σ (own.map (·.2))).length = σ.length := wipe_length _ _
    intro s Hh C cl fp
    refine rg_mono (tg_run (B := Bk B scope s Hh C cl fp) nd hc (hT _ hm s Hh C cl fp) (A3w.bk scope s Hh C cl fp) r) fun σ4 H4 ⟨e4, A4, l4, k4⟩ => ?_
    subst e4
    have A4' : At B F3 σ4 H4 (E2 xs[i]) := ⟨A4.names, A4.len, A4.g, A4.ok, A4.apart⟩
    refine ⟨wipe_eq (l4.trans wl) fun j hj => ?_, ?_⟩
    · have hj2 : (L2.wipe σ (own.map (·.2)))[j]? = σ[j]? := wipe_out hj
      rw [← hj2]
      by_cases hjl : j < env.length
      · have hn : B.X.N[j]? = some env[j].1 := by
          rw [A.names, List.getElem?_map, List.getElem?_eq_getElem hjl]
          rfl
        refine k4 j env[j].1 hn fun z => hj ?_
        obtain ⟨p, hp, e⟩ := List.mem_map.mp (hns _ z)
        have hq : B.X.N[p.2]? = some p.1 := A.name (hun p hp)
        rw [e] at hq
        have := nodup_ix nd hn hq
        rw [this]
        exact List.mem_map.mpr ⟨p, hp, rfl⟩
      · rw [List.getElem?_eq_none, List.getElem?_eq_none]
        · rw [wl, A.len]
          omega
        · rw [l4, wl, A.len]
          omega
    · intro s Hh C cl fp
      refine rts_mono (ht _ hm s Hh C cl fp F3 σ4 H4 (A4'.bk scope s Hh C cl fp)) fun b H5 ⟨F5, g5, eb⟩ => ?_
      subst eb
      obtain ⟨fD5, hD5⟩ := dD g5 fD3 hD3
      have G5 := G3.trans g5
      cases hk : keep xs[i] with
      | true =>
        rw [if_pos rfl]
        intro s Hh C cl fp
        refine re_mono (he _ hm hk s Hh C cl fp F5 σ4 H5 ((A4'.grow g5).bk scope s Hh C cl fp)) fun yv H6 ⟨F6, d, g6, r6, ed⟩ => ?_
        subst ed
        obtain ⟨fD6, hD6⟩ := dD g6 fD5 hD5
        have G6 := G5.trans g6
        have lv : vs.length ≤ xs.length := by
          rw [rl.length, List.length_map]
          refine Nat.le_trans (List.length_filter_le _ _) ?_
          rw [List.length_take]
          omega
        refine ⟨vs, hD6, ?_, hlt, F6, vs ++ [yv], ⟨G6.f, G6.fh.mut fD6, G6.h.mut hD, G6.new⟩, fD6, upd_same, ?_⟩
        · rw [sizeLine_eq]
          omega
        · rw [htake, List.filter_append, List.map_append]
          refine (rl.mono ((g3.f.trans g5.f).trans g6.f)).append ?_
          rw [List.filter_cons, if_pos hk]
          exact .cons r6 .nil
      | false =>
        rw [if_neg Bool.false_ne_true]
        refine ⟨hlt, F5, vs, G5, fD5, hD5, ?_⟩
        rw [htake, List.filter_append, List.filter_cons, if_neg (by rw [hk]; exact Bool.false_ne_true)]
        show RepL _ _ _ (((xs.take i).filter keep ++ []).map val)
        rw [List.append_nil]
        exact rl.mono (g3.f.trans g5.f)
  · have e : i = xs.length := by omega
    subst e
    refine .inl ⟨W.stop _ H' (g2.f.trans g2.fh) (by rw [hlen]; exact Nat.le_refl _), hQ _ _ ?_⟩
    rw [List.take_length] at rl
    exact ⟨F', Dl, vs, _, rfl, g.trans g2, g.h.none hD, fD, hDl, rl, rfl⟩
theorem wl_lc (own : List (Str × Nat)) (xs : List α) (enc : α → Dt) (keep : α → Bool) (val : α → Dt) (E2 : α → Env') (ns : List Str) {Ψ : List Dt → Prop} (hi : WIt B tg iter env fun ds => ds = xs.map enc) (hz : xs.length ≤ 1000000)
    (hT : ∀ x ∈ xs, ∀ s Hh C cl fp, TgE (Bk B scope s Hh C cl fp).X tg (enc x) env (E2 x) ns) (ht : ∀ x ∈ xs, ∀ s Hh C cl fp, WTs (Bk B scope s Hh C cl fp) ifs (E2 x) fun b => b = keep x)
    (he : ∀ x ∈ xs, keep x = true → ∀ s Hh C cl fp, WE (Bk B scope s Hh C cl fp) elt (E2 x) fun d => d = val x) (hQ : Ψ ((xs.filter keep).map val))
    (nd : B.X.N.Nodup) (ok : BlkOk B.X.N B.X.env.scope scope own) (hun : ∀ p ∈ own, env[p.2]? = some (p.1, .un)) (hns : ∀ x ∈ ns, x ∈ own.map (·.1)) (hc : B.X.calm = true := by rfl) (hs : ∀ x, foldedSetIterable iter B.X.env x = pure x := by intro _; rfl) :
    WL B (.ListComp elt [⟨tg, iter, ifs, 0⟩] scope pos) env Ψ := .mk fun F σ H A =>
  re_of (pe_lc (wi := RI B.X tg iter) (g := gB B scope tg) (tt := tB' B scope ifs) (te := eB B scope elt) hc nd pi_ri ok (fun s Hh C cl fp => ⟨fun pins s' σ H v u Q I r h => h s Hh C cl fp pins s' u I r⟩) (fun s Hh C cl fp => ⟨fun pins s' σ H Q I h => h s Hh C cl fp pins s' I⟩) (fun s Hh C cl fp => ⟨fun pins s' σ H Q I h => h s Hh C cl fp pins s' I⟩) hs)
    (lc_run xs enc keep val E2 ns nd hc hun hns hz hT ht he A (hi F σ H A) fun v H' ⟨F', l, vs, ds, e, g, n, f, hl, r, q⟩ => ⟨F', l, vs, ds, e, g, n, f, hl, r, by rw [q]; exact hQ⟩)
/-- y = [..] on a line, y a local -/
theorem ws_lc {y : Str} {py spos : Pos} {t : SD} {f : SD → Env'} (own : List (Str × Nat)) (xs : List α) (enc : α → Dt) (keep : α → Bool) (val : α → Dt) (E2 : α → Env') (ns : List Str) (hp : Pl env y t f) (hi : WIt B tg iter env fun ds => ds = xs.map enc) (hz : xs.length ≤ 1000000)
    (hT : ∀ x ∈ xs, ∀ s Hh C cl fp, TgE (Bk B scope s Hh C cl fp).X tg (enc x) env (E2 x) ns) (ht : ∀ x ∈ xs, ∀ s Hh C cl fp, WTs (Bk B scope s Hh C cl fp) ifs (E2 x) fun b => b = keep x)
    (he : ∀ x ∈ xs, keep x = true → ∀ s Hh C cl fp, WE (Bk B scope s Hh C cl fp) elt (E2 x) fun d => d = val x) (hQ : D.nx (f (.own ((xs.filter keep).map val))))
    (nd : B.X.N.Nodup) (ok : BlkOk B.X.N B.X.env.scope scope own) (hun : ∀ p ∈ own, env[p.2]? = some (p.1, .un)) (hns : ∀ x ∈ ns, x ∈ own.map (·.1)) (hyl : B.X.env.scope.names.lookup y = some .local := by rfl)
    (hsw : swapsWith (.ListComp elt [⟨tg, iter, ifs, 0⟩] scope pos) (some (.Name y py)) spos.line B.X.env = pure true := by exact sw_true rfl rfl rfl (by decide +kernel)) (hc : B.X.calm = true := by rfl) (hs : ∀ x, foldedSetIterable iter B.X.env x = pure x := by intro _; rfl) :
    WS B (.Assign [.Name y py] (.ListComp elt [⟨tg, iter, ifs, 0⟩] scope pos) spos) env D := .mk fun F σ H A => by
  obtain ⟨i, hi', hfi⟩ := hp.ix
  refine rs_of (ps_setLc (wi := RI B.X tg iter) (g := gB B scope tg) (tt := tB' B scope ifs) (te := eB B scope elt) hc nd (A.name hi') hyl hsw pi_ri ok (fun s Hh C cl fp => ⟨fun pins s' σ H v u Q I r h => h s Hh C cl fp pins s' u I r⟩) (fun s Hh C cl fp => ⟨fun pins s' σ H Q I h => h s Hh C cl fp pins s' I⟩) (fun s Hh C cl fp => ⟨fun pins s' σ H Q I h => h s Hh C cl fp pins s' I⟩) hs)
    (lc_run xs enc keep val E2 ns nd hc hun hns hz hT ht he A (hi F σ H A) fun v H' ⟨F', l, vs, ds, e, g, n, fl, hl, r, q⟩ => ?_)
  subst e
  subst q
  refine ⟨F', _, g.f, A.putL hi' g n fl hl r, ?_⟩
  rw [← hfi]
  exact hQ
end
end Fw
namespace Fw
open PySem PySem.Spec L2

/-! ### promises of defs -/
/-- what a def does with data: T ds Φ: called with ds, every answer is one of Φ -/
abbrev TD := List Dt → PD → Prop
def spT (K : PySem.W.Frag) (T : TD) : Sp := fun vs H Q _ => ∃ F ds Φ, Ex F H ∧ RepL K F vs ds ∧ T ds Φ ∧ ∀ v H' F' d, Gr F H F' H' → Rep K F' v d → Φ d → Q v H'
structure Df (K : PySem.W.Frag) (mg : Str → Option Value) (x : Str) (st : Stmt) (f : Addr) (fd : FuncData) : Prop where
  at_ : mg x = some (.ref f)
  fn : FunD K x x (defArgs st) (defBody st) (defScope st) [] [] f fd
structure Ok (P : Program) (w : World) (K : PySem.W.Frag) (mg : Str → Option Value) (base : Heap) (k : Nat) (x : Str) (ps : List Str) (T : TD) : Prop where
  ex : ∃ f fd, mg x = some (.ref f) ∧ PySem.W.keepIn K (.ref f) = true ∧ Binds K fd ps [] ∧ FnOk P w K mg base CX0 k f fd ps (spT K T)
def mkE : List Str → List Dt → Env'
  | [], _ => []
  | n :: N, [] => (n, .un) :: mkE N []
  | n :: N, d :: ds => (n, .dat d) :: mkE N ds
theorem mkE_names : ∀ (N : List Str) (ds : List Dt), N = (mkE N ds).map (·.1)
  | [], _ => rfl
  | n :: N, [] => congrArg (n :: ·) (mkE_names N [])
  | n :: N, d :: ds => congrArg (n :: ·) (mkE_names N ds)
theorem mkE_len (N : List Str) (ds : List Dt) : (mkE N ds).length = N.length := by
  have e := congrArg List.length (mkE_names N ds)
  rw [List.length_map] at e
  exact e.symm
theorem mkE_at : ∀ {N : List Str} {ds : List Dt} {i : Nat} {x : Str} {s : SD}, (mkE N ds)[i]? = some (x, s) → (∃ d, ds[i]? = some d ∧ s = .dat d) ∨ (ds.length ≤ i ∧ s = .un)
  | [], _, _, _, _, h => by simp [mkE] at h
  | n :: N, [], 0, x, s, h => by
    simp [mkE] at h
    exact .inr ⟨Nat.zero_le _, h.2.symm⟩
  | n :: N, [], i + 1, x, s, h => by
    rcases mkE_at (N := N) (ds := []) (i := i) (by simpa [mkE] using h) with ⟨d, h1, _⟩ | ⟨_, h2⟩
    · simp at h1
    · exact .inr ⟨Nat.zero_le _, h2⟩
  | n :: N, d :: ds, 0, x, s, h => by
    simp [mkE] at h
    exact .inl ⟨d, rfl, h.2.symm⟩
  | n :: N, d :: ds, i + 1, x, s, h => by
    rcases mkE_at (N := N) (ds := ds) (i := i) (by simpa [mkE] using h) with ⟨e, h1, h2⟩ | ⟨h1, h2⟩
    · exact .inl ⟨e, by simpa using h1, h2⟩
    · exact .inr ⟨by simpa using h1, h2⟩
theorem start_at {N : List Str} {vs : List V} {i : Nat} {v : V} (h : vs[i]? = some v) : (L2.start N vs)[i]? = some (some v) := by
  have hl := (List.getElem?_eq_some_iff.mp h).1
  unfold L2.start
  rw [List.getElem?_append_left (by simpa using hl), List.getElem?_map, h]
  rfl
theorem start_len {N : List Str} {vs : List V} (h : vs.length ≤ N.length) : (L2.start N vs).length = N.length := by
  unfold L2.start
  rw [List.length_append, List.length_map, List.length_replicate]
  omega
theorem at_start {X : Cx} {F H : Hp} {vs : List V} {ds : List Dt} (e : Ex F H) (r : RepL X.K F vs ds) (hl : vs.length ≤ X.N.length) : At ⟨X, F, H⟩ F (L2.start X.N vs) H (mkE X.N ds) := by
  refine ⟨mkE_names _ _, by rw [start_len hl, mkE_len], .refl e, fun i x s h => ?_, fun i j l x y s t hj h1 w1 q1 h2 w2 q2 => ?_⟩
  · rcases mkE_at h with ⟨d, h1, rfl⟩ | ⟨h1, rfl⟩
    · obtain ⟨v, hv, rv⟩ := r.get' h1
      exact ⟨some v, start_at hv, v, rfl, rv⟩
    · have hi : i < (L2.start X.N vs).length := by
        rw [start_len hl, ← mkE_len X.N ds]
        exact (List.getElem?_eq_some_iff.mp h).1
      exact ⟨_, List.getElem?_eq_getElem hi, trivial⟩
  · rcases mkE_at h1 with ⟨d, _, rfl⟩ | ⟨_, rfl⟩ <;> cases w1
abbrev bdOf (P : Program) (w : World) (K : PySem.W.Frag) (mg : Str → Option Value) (base : Heap) (N : List Str) (qual : Str) (st : Stmt) (f : Addr) (cdv : Value) (A : Around) (outer : List Env) (s : Shared) (F H : Hp) (E : XK) : Bd :=
  ⟨(cxOf CX0 P w K mg base N qual (defScope st) f cdv A outer s H E).nox, F, H⟩
section
variable {P : Program} {w : World} {K : PySem.W.Frag} {mg : Str → Option Value} {base : Heap}
/-- THE RULE for a def -/
theorem ok_def {x : Str} {st : Stmt} {f : Addr} {fd : FuncData} {N ps : List Str} {k : Nat} {T : TD} (D : Df K mg x st f fd) (S : FnScope N ps (defScope st)) (hl : ∀ ds Φ, T ds Φ → ds.length = ps.length)
    (hb : ∀ (kV doc pm : Value) (an : Option Addr) (cdv ct : Value) (us : List Value), us.length = ps.length → bindArgs (PySem.W.fnOf x x (defArgs st) (defBody st) (defScope st) .none kV doc pm an cdv ct) ⟨us, []⟩ = pure (ps.zip us))
    (body : ∀ (cdv : Value) (A : Around) (outer : List Env) (s : Shared) (F H : Hp) (E : XK), Room k (A.deeper (PyProof.Rows.envOfC x (defScope st) s.heap.objs.size f cdv)) → ∀ ds Φ, T ds Φ →
      WB (bdOf P w K mg base N x st f cdv A outer s F H E) (defBody st) (mkE N ds) { nx := fun _ => Φ .non, rt := Φ }) : Ok P w K mg base (k + 1) x ps T := by
  refine ⟨f, fd, D.at_, D.fn.kp, D.fn.bindsN hb, ?_⟩
  have hps : ps.length ≤ N.length := by
    have e := congrArg List.length S.pre
    rw [List.length_take] at e
    omega
  refine D.fn.ok S (fun vs H Q E h => ?_) fun cdv A outer s H vs Q E hr h => ?_
  · obtain ⟨F, ds, Φ, _, r, t, _⟩ := h
    rw [r.length]
    exact hl ds Φ t
  · obtain ⟨F, ds, Φ, e, r, t, q⟩ := h
    have hvl : vs.length ≤ N.length := by
      rw [r.length, hl ds Φ t]
      exact hps
    have B := body cdv A outer s F H E hr ds Φ t F _ H (at_start (X := (cxOf CX0 P w K mg base N x (defScope st) f cdv A outer s H E).nox) e r hvl)
    exact ⟨_, PSs.nox pss_re, rb_mono B (fun σ' H' ⟨F', env', _, A', h⟩ => q .non H' F' .non A'.g .non h) (fun v H' ⟨F', d, g, r, h⟩ => q v H' F' d g r h) (fun _ _ ⟨_, _, _, _, z⟩ => z.elim) fun _ _ ⟨_, _, _, _, z⟩ => z.elim⟩
theorem Ok.mono {x : Str} {ps : List Str} {j k : Nat} {T : TD} (h : Ok P w K mg base j x ps T) (hj : j ≤ k) : Ok P w K mg base k x ps T :=
  let ⟨f, fd, h1, h2, h3, h4⟩ := h.ex
  ⟨f, fd, h1, h2, h3, h4.mono hj⟩
end
section
variable {B : Bd} {env : Env'} {x : Str} {e : Expr} {es : List Expr} {Φ : PD} {p pos : Pos} {k : Nat} {ps : List Str} {T : TD}
theorem we_call (G : Ok B.X.prog B.X.w B.X.K B.X.mg B.X.base k x ps T) (hr : Room k B.X.A) (h : WA B (e :: es) env fun ds => T ds Φ) (hg : Gl B.X x := by rfl) (hdb : (x == ("__debug__" : Str)) = false := by decide)
    (he : starEach (e :: es) B.X.env = (false, eval e B.X.env) :: starEach es B.X.env := by rfl) (hpl : (backTo pos (starEach es B.X.env)).any (·.1) = false := by rfl) : WE B (.Call (.Name x p) (e :: es) [] pos) env Φ := .mk fun F σ H A => by
  obtain ⟨f, fd, h1, h2, h3, h4⟩ := G.ex
  refine re_of (pe_call h4 hr hg h1 h2 h3 .nil pass0 pa_re hdb he hpl) (ra_mono (h F σ H A) fun vs H1 ⟨F1, ds, g, r, t⟩ => ?_)
  rw [List.append_nil]
  exact ⟨F1, ds, Φ, g.fh, r, t, fun v H' F' d g2 r2 q => ⟨F', d, g.trans g2, r2, q⟩⟩
end

/-! ### an instance made -/
abbrev TF := List Dt → (List (Str × Dt) → Prop) → Prop
def spI (K : PySem.W.Frag) (C : Addr) (T : TF) : Sp := fun vs Hn Q _ => ∃ F H x dx ws ds Φ, vs = .ref x :: ws ∧ Ex F H ∧ H x = none ∧ H dx = none ∧ dx ≠ x ∧ Hn = upd (upd H dx (.own x)) x (.ins C dx []) ∧ RepL K F ws ds ∧ T ds Φ ∧
  ∀ H' F' dx' vfs fs, Gr F H F' H' → F' x = none → H' x = some (.ins C dx' vfs) → RepF K F' vfs fs → Φ fs → Q .non H'
structure OkI (P : Program) (w : World) (K : PySem.W.Frag) (mg : Str → Option Value) (base : Heap) (k : Nat) (x : Str) (C : Addr) (ps : List Str) (T : TF) : Prop where
  ex : ∃ f fd, mg x = some (.ref C) ∧ Mk K C f ∧ Binds K fd ps [] ∧ FnOk P w K mg base CX0 k f fd ps (spI K C T)
section
variable {P : Program} {w : World} {K : PySem.W.Frag} {mg : Str → Option Value} {base : Heap}
theorem at_startI {X : Cx} {F H : Hp} {C x dx : Addr} {vs : List V} {ds : List Dt} {n : Str} {N : List Str} (hN : X.N = n :: N) (e : Ex F H) (hx : H x = none) (hdx : H dx = none) (hne : dx ≠ x) (r : RepL X.K F vs ds) (hl : vs.length ≤ N.length) :
    At ⟨X, F, H⟩ F (L2.start X.N (.ref x :: vs)) (upd (upd H dx (.own x)) x (.ins C dx [])) ((n, .slf x C []) :: mkE N ds) := by
  have es : L2.start X.N (.ref x :: vs) = some (.ref x) :: L2.start N vs := by
    rw [hN]
    unfold L2.start
    rw [List.map_cons, List.length_cons, List.length_cons, Nat.add_sub_add_right]
    rfl
  have n1 : upd H dx (.own x) x = none := by
    rw [upd_ne (Ne.symm hne)]
    exact hx
  have hh : Ex H (upd (upd H dx (.own x)) x (.ins C dx [])) := (Ex.new hdx).trans (.new n1)
  rw [es]
  refine ⟨by rw [hN, List.map_cons, ← mkE_names], by rw [List.length_cons, List.length_cons, start_len hl, mkE_len], ⟨.refl _, e.trans hh, hh, fun a o q z => by rw [show F a = none from z] at q; cases q⟩, fun i y s h => ?_, fun i j l y z s t hj h1 w1 q1 h2 w2 q2 => ?_⟩
  · cases i with
    | zero =>
      simp at h
      obtain ⟨_, rfl⟩ := h
      exact ⟨_, rfl, dx, [], rfl, hx, e.none hx, upd_same, .nil⟩
    | succ i =>
      have h' : (mkE N ds)[i]? = some (y, s) := by simpa using h
      rcases mkE_at h' with ⟨d, h1, rfl⟩ | ⟨h1, rfl⟩
      · obtain ⟨v, hv, rv⟩ := r.get' h1
        exact ⟨some v, by simpa using start_at (N := N) hv, v, rfl, rv⟩
      · have hi : i < (L2.start N vs).length := by
          rw [start_len hl, ← mkE_len N ds]
          exact (List.getElem?_eq_some_iff.mp h').1
        exact ⟨(L2.start N vs)[i], by rw [List.getElem?_cons_succ]; exact List.getElem?_eq_getElem hi, trivial⟩
  · cases i with
    | zero =>
      cases j with
      | zero => exact hj rfl
      | succ j =>
        have h' : (mkE N ds)[j]? = some (z, t) := by simpa using h2
        rcases mkE_at h' with ⟨d, _, rfl⟩ | ⟨_, rfl⟩ <;> cases w2
    | succ i =>
      have h' : (mkE N ds)[i]? = some (y, s) := by simpa using h1
      rcases mkE_at h' with ⟨d, _, rfl⟩ | ⟨_, rfl⟩ <;> cases w1
theorem ok_init {x qual : Str} {C : Addr} {st : Stmt} {f : Addr} {fd : FuncData} {n : Str} {N ps : List Str} {k : Nat} {T : TF} (hm : mg x = some (.ref C)) (M : Mk K C f) (D : FunD K "__init__" qual (defArgs st) (defBody st) (defScope st) [] [] f fd) (S : FnScope (n :: N) (n :: ps) (defScope st)) (hl : ∀ ds Φ, T ds Φ → ds.length = ps.length)
    (hb : ∀ (kV doc pm : Value) (an : Option Addr) (cdv ct : Value) (us : List Value), us.length = (n :: ps).length → bindArgs (PySem.W.fnOf "__init__" qual (defArgs st) (defBody st) (defScope st) .none kV doc pm an cdv ct) ⟨us, []⟩ = pure ((n :: ps).zip us))
    (body : ∀ (cdv : Value) (A : Around) (outer : List Env) (s : Shared) (F H Hn : Hp) (E : XK) (y : Addr), Room k (A.deeper (PyProof.Rows.envOfC qual (defScope st) s.heap.objs.size f cdv)) → ∀ ds Φ, T ds Φ →
      WB ⟨(cxOf CX0 P w K mg base (n :: N) qual (defScope st) f cdv A outer s Hn E).nox, F, H⟩ (defBody st) ((n, .slf y C []) :: mkE N ds) { nx := fun env' => ∃ fs r, env' = (n, .slf y C fs) :: r ∧ Φ fs, rt := fun _ => False }) : OkI P w K mg base (k + 1) x C (n :: ps) T := by
  refine ⟨f, fd, hm, M, D.bindsN hb, ?_⟩
  have hps : ps.length ≤ N.length := by
    have e := congrArg List.length S.pre
    rw [List.length_take, List.length_cons, List.length_cons] at e
    omega
  refine D.ok S (fun vs H Q E h => ?_) fun cdv A outer s Hn vs Q E hr h => ?_
  · obtain ⟨F, H, y, dx, ws, ds, Φ, rfl, _, _, _, _, _, r, t, _⟩ := h
    rw [List.length_cons, List.length_cons, r.length, hl ds Φ t]
  · obtain ⟨F, H, y, dx, ws, ds, Φ, rfl, e, h1, h2, h3, rfl, r, t, q⟩ := h
    have B := body cdv A outer s F H _ E y hr ds Φ t F _ _ (at_startI (X := (cxOf CX0 P w K mg base (n :: N) qual (defScope st) f cdv A outer s (upd (upd H dx (.own y)) y (.ins C dx [])) E).nox) rfl e h1 h2 h3 r (by rw [r.length, hl ds Φ t]; exact hps))
    refine ⟨_, PSs.nox pss_re, rb_mono B (fun σ' H' ⟨F', env', _, A', fs, rest, ee, hq⟩ => ?_) (fun v H' ⟨F', d, g, r, z⟩ => z.elim) (fun _ _ ⟨_, _, _, _, z⟩ => z.elim) fun _ _ ⟨_, _, _, _, z⟩ => z.elim⟩
    obtain ⟨o, ho, dx', vfs, e1, a0, a1, a2, a3⟩ := A'.ok 0 n (.slf y C fs) (by rw [ee]; rfl)
    exact q H' F' dx' vfs fs A'.g a1 a2 a3 hq
end
section
variable {B : Bd} {env : Env'} {x : Str} {C : Addr} {e a b : Expr} {es : List Expr} {Φ : PD} {p p2 pos : Pos} {k : Nat} {ps : List Str} {T : TF}
/-- C(e, ..) -/
theorem we_make (G : OkI B.X.prog B.X.w B.X.K B.X.mg B.X.base k x C ps T) (hr : Room (k + 1) B.X.A) (h : WA B (e :: es) env fun ds => T ds fun fs => Φ (.ins C fs)) (hg : Gl B.X x := by rfl) (hdb : (x == ("__debug__" : Str)) = false := by decide)
    (he : starEach (e :: es) B.X.env = (false, eval e B.X.env) :: starEach es B.X.env := by rfl) (hpl : (backTo pos (starEach es B.X.env)).any (·.1) = false := by rfl) : WE B (.Call (.Name x p) (e :: es) [] pos) env Φ := .mk fun F σ H A => by
  obtain ⟨f, fd, h1, h2, h3, h4⟩ := G.ex
  refine re_of (pe_make h2 h4 hr hg h1 h3 .nil pass0 pa_re hdb he hpl) (ra_mono (h F σ H A) fun vs H1 ⟨F1, ds, g, r, t⟩ => ?_)
  rw [List.append_nil]
  refine fun y dx hy hdx hne => ⟨F1, H1, y, dx, vs, ds, _, rfl, g.fh, hy, hdx, hne, rfl, r, t, fun H' F' dx' vfs fs g2 f2 hy2 rf q => ⟨rfl, ?_⟩⟩
  have G2 := g.trans g2
  refine ⟨upd F' y (.ins C dx' vfs), .ins C fs, ⟨G2.f.trans (.new f2), fun c u z => ?_, G2.h, fun c u z n => ?_⟩, .ins upd_same ?_, q⟩
  · by_cases e2 : c = y
    · subst e2
      rw [upd_same] at z
      rw [hy2]
      exact z
    · rw [upd_ne e2] at z
      exact g2.fh c u z
  · by_cases e2 : c = y
    · subst e2
      exact g.h.none hy
    · rw [upd_ne e2] at z
      exact G2.new c u z n
  · exact RepF.mono (.new f2) rf

/-! ### isinstance -/
def tyD : Dt → Option String
  | .non => some "NoneType"
  | .bl _ => some "bool"
  | .int _ => some "int"
  | .str _ => some "str"
  | .lst _ => some "list"
  | .tup _ _ => some "tuple"
  | _ => none
theorem tyx_rep {K : PySem.W.Frag} {F H : Hp} {v : V} {d : Dt} {t : String} (r : Rep K F v d) (e : Ex F H) (h : tyD d = some t) : TyX K H v (.type t) := by
  cases r <;> cases h
  · exact .base .non
  · exact .base (.bl _)
  · exact .base (.int _)
  · exact .base (.str _)
  · rename_i ha rl
    exact .base (.lst (e _ _ ha))
  · rename_i ha rl
    rcases ha with ha | ⟨o, ha⟩
    · exact .base (.tup (e _ _ ha))
    · exact .fTuple (e _ _ ha)
  · rename_i ha hd rl
    exact .fTuple (e _ _ ha)
theorem we_isi {n : String} (hm : B.X.mg "isinstance" = none) (hm2 : B.X.mg x = none) (hv2 : bootBuiltins x = some (.type n)) (h : WE B a env fun d => ∃ t b, tyD d = some t ∧ kitB t n = some b ∧ Φ (.bl b)) (hg : Gl B.X "isinstance" := by rfl) (hg2 : Gl B.X x := by rfl) (hn : x ≠ "__name__" := by decide) (hdb : (x == ("__debug__" : Str)) = false := by decide)
    (hs : starEach [a, .Name x p2] B.X.env = (false, eval a B.X.env) :: starEach [.Name x p2] B.X.env := by rfl) (hs2 : starEach [.Name x p2] B.X.env = [(false, eval (.Name x p2) B.X.env)] := by rfl) (hpl : (backTo pos (starEach [.Name x p2] B.X.env)).any (·.1) = false := by rfl) :
    WE B (.Call (.Name "isinstance" p) [a, .Name x p2] [] pos) env Φ := .mk fun F σ H A =>
  re_of (pe_callB call_isi hg hm (by decide +kernel) (pa_cons pe_re (pa_cons (pe_bltn (v := .ty n) hg2 hm2 hv2 rfl hn hdb) pa_nil (by rw [hs2]; rfl)) hs) (he := hs) (hpl := hpl)) (re_mono (h F σ H A) fun v H1 ⟨F1, d, g, r, t, b, ht, hk, q⟩ =>
    ⟨v, .ty n, _, _, b, rfl, .ty n, tyx_rep r g.fh ht, kit_ty hk, F1, _, g, .bl _, q⟩)
/-- what the text says of a class that isinstance is asked about -/
structure CIs (K : PySem.W.Frag) (C : Addr) : Prop where
  cl : Cls K C
  ha : some (some (.builtin "object.__class__")) = PySem.W.findIn K (.ref C) "__class__"
  hn : some (some (.builtin "getset_descriptor.__get__")) = PySem.W.specialIn K (.builtin "object.__class__") "__get__"
  htk : some true = PySem.W.takesIn K (.builtin "object.__class__")
  hm : some true = PySem.W.mroIn K C (.type "object")
  self : PySem.W.kitOne K (.ref C) (.ref C) = some true
theorem we_isC (hm : B.X.mg "isinstance" = none) (hm2 : B.X.mg x = some (.ref C)) (c : CIs B.X.K C) (h : WE B a env fun d => ∃ fs, d = .ins C fs ∧ Φ (.bl true)) (hg : Gl B.X "isinstance" := by rfl) (hg2 : Gl B.X x := by rfl) (hdb : (x == ("__debug__" : Str)) = false := by decide)
    (hs : starEach [a, .Name x p2] B.X.env = (false, eval a B.X.env) :: starEach [.Name x p2] B.X.env := by rfl) (hs2 : starEach [.Name x p2] B.X.env = [(false, eval (.Name x p2) B.X.env)] := by rfl) (hpl : (backTo pos (starEach [.Name x p2] B.X.env)).any (·.1) = false := by rfl) :
    WE B (.Call (.Name "isinstance" p) [a, .Name x p2] [] pos) env Φ := .mk fun F σ H A =>
  re_of (pe_callB call_isi hg hm (by decide +kernel) (pa_cons pe_re (pa_cons (pe_glob (v := .ref C) hg2 hm2 rfl hdb) pa_nil (by rw [hs2]; rfl)) hs) (he := hs) (hpl := hpl)) (re_mono (h F σ H A) fun v H1 ⟨F1, d, g, r, fs, e, q⟩ => by
    subst e
    cases r with
    | ins ha rf => exact ⟨_, .ref C, _, _, true, rfl, .own C, .base (.ins (g.fh _ _ ha) c.cl c.ha.symm c.hn.symm c.htk.symm c.hm.symm), c.self, F1, _, g, .bl _, q⟩)
end

/-! ### sorted -/
section
open PyProof.Rows (sortedAll sortedAll_at sortedAll_old)
variable {α : Type} {enc : α → Dt}
theorem each_of {K : PySem.W.Frag} {F : Hp} : ∀ {xs : List α} {ws : List V} {its : List Value}, RepL K F ws (xs.map enc) → Vals ws its → PySem.W.EachIs (fun v x => ∃ vv, RelV vv v ∧ Rep K F vv (enc x)) its xs
  | [], _, _, r, rv => by
    cases r
    cases rv
    exact .nil
  | x :: xs, _, _, r, rv => by
    cases r with
    | cons r1 r2 =>
      cases rv with
      | cons v1 v2 => exact .cons ⟨_, v1, r1⟩ (each_of r2 v2)
theorem of_each {K : PySem.W.Frag} {F : Hp} : ∀ {xs : List α} {its : List Value}, PySem.W.EachIs (fun v x => ∃ vv, RelV vv v ∧ Rep K F vv (enc x)) its xs → ∃ ws, Vals ws its ∧ RepL K F ws (xs.map enc)
  | _, _, .nil => ⟨[], .nil, .nil⟩
  | _, _, .cons ⟨vv, h1, h2⟩ t => by
    obtain ⟨ws, a, b⟩ := of_each t
    exact ⟨vv :: ws, .cons h1 a, .cons h2 b⟩
def leD (enc : α → Dt) : α → α → Bool := PySem.W.dataLe false fun x => toPy (enc x)
def rSortD (K : PySem.W.Frag) (xs : List α) (enc : α → Dt) : List V → Hp → VK → Prop := fun vs H Q => ∃ F a ws, Ex F H ∧ vs = [.ref a] ∧ H a = some (.lst ws) ∧ RepL K F ws (xs.map enc) ∧
  ∀ l us, H l = none → RepL K F us ((xs.mergeSort (leD enc)).map enc) → Q (.ref l) (upd H l (.lst us))
theorem cr_sortD {X : Cx} {xs : List α} {n : Nat} (hu : X.A.units + 65 < cLine) (hn : n ≤ 60) (hok : ∀ x ∈ xs, okD n (enc x) = true) (hal : PySem.W.AllAlike (xs.map fun x => toPy (enc x))) (hk : PySem.W.Sortable (xs.map fun x => toPy (enc x))) (hz : xs.length ≤ 100000) : CallR X (.builtin "sorted") (rSortD X.K xs enc) := by
  intro pins s σ H vs us Q I rel want
  obtain ⟨F, a, ws, e, rfl, hs, rl, q⟩ := want
  obtain ⟨its, rv, hl, _⟩ := I.list (SqL.of hs)
  obtain ⟨u, rfl, ru⟩ := vals1 rel
  cases ru
  have E1 := each_of rl rv
  have E2 : PySem.W.EachIs (fun v b => ∃ as, Reads s.heap v (toPy (enc b)) as) its xs := (PySem.W.each_mem E1).mono fun v x ⟨⟨vv, h1, h2⟩, hx⟩ => Dp.reads I (toPy (enc x)) vv v (dp_of e n _ (hok x hx) vv h2) h1
  refine PySem.W.sorted_data hl.isList E1 E2 hal hk (by rw [sizeLine_eq]; omega) (fun x hx => ?_) fun out ho eo => ?_
  · have := (okD_py n _ (hok x hx)).2
    omega
  · obtain ⟨zs, z1, z2⟩ := of_each eo
    obtain ⟨ep, he'⟩ := sortedAll_at s.heap its out.toArray
    have hlen : zs.length ≤ sizeLine := by
      rw [z1.length, ho, sizeLine_eq]
      omega
    exact ⟨.ref _, _, I.laid (t' := s.toks) (o := .lst zs) (fun _ _ => sortedAll_old) (Nat.le_succ _) ⟨hlen, out, ep, z1, he'⟩, rfl, q _ zs (I.hok.fresh (Nat.le_succ _)) z2⟩
variable {B : Bd} {env : Env'} {a : Expr} {p pos : Pos}
theorem wl_sorted {Ψ : List Dt → Prop} (xs : List α) (enc : α → Dt) {n : Nat} (hu : B.X.A.units + 65 < cLine) (hm : B.X.mg "sorted" = none) (hn : n ≤ 60) (hok : ∀ x ∈ xs, okD n (enc x) = true) (hal : PySem.W.AllAlike (xs.map fun x => toPy (enc x))) (hk : PySem.W.Sortable (xs.map fun x => toPy (enc x))) (hz : xs.length ≤ 100000)
    (h : WE B a env fun d => d = .lst (xs.map enc)) (q : Ψ ((xs.mergeSort (leD enc)).map enc)) (hg : Gl B.X "sorted" := by rfl) (hs : starEach [a] B.X.env = [(false, eval a B.X.env)] := by rfl) : WL B (.Call (.Name "sorted" p) [a] [] pos) env Ψ :=
  wl_callB (cr_sortD hu hn hok hal hk hz) hm (by decide +kernel) (wa_cons (h.imp fun d e => wa_nil (wcl_one fun F H v Q ex r k => by
    subst e
    obtain ⟨p, vs, rfl, hp, rl⟩ := r.lstS ex
    exact ⟨F, p, vs, ex, rfl, hp, rl, fun l us hl ru => k _ _ ⟨F, l, us, _, rfl, Gr.own ex hl, hl, ex.none hl, upd_same, ru, q⟩⟩)) hs) hg (he := hs)
end
end Fw
namespace Fw
open PySem PySem.Spec L2
def hunP (env : Env') : List (Str × Nat) → Prop
  | [] => True
  | p :: r => env[p.2]? = some (p.1, .un) ∧ hunP env r
theorem hunP.all {env : Env'} : ∀ {own : List (Str × Nat)}, hunP env own → ∀ p ∈ own, env[p.2]? = some (p.1, .un)
  | [], _, _, h => nomatch h
  | q :: r, h, p, hp => by
    rcases List.mem_cons.mp hp with rfl | hp
    · exact h.1
    · exact hunP.all h.2 p hp
section
variable {B : Bd} {tg iter elt : Expr} {ifs : List Expr} {env : Env'} {D : AE} {pos : Pos} {scope : Scope} {α : Type}
/-- [e for a, b in xs if t] -/
theorem wl_lcT (own : List (Str × Nat)) (xs : List α) (enc : α → Dt) (keep : α → Bool) (val : α → Dt) {E2 : α → Env'} {ns : List Str} {Ψ : List Dt → Prop} (hi : WIt B tg iter env fun ds => ds = xs.map enc)
    (hT : ∀ x, ∀ s Hh C cl fp, TgE (Bk B scope s Hh C cl fp).X tg (enc x) env (E2 x) ns) (ht : ∀ x ∈ xs, ∀ s Hh C cl fp, WTs (Bk B scope s Hh C cl fp) ifs (E2 x) fun b => b = keep x)
    (he : ∀ x ∈ xs, keep x = true → ∀ s Hh C cl fp, WE (Bk B scope s Hh C cl fp) elt (E2 x) fun d => d = val x) (hz : xs.length ≤ 1000000) (hQ : Ψ ((xs.filter keep).map val))
    (nd : B.X.N.Nodup) (ok : BlkOk B.X.N B.X.env.scope scope own) (hun : hunP env own) (hns : ns = own.map (·.1)) (hc : B.X.calm = true := by rfl) (hs : ∀ x, foldedSetIterable iter B.X.env x = pure x := by intro _; rfl) :
    WL B (.ListComp elt [⟨tg, iter, ifs, 0⟩] scope pos) env Ψ := wl_lc own xs enc keep val E2 ns hi hz (fun x _ => hT x) ht he hQ nd ok hun.all (fun x hx => by rw [hns] at hx; exact hx) hc hs
theorem ws_lcT {y : Str} {py spos : Pos} {t : SD} {f : SD → Env'} (own : List (Str × Nat)) (xs : List α) (enc : α → Dt) (keep : α → Bool) (val : α → Dt) {E2 : α → Env'} {ns : List Str} (hp : Pl env y t f) (hi : WIt B tg iter env fun ds => ds = xs.map enc)
    (hT : ∀ x, ∀ s Hh C cl fp, TgE (Bk B scope s Hh C cl fp).X tg (enc x) env (E2 x) ns) (ht : ∀ x ∈ xs, ∀ s Hh C cl fp, WTs (Bk B scope s Hh C cl fp) ifs (E2 x) fun b => b = keep x)
    (he : ∀ x ∈ xs, keep x = true → ∀ s Hh C cl fp, WE (Bk B scope s Hh C cl fp) elt (E2 x) fun d => d = val x) (hz : xs.length ≤ 1000000) (hQ : D.nx (f (.own ((xs.filter keep).map val))))
    (nd : B.X.N.Nodup) (ok : BlkOk B.X.N B.X.env.scope scope own) (hun : hunP env own) (hns : ns = own.map (·.1)) (hyl : B.X.env.scope.names.lookup y = some .local := by rfl)
    (hsw : swapsWith (.ListComp elt [⟨tg, iter, ifs, 0⟩] scope pos) (some (.Name y py)) spos.line B.X.env = pure true := by exact sw_true rfl rfl rfl (by decide +kernel)) (hc : B.X.calm = true := by rfl) (hs : ∀ x, foldedSetIterable iter B.X.env x = pure x := by intro _; rfl) :
    WS B (.Assign [.Name y py] (.ListComp elt [⟨tg, iter, ifs, 0⟩] scope pos) spos) env D := ws_lc own xs enc keep val E2 ns hp hi hz (fun x _ => hT x) ht he hQ nd ok hun.all (fun x hx => by rw [hns] at hx; exact hx) hyl hsw hc hs
theorem Pl.at {x : Str} {s : SD} {f : SD → Env'} {i : Nat} (h : Pl env x s f) (nd : (env.map (·.1)).Nodup) (hi : (env.map (·.1))[i]? = some x) : env[i]? = some (x, s) := by
  obtain ⟨j, h1, _⟩ := h.ix
  have e : (env.map (·.1))[j]? = some x := by rw [List.getElem?_map, h1]; rfl
  have := nodup_ix nd hi e
  rw [this]
  exact h1
/-- [e for x in xs if t] -/
theorem wl_lc1 {x : Str} {px : Pos} {f : SD → Env'} (i : Nat) (xs : List α) (enc : α → Dt) (keep : α → Bool) (val : α → Dt) {Ψ : List Dt → Prop} (hp : Pl env x .un f) (hi : WIt B (.Name x px) iter env fun ds => ds = xs.map enc)
    (ht : ∀ a ∈ xs, ∀ s Hh C cl fp, WTs (Bk B scope s Hh C cl fp) ifs (f (.dat (enc a))) fun b => b = keep a)
    (he : ∀ a ∈ xs, keep a = true → ∀ s Hh C cl fp, WE (Bk B scope s Hh C cl fp) elt (f (.dat (enc a))) fun d => d = val a) (hz : xs.length ≤ 1000000) (hQ : Ψ ((xs.filter keep).map val))
    (nd : B.X.N.Nodup) (ok : BlkOk B.X.N B.X.env.scope scope [(x, i)]) (hun : env[i]? = some (x, .un) := by rfl) (hl : (relS scope B.X.env.scope).names.lookup x = some .local := by rfl) (hl2 : scope.names.lookup x = some .local := by rfl) (hc : B.X.calm = true := by rfl) (hs : ∀ x, foldedSetIterable iter B.X.env x = pure x := by intro _; rfl) :
    WL B (.ListComp elt [⟨.Name x px, iter, ifs, 0⟩] scope pos) env Ψ := wl_lc [(x, i)] xs enc keep val (fun a => f (.dat (enc a))) [x] hi hz (fun a _ s Hh C cl fp => .name hp rfl (.inl hl) (.inr hl)) ht he hQ nd ok (fun p hp => by
      rcases List.mem_cons.mp hp with rfl | hp
      · exact hun
      · cases hp) (fun y hy => hy) hc hs
theorem ws_lc1 {y x : Str} {px py spos : Pos} {t : SD} {g f : SD → Env'} (i : Nat) (xs : List α) (enc : α → Dt) (keep : α → Bool) (val : α → Dt) (hpy : Pl env y t g) (hp : Pl env x .un f) (hi : WIt B (.Name x px) iter env fun ds => ds = xs.map enc)
    (ht : ∀ a ∈ xs, ∀ s Hh C cl fp, WTs (Bk B scope s Hh C cl fp) ifs (f (.dat (enc a))) fun b => b = keep a)
    (he : ∀ a ∈ xs, keep a = true → ∀ s Hh C cl fp, WE (Bk B scope s Hh C cl fp) elt (f (.dat (enc a))) fun d => d = val a) (hz : xs.length ≤ 1000000) (hQ : D.nx (g (.own ((xs.filter keep).map val))))
    (nd : B.X.N.Nodup) (ok : BlkOk B.X.N B.X.env.scope scope [(x, i)]) (hun : env[i]? = some (x, .un) := by rfl) (hl : (relS scope B.X.env.scope).names.lookup x = some .local := by rfl) (hyl : B.X.env.scope.names.lookup y = some .local := by rfl)
    (hsw : swapsWith (.ListComp elt [⟨.Name x px, iter, ifs, 0⟩] scope pos) (some (.Name y py)) spos.line B.X.env = pure true := by exact sw_true rfl rfl rfl (by decide +kernel)) (hc : B.X.calm = true := by rfl) (hs : ∀ x, foldedSetIterable iter B.X.env x = pure x := by intro _; rfl) :
    WS B (.Assign [.Name y py] (.ListComp elt [⟨.Name x px, iter, ifs, 0⟩] scope pos) spos) env D := ws_lc [(x, i)] xs enc keep val (fun a => f (.dat (enc a))) [x] hpy hi hz (fun a _ s Hh C cl fp => .name hp rfl (.inl hl) (.inr hl)) ht he hQ nd ok (fun p hp => by
      rcases List.mem_cons.mp hp with rfl | hp
      · exact hun
      · cases hp) (fun y hy => hy) hyl hsw hc hs
/-- a test that is known -/
theorem iteB {c : Bool} {P Q : Prop} (h1 : c = true → P) (h2 : c = false → Q) : if c = true then P else Q := by
  cases c with
  | true => exact h1 rfl
  | false => exact h2 rfl
theorem iteD {c : Prop} [Decidable c] {P Q : Prop} (h1 : c → P) (h2 : ¬ c → Q) : if decide c = true then P else Q := iteB (fun h => h1 (of_decide_eq_true h)) fun h => h2 (of_decide_eq_false h)
theorem iteDn {c : Prop} [Decidable c] {P Q : Prop} (h1 : ¬ c → P) (h2 : c → Q) : if (!decide c) = true then P else Q := iteB (fun h => h1 (of_decide_eq_false (by simpa using h))) fun h => h2 (of_decide_eq_true (by simpa using h))
theorem ws_asgT {e : Expr} (h : WE B e env fun d => ∃ env' ns, TgE B.X tg d env env' ns ∧ D.nx env') (nd : B.X.N.Nodup) (hc : B.X.calm = true := by rfl)
    (hs : swapsWithSole [tg] e pos.line B.X.env = pure false := by rfl) (hw : swappedStores [tg] e B.X.env = pure none := by rfl) (h1 : (assignEach [tg] B.X.env).map (·.2) = [assign tg B.X.env] := by rfl) : WS B (.Assign [tg] e pos) env D := .mk fun F σ H A =>
  rs_of (ps_asg pe_re pg_rg hs hw h1) (re_mono (h F σ H A) fun v H' ⟨F', d, g, r, env', ns, t, q⟩ =>
    rg_mono (tg_run nd hc t (A.grow g) r) fun σ' H2 ⟨e2, A2, _, _⟩ => by
      subst e2
      exact ⟨F', env', g.f, A2, q⟩)
end
end Fw
/-! enumerate(tuple), dict comprehensions over it -/
namespace Fw
open PySem PySem.Spec PyProof.Rows L2
theorem meets_enumerate_new1 {v : Value} {o : Obj} {H : Heap → Prop} (Bgn : Begins v o H) :
    Meets (Builtin.«enumerate.__new__» ⟨[.type "enumerate", v], []⟩) (fun _ R s => H s.heap ∧
      R (.ok (.ret (.ref (s.heap.push o).objs.size))) { s with heap := (s.heap.push o).push { cls := .type "enumerate", data := .fields #[.none, .bool false, .ref s.heap.objs.size, rawInt 0, .none, .none] } }) :=
  .of_wp fun prog w A R s start => by
    obtain ⟨hp0, gns, drw, tk, os⟩ := s; obtain ⟨holds1, h⟩ := start
    have hsub := sub_enumerate
    have goes : ∀ {A' : Around} {E : Value → Shared → Prop} {Q : Value → Shared → Prop}, Q (.ref hp0.objs.size) ⟨hp0.push o, gns, drw, tk, os⟩ → wpAny (model prog w) A' (pyIter v) Q E ⟨hp0, gns, drw, tk, os⟩ :=
      fun q => Bgn.iter prog w _ _ ⟨hp0, gns, drw, tk, os⟩ _ holds1 q
    wp_walk using goes
    refine wpAny_stack_any fun stIt => wpAny_pure ?_
    split
    · rename_i c _ _ _ _ _
      generalize (c == Value.type "enumerate") = same
      cases same
      · wp_walk using goes
        exact ⟨_, rfl, h⟩
      · wp_walk using goes
        exact ⟨_, rfl, h⟩
    · wp_walk using goes
      exact ⟨_, rfl, h⟩
section
variable {prog : Program} {w : World} {A : Around} {E : Value → Shared → Prop} {s : Shared}
theorem enum_begins1 {v : Value} {o : Obj} {H : Heap → Prop} {Q : Value → Shared → Prop} (Bgn : Begins v o H) (holds1 : H s.heap)
    (h : ∀ h', IsEnum h' (s.heap.objs.size + 1) s.heap.objs.size 0 .none → h'.get? s.heap.objs.size = some o → h'.objs.size = s.heap.objs.size + 2 →
      (∀ c u, s.heap.get? c = some u → h'.get? c = some u) → Q (.ref (s.heap.objs.size + 1)) { s with heap := h' }) :
    wpAny (model prog w) A (call (.type "enumerate") [v]) Q E s := by
  refine callType_new F.called_enumerate (by decide) (F.typeCall_enumerate_1 _) (F.newCall_enumerate_1 _)
    (fun made => F.args_object_init_2 made _) F.entry_enumerate_new
    (meets_enumerate_new1 Bgn) ⟨holds1, ?_⟩
  have sizeP : (s.heap.push o).objs.size = s.heap.objs.size + 1 := Heap.size_push ..
  show _ ∧ _
  rw [sizeP]
  have enE : IsEnum ((s.heap.push o).push { cls := .type "enumerate", data := .fields #[.none, .bool false, .ref s.heap.objs.size, rawInt 0, .none, .none] }) (s.heap.objs.size + 1) s.heap.objs.size 0 .none := by
    have := Heap.get?_push_size (s.heap.push o) (o := { cls := .type "enumerate", data := .fields #[.none, .bool false, .ref s.heap.objs.size, rawInt 0, .none, .none] }) rfl
    rw [sizeP] at this; exact this
  refine ⟨⟨_, enE, rfl⟩, h _ enE (Heap.get?_push_of_some _ (Heap.get?_push_size _ Bgn.free)) (by rw [Heap.size_push, sizeP]) fun b o x => Heap.get?_push_of_some _ (Heap.get?_push_of_some _ x)⟩
end
theorem enum_endT {prog : Program} {w : World} {A : Around} {E : Value → Shared → Prop} {s : Shared} {e it l : Addr} {i : Nat} {c : Int} {items : Array Value} {o0 : Value} {Q : Option Value → Shared → Prop} (hh : A.handled = none)
    (enE : IsEnum s.heap e it c o0) (itOk : s.heap.IsTupleIter it l i) (lenL : s.heap.IsTuple l items) (getX : items[i]? = none)
    (over : ∀ h2, Heap.ExtBut it s.heap h2 → Q none { s with heap := h2 }) : wpAny (model prog w) A (pyNext (.ref e)) Q E s := by
  have tyE : s.TypeIs (.ref e) "enumerate" := ⟨_, enE, rfl⟩
  unfold pyNext
  refine wpAny_bind (wpAny_attempt (wpAny_callSpecial?_slot (name := Str.ofString "__next__") tyE F.slot_enumerate_next
    (wpAny_call_entry F.slot_enumerate_next tyE F.entry_enumerate_next ?_ (F.args_enumerate_next_1 _))))
  show wpAny _ A.in1 (field (.ref e) 2 >>= _) _ _ _
  refine wpAny_bind (wpAny_field enE rfl (x := .ref it) rfl ?_)
  refine wpAny_bind (wpAny_nextOf_tuple_end hh itOk lenL getX fun h' x he' hx' => ?_)
  obtain ⟨o, getO, clsO⟩ := hx'
  refine wpAny_bind (wpAny_isInstance (T := "StopIteration") (b := true) ⟨o, getO, clsO⟩ isSubtype_stop ?_)
  exact wpAny_pure (over _ he')
/-- the tuple at a as it stands at each turn, each item in a newOk pair -/
def IteT (K : PySem.W.Frag) (a : Addr) : It :=
  ⟨fun i H => ∃ (xs : List V) (x : V), SqT K H a xs ∧ xs[i]? = some x, fun i H v H' => ∃ T x, v = .ref T ∧ H T = none ∧ H' = upd H T (.tup [.int (i : Nat), x]) ∧ ∀ xs, SqT K H a xs → xs[i]? = some x, fun i H => ∃ xs : List V, SqT K H a xs ∧ xs.length ≤ i⟩
theorem turn_enumT {P : Program} {w : World} {K : PySem.W.Frag} {elts : List Expr} {kk : Nat} {tpos : Pos} (a e it : Addr) :
    Turn P w K (.Tuple elts kk tpos) (IteT K a) [e, it] e (fun i h => (∃ o0, IsEnum h e it ((i : Nat) : Int) o0) ∧ h.IsTupleIter it a i ∧ e ≠ it) where
  mem := by simp
  obj := fun i h stIt b inB => by
    obtain ⟨⟨o0, enE⟩, ⟨o, getO, clsO, datO⟩, _⟩ := stIt
    have eitherB : b = e ∨ b = it := by simpa using inB
    rcases eitherB with z | z
    · rw [z]; exact ⟨_, enE, fun v q => nomatch q⟩
    · rw [z]; exact ⟨o, getO, fun v q => by rw [datO] at q; cases q⟩
  keep := fun i h h' stIt k => let ⟨⟨o0, enE⟩, hi, apartE⟩ := stIt; ⟨⟨o0, k e (by simp) _ enE⟩, hi.at fun o q => k it (by simp) o q, apartE⟩
  item := by
    intro X eP eW eK clsO i pins s σ H E I fpB stIt goneB
    subst eP eW eK
    obtain ⟨⟨o0, enE⟩, itOk, apartE⟩ := stIt
    obtain ⟨xs, x, seqA, getX⟩ := goneB
    obtain ⟨its, relVs, p, sizeP⟩ := I.tuple seqA
    obtain ⟨u, getU, relU⟩ := relVs.get getX
    have ltE : e < s.heap.objs.size := Heap.lt_size enE
    have ltI : it < s.heap.objs.size := by obtain ⟨_, q, _⟩ := itOk; exact Heap.lt_size q
    have tupA : s.heap.IsTuple a its.toArray := p
    have neE : a ≠ e := fun z => by
      subst z
      obtain ⟨o, getO, hc2, _⟩ := tupA
      have he2 : s.heap.get? a = _ := enE
      rw [he2] at getO
      cases getO
      simp at hc2
    have neI : a ≠ it := fun z => by
      subst z
      obtain ⟨o, getO, hc2, _⟩ := tupA
      obtain ⟨o2, ho2, hc3, _⟩ := itOk
      rw [ho2] at getO
      cases getO
      rw [hc3] at hc2
      simp at hc2
    have hlt : i < its.toArray.size := by
      have : its[i]? = some u := getU
      rw [List.size_toArray]
      exact (List.getElem?_eq_some_iff.mp this).1
    refine wpAny_pyNext_enum_itemD (Draws.tuple (prog := X.prog) (w := X.w) (A := X.A.in1) (I.ok.hd clsO) it a neI its.toArray) enE ⟨itOk, tupA⟩ hlt apartE (by simp only [List.mem_cons, List.not_mem_nil, or_false]; exact fun z => z.elim apartE fun z => neE z.symm) fun y h' tk hy getO hst hT szOk kept => ?_
    have ey : y = u := by
      have hy : its.toArray[i]? = some y := hy
      rw [List.getElem?_toArray] at hy
      rw [getU] at hy
      exact (Option.some.inj hy).symm
    subst ey
    refine ⟨_, rfl, wpAny_letOwnedTupleGo_enum (s := { s with heap := h', toks := tk + 1 }) getO fun h'' he' sameB => ?_⟩
    have hT2 : h''.get? s.heap.objs.size = some { cls := .type "tuple", data := .seq #[.int i tk, y] } := (sameB.2 _ (Nat.ne_of_gt ltE)).trans hT
    have newOk : ObjOk X.prog X.w (upd H s.heap.objs.size (.tup [.int (i : Nat), x])) h'' s.heap.objs.size (.tup [.int (i : Nat), x]) :=
      ⟨by show 2 ≤ sizeLine; decide, [.int i tk, y], .cons ⟨_, rfl⟩ (.cons relU .nil), ⟨_, hT2, rfl, _, rfl⟩⟩
    have J1 : Inv X pins σ (upd H s.heap.objs.size (.tup [.int (i : Nat), x])) { s with heap := h'', toks := tk + 1 } :=
      I.turnedNew (ch := [e, it]) (fun b ob inB q => (sameB.2 b (fun z => inB (by simp [z]))).trans (kept b ob (fun z => inB (by simp [z])) (fun z => inB (by simp [z])) q)) fpB (Nat.le_refl _) newOk
    refine ⟨.ref s.heap.objs.size, _, J1, rfl, ⟨_, x, rfl, I.hok.fresh (Nat.le_refl _), rfl, fun ys hy => by rw [I.tuple_inj hy seqA]; exact getX⟩, ⟨⟨y, ?_⟩, hst.1.at fun o q => (sameB.2 it (Ne.symm apartE)).trans q, apartE⟩, fun b inB => ?_⟩
    · have next : ((i + 1 : Nat) : Int) = (i : Int) + 1 := by omega
      rw [next]; exact he'
    · have ltB : b < s.heap.objs.size := by
        have eitherB : b = e ∨ b = it := by simpa using inB
        rcases eitherB with z | z
        · rw [z]; exact ltE
        · rw [z]; exact ltI
      rw [upd_ne (Nat.ne_of_lt ltB)]
      exact (fpB b inB).1
  done := by
    intro X eP eW eK clsO i pins s σ H E I fpB stIt goneB
    subst eP eW eK
    obtain ⟨⟨o0, enE⟩, itOk, apartE⟩ := stIt
    obtain ⟨xs, seqA, getX⟩ := goneB
    obtain ⟨its, relVs, p, sizeP⟩ := I.tuple seqA
    obtain ⟨w0, w1, w2, w3, w4, w5⟩ := fpB it (by simp)
    have hl := relVs.length
    have tupA : s.heap.IsTuple a its.toArray := p
    have neI : a ≠ it := fun z => by
      subst z
      obtain ⟨o, getO, hc2, _⟩ := tupA
      obtain ⟨o2, ho2, hc3, _⟩ := itOk
      rw [ho2] at getO
      cases getO
      rw [hc3] at hc2
      simp at hc2
    exact enum_endT (I.ok.hd clsO) enE itOk tupA (by rw [List.getElem?_toArray]; exact List.getElem?_eq_none (by omega)) fun h' eb => ⟨rfl, I.turned (t' := s.toks) (fun b o inB q => eb b o inB q) w0 w1 w3 w4 w5⟩
  self := fun A i s Q E stIt h => let ⟨⟨_, enE⟩, _⟩ := stIt; wpAny_pyIter_enum enE h
def iEnumT (K : PySem.W.Frag) (ta : TA) : TI := fun σ H R => ta σ H fun vs H1 => ∃ a xs, vs = [.ref a] ∧ SqT K H1 a xs ∧ R (IteT K a) H1
theorem pi_enumT {X : Cx} {e : Expr} {ta : TA} {p pos tpos : Pos} {elts : List Expr} {kk : Nat} (goneB : Gl X "enumerate") (hm : X.mg "enumerate" = none) (ha : PA X [e] ta) (hs : starEach [e] X.env = [(false, eval e X.env)] := by rfl) :
    PI X (.Tuple elts kk tpos) (.Call (.Name "enumerate" p) [e] [] pos) (iEnumT X.K ta) := by
  refine ⟨fun pins s σ H R I h => ?_⟩
  refine Call_ (ld_blt I goneB hm boot_enumerate (PyProof.Rows.callWith_type1 (thn (ha.run pos pins s σ H _ I h) fun us s1 ⟨vs, H1, J1, r1, goes⟩ => ?_) hs rfl))
  obtain ⟨a, xs, eqA, seqA, q⟩ := goes
  subst eqA
  cases r1 with
  | cons r restV =>
    cases restV
    cases r
    obtain ⟨its, relVs, p', sizeP⟩ := J1.tuple seqA
    refine enum_begins1 (begins_tuple a its.toArray) p' fun h' enE itOk szOk kept => wpAny_pyIter_enum enE ?_
    have J2 : Inv X pins σ H1 { s1 with heap := h' } := J1.kept (t' := s1.toks) kept
    refine ⟨s1.heap.objs.size + 1, [s1.heap.objs.size + 1, s1.heap.objs.size], _, _, H1, rfl, J2, turn_enumT a (s1.heap.objs.size + 1) s1.heap.objs.size, ⟨⟨.none, enE⟩, ⟨_, itOk, rfl, rfl⟩, Nat.succ_ne_self _⟩, fun b inB => ?_, q⟩
    have eitherB : b = s1.heap.objs.size + 1 ∨ b = s1.heap.objs.size := by simpa using inB
    have leB : s1.heap.objs.size ≤ b := by
      rcases eitherB with z | z
      · rw [z]
        exact Nat.le_add_right ..
      · rw [z]; exact Nat.le_refl _
    exact J1.fpOk leB (J1.hok.fresh leB)

/-! ### enumerate as a walk -/
def enumD (ds : List Dt) : List Dt := ds.mapIdx fun i d => .tup false [.int (i : Int), d]
theorem enumD_at {ds : List Dt} {i : Nat} {d : Dt} (h : ds[i]? = some d) : (enumD ds)[i]? = some (.tup false [.int (i : Int), d]) := by
  unfold enumD
  rw [List.getElem?_mapIdx, h]
  rfl
theorem wi_enumT {B : Bd} {a : Expr} {env : Env'} {Ξ : List Dt → Prop} {p pos tpos : Pos} {elts : List Expr} {kk : Nat} (hm : B.X.mg "enumerate" = none) (h : WE B a env fun d => ∃ nd ds, d = .tup nd ds ∧ Ξ (enumD ds)) (hg : Gl B.X "enumerate" := by rfl) (hs : starEach [a] B.X.env = [(false, eval a B.X.env)] := by rfl) :
    WIt B (.Tuple elts kk tpos) (.Call (.Name "enumerate" p) [a] [] pos) env Ξ := .mk fun F σ H A =>
  ri_of (pi_enumT hg hm (pa_cons pe_re pa_nil (by rw [hs]; rfl)) hs) (re_mono (h F σ H A) fun v H1 ⟨F1, d, g, r, nd, ds, e, q⟩ => by
    subst e
    obtain ⟨p, vs, rfl, hp, rl⟩ := r.tupS (.refl F1)
    have sq : ∀ H', Ex F1 H' → SqT B.X.K H' p vs := fun H' e => by
      obtain ⟨p', vs', e1, hp', rl'⟩ := r.tupS e
      cases e1
      rcases hp with hp | hp
      · exact .inl (ex_rd e hp)
      · exact .inr hp
    have hl : (enumD ds).length = ds.length := by
      unfold enumD
      rw [List.length_mapIdx]
    refine ⟨p, vs, rfl, sq _ g.fh, F1, enumD ds, g, ⟨fun i H' e hi => ?_, fun i H' e hi => ?_, fun i F' H' x H2 e e2 hi y => ?_⟩, q⟩
    · rw [hl] at hi
      obtain ⟨v, hv, _⟩ := rl.get' (List.getElem?_eq_getElem hi)
      exact ⟨_, v, sq _ e, hv⟩
    · rw [hl] at hi
      exact ⟨_, sq _ e, by rw [rl.length]; exact hi⟩
    · rw [hl] at hi
      obtain ⟨T, x', e3, hT, e4, y⟩ := y
      subst e3
      subst e4
      obtain ⟨d, hd, rd⟩ := rl.get (y _ (sq _ (e.trans e2)))
      have fT : F' T = none := e2.none hT
      exact ⟨_, _, Gr.lay e2 hT, enumD_at hd, .tup (.inl upd_same) (.cons (.int _) (.cons (rd.mono (e.trans (.new fT))) .nil))⟩)

/-! ### dict comprehensions of text keys and int values -/
theorem putK_new {kvs : List (Str × Int)} {k : Str} {v : Int} (h : k ∉ kvs.map (·.1)) : putK (kD kvs) (.inr k) (.int v) = kD (kvs ++ [(k, v)]) := by
  unfold putK
  have e : ((kD kvs).any fun kv => decide (kv.1 = (Sum.inr k : Key))) = false := by
    rw [Bool.eq_false_iff]
    intro z
    obtain ⟨p, hp, e⟩ := List.any_eq_true.mp z
    unfold kD at hp
    obtain ⟨q, hq, rfl⟩ := List.mem_map.mp hp
    have e : (Sum.inr q.1 : Key) = .inr k := of_decide_eq_true e
    cases e
    exact h (List.mem_map.mpr ⟨q, hq, rfl⟩)
  rw [e, if_neg Bool.false_ne_true]
  unfold kD
  rw [List.map_append]
  rfl
theorem valV_kD {kvs : List (Str × Int)} {k : Str} {v : Int} (h : kvs.lookup k = some v) : valV (kD kvs) (.inr k) = some (.int v) := by
  induction kvs with
  | nil => cases h
  | cons p r ih =>
    rw [List.lookup_cons] at h
    show valV ((Sum.inr p.1, V.int p.2) :: kD r) _ = _
    cases e : k == p.1 with
    | true =>
      rw [e] at h
      cases h
      have := eq_of_beq e
      subst this
      exact valV_pos rfl
    | false =>
      rw [e] at h
      rw [valV_neg, ih h]
      intro z
      have z : (Sum.inr p.1 : Key) = .inr k := z
      cases z
      simp at e
section
variable {B : Bd} {tg iter kx vx : Expr} {env : Env'} {pos : Pos} {scope : Scope} {α : Type} {Φ : PD}
theorem we_dc (own : List (Str × Nat)) (xs : List α) (enc : α → Dt) (key : α → Str) (val : α → Int) {E2 : α → Env'} {ns : List Str} (hi : WIt B tg iter env fun ds => ds = xs.map enc)
    (hT : ∀ x, ∀ s Hh C cl fp, TgE (Bk B scope s Hh C cl fp).X tg (enc x) env (E2 x) ns) (hk : ∀ x ∈ xs, ∀ s Hh C cl fp, WE (Bk B scope s Hh C cl fp) kx (E2 x) fun d => d = .str (key x))
    (hv : ∀ x ∈ xs, ∀ s Hh C cl fp, WE (Bk B scope s Hh C cl fp) vx (E2 x) fun d => d = .int (val x)) (hz : xs.length ≤ 1000000) (hn : (xs.map key).Nodup) (hQ : Φ (.dct (xs.map fun x => (key x, val x))))
    (nd : B.X.N.Nodup) (ok : BlkOk B.X.N B.X.env.scope scope own) (hun : hunP env own) (hns : ns = own.map (·.1)) (hc : B.X.calm = true := by rfl) (hs : ∀ x, foldedSetIterable iter B.X.env x = pure x := by intro _; rfl) :
    WE B (.DictComp kx vx [⟨tg, iter, [], 0⟩] scope pos) env Φ := .mk fun F σ H A => by
  refine re_of (pe_dc (wi := RI B.X tg iter) (g := gB B scope tg) (tt := tB' B scope []) (tk := eB B scope kx) (tv := eB B scope vx) hc nd pi_ri ok (fun s Hh C cl fp => ⟨fun pins s' σ H v u Q I r h => h s Hh C cl fp pins s' u I r⟩) (fun s Hh C cl fp => ⟨fun pins s' σ H Q I h => h s Hh C cl fp pins s' I⟩) (fun s Hh C cl fp => ⟨fun pins s' σ H Q I h => h s Hh C cl fp pins s' I⟩) (fun s Hh C cl fp => ⟨fun pins s' σ H Q I h => h s Hh C cl fp pins s' I⟩) hs) ?_
  refine ri_mono (hi F σ H A) fun J H1 ⟨F1, ds, g, W, e⟩ => ?_
  subst e
  have hlen : (xs.map enc).length = xs.length := List.length_map ..
  intro Dl hD
  have A1 := A.grow g
  let kv : List α → List (Str × Int) := fun ys => ys.map fun x => (key x, val x)
  refine ⟨fun i m H' => m = xs.length - i ∧ i ≤ xs.length ∧ ∃ F', Gr F1 H1 F' H' ∧ F' Dl = none ∧ H' Dl = some (.dK (kD (kv (xs.take i)))), ⟨xs.length, by omega, Nat.zero_le _, F1, Gr.own g.fh hD, g.fh.none hD, upd_same⟩, ?_⟩
  rintro i m H' ⟨rfl, hle, F', g2, fD, hDl⟩
  by_cases hlt : i < xs.length
  · have hx : xs[i]? = some xs[i] := List.getElem?_eq_getElem hlt
    have hm : xs[i] ∈ xs := List.getElem_mem hlt
    obtain ⟨hsplit, htake⟩ := take_at hx
    refine .inr ⟨W.go i H' (g2.f.trans g2.fh) (by rw [hlen]; exact hlt), fun H'' => i + 1 ≤ xs.length ∧ ∃ F', Gr F1 H1 F' H'' ∧ F' Dl = none ∧ H'' Dl = some (.dK (kD (kv (xs.take (i + 1))))),
      fun H2 q => ⟨xs.length - (i + 1), by omega, rfl, q.1, q.2⟩, fun x H2 y => ?_⟩
    obtain ⟨F3, d, g3, hd', r⟩ := W.yld i F' H' x H2 g2.f g2.fh (by rw [hlen]; exact hlt) y
    rw [List.getElem?_map, hx] at hd'
    cases hd'
    have dD : ∀ {Fa Ha Fb Hb : Hp} {u : HO}, Gr Fa Ha Fb Hb → Fa Dl = none → Ha Dl = some u → Fb Dl = none ∧ Hb Dl = some u := fun {Fa Ha Fb Hb u} ga fa ha => by
      refine ⟨?_, ga.h _ _ ha⟩
      cases q : Fb Dl with
      | none => rfl
      | some o =>
        have z := ga.new _ _ q fa
        rw [ha] at z
        cases z
    obtain ⟨fD3, hD3⟩ := dD g3 fD hDl
    have G3 := g2.trans g3
    have A3 : At B F3 σ H2 env := A1.grow G3
    have A3w : At B F3 (L2.wipe σ (own.map (·.2))) H2 env := A3.wipe fun v hv => by
      obtain ⟨p, hp, rfl⟩ := List.mem_map.mp hv
      exact ⟨p.1, hun.all p hp⟩
    have wl : (L2.wipe σ (own.map (·.2))).length = σ.length := wipe_length _ _
    intro s Hh C cl fp
    refine rg_mono (tg_run (B := Bk B scope s Hh C cl fp) nd hc (hT _ s Hh C cl fp) (A3w.bk scope s Hh C cl fp) r) fun σ4 H4 ⟨e4, A4, l4, k4⟩ => ?_
    subst e4
    have A4' : At B F3 σ4 H4 (E2 xs[i]) := ⟨A4.names, A4.len, A4.g, A4.ok, A4.apart⟩
    refine ⟨wipe_eq (l4.trans wl) fun j hj => ?_, ?_⟩
    · have hj2 : (L2.wipe σ (own.map (·.2)))[j]? = σ[j]? := wipe_out hj
      rw [← hj2]
      by_cases hjl : j < env.length
      · have hn : B.X.N[j]? = some env[j].1 := by
          rw [A.names, List.getElem?_map, List.getElem?_eq_getElem hjl]
          rfl
        refine k4 j env[j].1 hn fun z => hj ?_
        rw [hns] at z
        obtain ⟨p, hp, e⟩ := List.mem_map.mp z
        have hq : B.X.N[p.2]? = some p.1 := A.name (hun.all p hp)
        rw [e] at hq
        have := nodup_ix nd hn hq
        rw [this]
        exact List.mem_map.mpr ⟨p, hp, rfl⟩
      · rw [List.getElem?_eq_none, List.getElem?_eq_none]
        · rw [wl, A.len]
          omega
        · rw [l4, wl, A.len]
          omega
    · intro s Hh C cl fp
      refine rts_mono (wts_nil (B := Bk B scope s Hh C cl fp) (Φ := fun b => b = true) rfl F3 σ4 H4 (A4'.bk scope s Hh C cl fp)) fun b H5 ⟨F5, g5, eb⟩ => ?_
      subst eb
      obtain ⟨fD5, hD5⟩ := dD g5 fD3 hD3
      have G5 := G3.trans g5
      rw [if_pos rfl]
      intro s Hh C cl fp
      refine re_mono (hk _ hm s Hh C cl fp F5 σ4 H5 ((A4'.grow g5).bk scope s Hh C cl fp)) fun yv H6 ⟨F6, d, g6, r6, ed⟩ => ?_
      subst ed
      cases r6
      obtain ⟨fD6, hD6⟩ := dD g6 fD5 hD5
      have G6 := G5.trans g6
      intro s Hh C cl fp
      refine re_mono (hv _ hm s Hh C cl fp F6 σ4 H6 (((A4'.grow g5).grow g6).bk scope s Hh C cl fp)) fun zv H7 ⟨F7, d, g7, r7, ed⟩ => ?_
      subst ed
      cases r7
      obtain ⟨fD7, hD7⟩ := dD g7 fD6 hD6
      have G7 := G6.trans g7
      refine ⟨_, .inr (key xs[i]), rfl, hD7, ?_, hlt, F7, ⟨G7.f, G7.fh.mut fD7, G7.h.mut hD, G7.new⟩, fD7, ?_⟩
      · show (kD (kv (xs.take i))).length < _
        unfold kD
        rw [List.length_map, List.length_map, List.length_take, sizeLine_eq]
        omega
      · rw [upd_same, putK_new]
        · rw [htake]
          show _ = some (HO.dK (kD ((xs.take i ++ [xs[i]]).map _)))
          rw [List.map_append]
          rfl
        · intro z
          have e : (kv (xs.take i)).map (·.1) = (xs.take i).map key := by rw [List.map_map]; rfl
          rw [e] at z
          rw [hsplit, List.map_append, List.map_cons] at hn
          exact (List.nodup_append.mp hn).2.2 _ z _ List.mem_cons_self rfl
  · have e : i = xs.length := by omega
    subst e
    refine .inl ⟨W.stop _ H' (g2.f.trans g2.fh) (by rw [hlen]; exact Nat.le_refl _), ?_⟩
    rw [List.take_length] at hDl
    have G := g.trans g2
    refine ⟨upd F' Dl (.dK (kD (kv xs))), _, ⟨G.f.trans (.new fD), fun a u z => ?_, G.h, fun a u z n => ?_⟩, .dct upd_same, hQ⟩
    · by_cases e2 : a = Dl
      · subst e2
        rw [upd_same] at z
        rw [hDl]
        exact z
      · rw [upd_ne e2] at z
        exact G.fh a u z
    · by_cases e2 : a = Dl
      · subst e2
        exact g.h.none hD
      · rw [upd_ne e2] at z
        exact G.new a u z n
/-- d[k] of a dict of texts -/
theorem we_dget {o i : Expr} (hu : B.X.A.units + 65 < cLine) (h : WE B o env fun d => ∃ kvs, d = .dct kvs ∧ WE B i env fun c => ∃ k v, c = .str k ∧ kvs.lookup k = some v ∧ Φ (.int v)) (hs : NoSl i := by intro _ _; rfl) : WE B (.Subscript o i pos) env Φ := .mk fun F σ H A =>
  by
  refine re_of (pe_dget (by omega) pe_re pe_re hs) (re_mono (h F σ H A) fun v H1 ⟨F1, d, g, r, kvs, e, q⟩ => ?_)
  subst e
  cases r with
  | dct ha =>
    refine re_mono (q F1 σ H1 (A.grow g)) fun w H2 ⟨F2, c, g2, r2, k, v, e2, hl, q2⟩ => ?_
    subst e2
    cases r2
    have ha2 := g2.h _ _ (g.fh _ _ ha)
    exact ⟨_, .int v, rfl, .inl ⟨_, .inr k, .inl ha2, rfl, (valV_kD hl).symm⟩, F2, _, g.trans g2, .int _, q2⟩
end
end Fw
/-! a new list of new lists -/
namespace Fw
open PySem PySem.Spec L2
/-- a statement with a statement of its own of what holds behind it -/
theorem ws_imp {B : Bd} {env : Env'} {st : Stmt} {I J : Env' → Prop} {rt : PD} {bk ct : Env' → Prop} (h : WS B st env ⟨I, rt, bk, ct⟩) (m : ∀ e, I e → J e) : WS B st env ⟨J, rt, bk, ct⟩ := .mk fun F σ H A =>
  rs_mono (h F σ H A) (fun _ _ ⟨F', env', e, A', q⟩ => ⟨F', env', e, A', m _ q⟩) (fun _ _ q => q) (fun _ _ q => q) fun _ _ q => q
theorem wb_seq {B : Bd} {env : Env'} {st : Stmt} {rest : List Stmt} {nx : Env' → Prop} {rt : PD} {bk ct : Env' → Prop} (I : Env' → Prop) (h : WS B st env ⟨I, rt, bk, ct⟩) (h2 : ∀ env1, I env1 → WB B rest env1 ⟨nx, rt, bk, ct⟩) : WB B (st :: rest) env ⟨nx, rt, bk, ct⟩ := wb_cons (ws_imp h h2)
structure MxL (K : PySem.W.Frag) (F H0 H : Hp) (l : Addr) (rows : List (List Dt)) (as : List Addr) : Prop where
  hl : H l = some (.lst (as.map V.ref))
  fl : F l = none
  h0 : H0 l = none
  la : l ∉ as
  nd : as.Nodup
  len : as.length = rows.length
  row : ∀ (i : Nat) (a : Addr) (ds : List Dt), as[i]? = some a → rows[i]? = some ds → F a = none ∧ H0 a = none ∧ ∃ vs, H a = some (.lst vs) ∧ RepL K F vs ds
theorem gr_none {F H F' H' : Hp} {a : Addr} {u : HO} (g : Gr F H F' H') (f : F a = none) (h : H a = some u) : F' a = none ∧ H' a = some u := by
  refine ⟨?_, g.h _ _ h⟩
  cases q : F' a with
  | none => rfl
  | some o =>
    have z := g.new _ _ q f
    rw [h] at z
    cases z
theorem MxL.grow {K : PySem.W.Frag} {F H0 H F' H' : Hp} {l : Addr} {rows : List (List Dt)} {as : List Addr} (M : MxL K F H0 H l rows as) (g : Gr F H F' H') : MxL K F' H0 H' l rows as :=
  ⟨(gr_none g M.fl M.hl).2, (gr_none g M.fl M.hl).1, M.h0, M.la, M.nd, M.len, fun i a ds h1 h2 => by
    obtain ⟨f, h0, vs, h, r⟩ := M.row i a ds h1 h2
    exact ⟨(gr_none g f h).1, h0, vs, (gr_none g f h).2, r.mono g.f⟩⟩
theorem MxL.at {K : PySem.W.Frag} {F H0 H : Hp} {l : Addr} {rows : List (List Dt)} {as : List Addr} (M : MxL K F H0 H l rows as) {i : Nat} {ds : List Dt} (h : rows[i]? = some ds) : ∃ a, as[i]? = some a ∧ F a = none ∧ H0 a = none ∧ ∃ vs, H a = some (.lst vs) ∧ RepL K F vs ds := by
  have hi : i < as.length := by
    rw [M.len]
    exact (List.getElem?_eq_some_iff.mp h).1
  exact ⟨as[i], List.getElem?_eq_getElem hi, M.row i _ ds (List.getElem?_eq_getElem hi) h⟩
theorem MxL.set {K : PySem.W.Frag} {F H0 H : Hp} {l : Addr} {rows : List (List Dt)} {as : List Addr} (M : MxL K F H0 H l rows as) {i : Nat} {a : Addr} {ds es : List Dt} {ws : List V} (ha : as[i]? = some a) (h : rows[i]? = some ds) (r : RepL K F ws es) :
    MxL K F H0 (upd H a (.lst ws)) l (rows.set i es) as := by
  have hla : l ≠ a := fun z => M.la (by rw [z]; exact List.mem_of_getElem? ha)
  refine ⟨by rw [upd_ne hla]; exact M.hl, M.fl, M.h0, M.la, M.nd, by rw [List.length_set]; exact M.len, fun j b cs h1 h2 => ?_⟩
  by_cases e : i = j
  · subst e
    rw [ha] at h1
    cases h1
    have hi : i < rows.length := (List.getElem?_eq_some_iff.mp h).1
    rw [List.getElem?_set_self hi] at h2
    cases h2
    obtain ⟨f, h0, _⟩ := M.row i a ds ha h
    exact ⟨f, h0, ws, upd_same, r⟩
  · rw [List.getElem?_set_ne e] at h2
    obtain ⟨f, h0, vs, hv, rv⟩ := M.row j b cs h1 h2
    have hb : b ≠ a := fun z => by
      subst z
      exact e ((List.getElem?_inj (List.getElem?_eq_some_iff.mp ha).1 M.nd).mp (ha.trans h1.symm))
    exact ⟨f, h0, vs, by rw [upd_ne hb]; exact hv, rv⟩
/-- an inner list that no name owns is written -/
theorem At.wr {B : Bd} {F H : Hp} {σ : L2.St} {env : Env'} (A : At B F σ H env) {a : Addr} {o : HO} (f : F a = none) (h0 : B.H0 a = none) (no : ∀ p ∈ env, p.2.owns = false) : At B F σ (upd H a o) env := by
  refine ⟨A.names, A.len, ⟨A.g.f, A.g.fh.mut f, A.g.h.mut h0, A.g.new⟩, fun i x s h => ?_, A.apart⟩
  obtain ⟨v, hv, k⟩ := A.ok i x s h
  refine ⟨v, hv, ?_⟩
  have := no (x, s) (List.mem_of_getElem? h)
  cases s with
  | un => trivial
  | dat d => exact k
  | own es => cases this
  | slf l1 C fs => cases this
section
variable {B : Bd} {tg iter elt : Expr} {env : Env'} {pos : Pos} {scope : Scope} {α : Type}
theorem tlc_mono {X : Cx} {g : TG} {tt : TT} {te : TE} {vs : List Nat} {σ : L2.St} {H : Hp} {Q Q' : VK} (h : tLc (RI X tg iter) g tt te vs σ H Q) (m : ∀ v H', Q v H' → Q' v H') : tLc (RI X tg iter) g tt te vs σ H Q' :=
  ri_mono h fun J H1 h1 D hD => by
    obtain ⟨W, w0, turn⟩ := h1 D hD
    refine ⟨W, w0, fun i n H' w => ?_⟩
    rcases turn i n H' w with ⟨st, q⟩ | go
    · exact .inl ⟨st, m _ _ q⟩
    · exact .inr go
theorem lcM_run {F H : Hp} {σ : L2.St} (A : At B F σ H env) (own : List (Str × Nat)) (xs : List α) (enc : α → Dt) (rows : α → List Dt) {E2 : α → Env'} {ns : List Str} (hi : WIt B tg iter env fun ds => ds = xs.map enc)
    (hT : ∀ x, ∀ s Hh C cl fp, TgE (Bk B scope s Hh C cl fp).X tg (enc x) env (E2 x) ns) (hv : ∀ x ∈ xs, ∀ s Hh C cl fp, WL (Bk B scope s Hh C cl fp) elt (E2 x) fun ds => ds = rows x)
    (hz : xs.length ≤ 1000000) (nd : B.X.N.Nodup) (hun : hunP env own) (hns : ns = own.map (·.1)) (hc : B.X.calm = true := by rfl) :
    tLc (RI B.X tg iter) (gB B scope tg) (tB' B scope []) (eB B scope elt) (own.map (·.2)) σ H fun v H' => ∃ F' l as, v = .ref l ∧ Gr F H F' H' ∧ MxL B.X.K F' H H' l (xs.map rows) as := by
  refine ri_mono (hi F σ H A) fun J H1 ⟨F1, ds, g, W, e⟩ => ?_
  subst e
  have hlen : (xs.map enc).length = xs.length := List.length_map ..
  intro Dl hD
  have A1 := A.grow g
  refine ⟨fun i m H' => m = xs.length - i ∧ i ≤ xs.length ∧ ∃ F' as, Gr F1 H1 F' H' ∧ MxL B.X.K F' H1 H' Dl ((xs.take i).map rows) as, ⟨xs.length, by omega, Nat.zero_le _, F1, [], Gr.own g.fh hD, upd_same, g.fh.none hD, hD, List.not_mem_nil, List.nodup_nil, rfl, fun i a ds h => by simp at h⟩, ?_⟩
  rintro i m H' ⟨rfl, hle, F', as, g2, M⟩
  by_cases hlt : i < xs.length
  · have hx : xs[i]? = some xs[i] := List.getElem?_eq_getElem hlt
    have hm : xs[i] ∈ xs := List.getElem_mem hlt
    obtain ⟨_, htake⟩ := take_at hx
    refine .inr ⟨W.go i H' (g2.f.trans g2.fh) (by rw [hlen]; exact hlt), fun H'' => i + 1 ≤ xs.length ∧ ∃ F' as, Gr F1 H1 F' H'' ∧ MxL B.X.K F' H1 H'' Dl ((xs.take (i + 1)).map rows) as,
      fun H2 q => ⟨xs.length - (i + 1), by omega, rfl, q.1, q.2⟩, fun x H2 y => ?_⟩
    obtain ⟨F3, d, g3, hd', r⟩ := W.yld i F' H' x H2 g2.f g2.fh (by rw [hlen]; exact hlt) y
    rw [List.getElem?_map, hx] at hd'
    cases hd'
    have M3 := M.grow g3
    have G3 := g2.trans g3
    have A3 : At B F3 σ H2 env := A1.grow G3
    have A3w : At B F3 (L2.wipe σ (own.map (·.2))) H2 env := A3.wipe fun v hv => by
      obtain ⟨p, hp, rfl⟩ := List.mem_map.mp hv
      exact ⟨p.1, hun.all p hp⟩
    have wl : (L2.wipe σ (own.map (·.2))).length = σ.length := wipe_length _ _
    intro s Hh C cl fp
    refine rg_mono (tg_run (B := Bk B scope s Hh C cl fp) nd hc (hT _ s Hh C cl fp) (A3w.bk scope s Hh C cl fp) r) fun σ4 H4 ⟨e4, A4, l4, k4⟩ => ?_
    subst e4
    have A4' : At B F3 σ4 H4 (E2 xs[i]) := ⟨A4.names, A4.len, A4.g, A4.ok, A4.apart⟩
    refine ⟨wipe_eq (l4.trans wl) fun j hj => ?_, ?_⟩
    · have hj2 : (L2.wipe σ (own.map (·.2)))[j]? = σ[j]? := wipe_out hj
      rw [← hj2]
      by_cases hjl : j < env.length
      · have hn : B.X.N[j]? = some env[j].1 := by
          rw [A.names, List.getElem?_map, List.getElem?_eq_getElem hjl]
          rfl
        refine k4 j env[j].1 hn fun z => hj ?_
        rw [hns] at z
        obtain ⟨p, hp, e⟩ := List.mem_map.mp z
        have hq : B.X.N[p.2]? = some p.1 := A.name (hun.all p hp)
        rw [e] at hq
        have := nodup_ix nd hn hq
        rw [this]
        exact List.mem_map.mpr ⟨p, hp, rfl⟩
      · rw [List.getElem?_eq_none, List.getElem?_eq_none]
        · rw [wl, A.len]
          omega
        · rw [l4, wl, A.len]
          omega
    · intro s Hh C cl fp
      refine rts_mono (wts_nil (B := Bk B scope s Hh C cl fp) (Φ := fun b => b = true) rfl F3 σ4 H4 (A4'.bk scope s Hh C cl fp)) fun b H5 ⟨F5, g5, eb⟩ => ?_
      subst eb
      have M5 := M3.grow g5
      have G5 := G3.trans g5
      rw [if_pos rfl]
      intro s Hh C cl fp
      refine re_mono (hv _ hm s Hh C cl fp F5 σ4 H5 ((A4'.grow g5).bk scope s Hh C cl fp)) fun yv H6 ⟨F6, l6, vs, ds, e6, g6, n6, f6, h6, r6, ed⟩ => ?_
      subst e6
      subst ed
      have M6 := M5.grow g6
      have G6 := G5.trans g6
      have hlD : l6 ≠ Dl := fun z => by
        subst z
        rw [M5.hl] at n6
        cases n6
      have hla : l6 ∉ as := fun z => by
        obtain ⟨j, hj⟩ := List.getElem?_of_mem z
        have hjl : j < ((xs.take i).map rows).length := by
          rw [← M5.len]
          exact (List.getElem?_eq_some_iff.mp hj).1
        obtain ⟨_, _, vs, hv, _⟩ := M5.row j l6 _ hj (List.getElem?_eq_getElem hjl)
        rw [hv] at n6
        cases n6
      have h1n : H1 l6 = none := G5.h.none n6
      have la : as.length ≤ xs.length := by
        rw [M.len, List.length_map, List.length_take]
        omega
      have lt : ((xs.take i).map rows).length = i := by
        rw [List.length_map, List.length_take]
        omega
      refine ⟨_, M6.hl, by rw [List.length_map, sizeLine_eq]; omega, hlt, F6, as ++ [l6], ⟨G6.f, G6.fh.mut M6.fl, G6.h.mut hD, G6.new⟩, by rw [upd_same, List.map_append]; rfl, M6.fl, hD, ?_, ?_, ?_, fun j a es h1 h2 => ?_⟩
      · intro z
        rcases List.mem_append.mp z with z | z
        · exact M6.la z
        · exact hlD (List.mem_singleton.mp z).symm
      · exact List.nodup_append.mpr ⟨M6.nd, List.nodup_cons.mpr ⟨List.not_mem_nil, List.nodup_nil⟩, fun a ha b hb => by
          rw [List.mem_singleton] at hb
          subst hb
          intro z
          subst z
          exact hla ha⟩
      · rw [List.length_append, M6.len, htake, List.map_append, List.length_append]
        rfl
      · rw [htake, List.map_append] at h2
        by_cases hj : j < as.length
        · rw [List.getElem?_append_left hj] at h1
          rw [List.getElem?_append_left (by rw [← M6.len]; exact hj)] at h2
          obtain ⟨fa, ha, vs', hv', rv⟩ := M6.row j a es h1 h2
          refine ⟨fa, ha, vs', ?_, rv⟩
          rw [upd_ne fun z => M6.la (by rw [← z]; exact List.mem_of_getElem? h1)]
          exact hv'
        · have hj2 : j = as.length := by
            have := (List.getElem?_eq_some_iff.mp h1).1
            rw [List.length_append, List.length_singleton] at this
            omega
          subst hj2
          rw [List.getElem?_append_right (Nat.le_refl _), Nat.sub_self] at h1
          rw [List.getElem?_append_right (by rw [M6.len]; exact Nat.le_refl _), M6.len, Nat.sub_self] at h2
          cases h1
          cases h2
          exact ⟨f6, h1n, vs, by rw [upd_ne hlD]; exact h6, r6⟩
  · have e : i = xs.length := by omega
    subst e
    refine .inl ⟨W.stop _ H' (g2.f.trans g2.fh) (by rw [hlen]; exact Nat.le_refl _), F', Dl, as, rfl, g.trans g2, ?_⟩
    rw [List.take_length] at M
    exact ⟨M.hl, M.fl, g.h.none M.h0, M.la, M.nd, M.len, fun i a ds h1 h2 => by
      obtain ⟨x1, x2, x3⟩ := M.row i a ds h1 h2
      exact ⟨x1, g.h.none x2, x3⟩⟩
theorem rs_lcM {F H : Hp} {σ : L2.St} {y : Str} {py spos : Pos} {D : Ends} {i : Nat} (A : At B F σ H env) (own : List (Str × Nat)) (xs : List α) (enc : α → Dt) (rows : α → List Dt) {E2 : α → Env'} {ns : List Str} (hy : B.X.N[i]? = some y) (hi : WIt B tg iter env fun ds => ds = xs.map enc)
    (hT : ∀ x, ∀ s Hh C cl fp, TgE (Bk B scope s Hh C cl fp).X tg (enc x) env (E2 x) ns) (hv : ∀ x ∈ xs, ∀ s Hh C cl fp, WL (Bk B scope s Hh C cl fp) elt (E2 x) fun ds => ds = rows x)
    (hz : xs.length ≤ 1000000) (hQ : ∀ F' H' l as, Gr F H F' H' → MxL B.X.K F' H H' l (xs.map rows) as → D.nx (σ.set i (some (.ref l))) H') (nd : B.X.N.Nodup) (ok : BlkOk B.X.N B.X.env.scope scope own) (hun : hunP env own) (hns : ns = own.map (·.1)) (hyl : B.X.env.scope.names.lookup y = some .local := by rfl)
    (hsw : swapsWith (.ListComp elt [⟨tg, iter, [], 0⟩] scope pos) (some (.Name y py)) spos.line B.X.env = pure true := by exact sw_true rfl rfl rfl (by decide +kernel)) (hc : B.X.calm = true := by rfl) (hs : ∀ x, foldedSetIterable iter B.X.env x = pure x := by intro _; rfl) :
    RS B.X (.Assign [.Name y py] (.ListComp elt [⟨tg, iter, [], 0⟩] scope pos) spos) D σ H := by
  refine rs_of (ps_setLc (wi := RI B.X tg iter) (g := gB B scope tg) (tt := tB' B scope []) (te := eB B scope elt) hc nd hy hyl hsw pi_ri ok (fun s Hh C cl fp => ⟨fun pins s' σ H v u Q I r h => h s Hh C cl fp pins s' u I r⟩) (fun s Hh C cl fp => ⟨fun pins s' σ H Q I h => h s Hh C cl fp pins s' I⟩) (fun s Hh C cl fp => ⟨fun pins s' σ H Q I h => h s Hh C cl fp pins s' I⟩) hs) ?_
  have h := lcM_run (elt := elt) A own xs enc rows hi hT hv hz nd hun hns hc
  refine tlc_mono h fun v H' ⟨F', l, as, e, g, M⟩ => ?_
  subst e
  exact hQ F' H' l as g M
end
theorem re_nm {B : Bd} {F H : Hp} {σ : L2.St} {env : Env'} {x : Str} {d : Dt} {pos : Pos} {Q : VK} (i : Nat) (A : At B F σ H env) (hi : env[i]? = some (x, .dat d)) (h : ∀ v, Rep B.X.K F v d → Q v H) (hv : Vis B.X.env.scope x := by first | exact Or.inl rfl | exact Or.inr (Or.inl rfl) | exact Or.inr (Or.inr rfl))
    (hd : (x == ("__debug__" : Str)) = false := by decide) (hcd : (x == ("__classdict__" : Str)) = false := by decide) : RE B.X (.Name x pos) σ H Q := by
  obtain ⟨o, ho, v, e, r⟩ := A.ok i x _ hi
  subst e
  exact re_of (pe_var (A.name hi) hv hd hcd) ⟨v, ho, h v r⟩
/-- the whole becomes data -/
theorem MxL.frz {K : PySem.W.Frag} {F0 H0 F H : Hp} {l : Addr} {rows : List (List Dt)} {as : List Addr} (M : MxL K F H0 H l rows as) (g : Gr F0 H0 F H) : ∃ F', Gr F0 H0 F' H ∧ Rep K F' (.ref l) (.lst (rows.map .lst)) := by
  have fz : ∀ (as : List Addr) (rows : List (List Dt)) (F : Hp), Gr F0 H0 F H → as.Nodup → as.length = rows.length → (∀ (i : Nat) (a : Addr) (ds : List Dt), as[i]? = some a → rows[i]? = some ds → F a = none ∧ H0 a = none ∧ ∃ vs, H a = some (.lst vs) ∧ RepL K F vs ds) →
      ∃ F', Gr F0 H0 F' H ∧ Ex F F' ∧ RepL K F' (as.map V.ref) (rows.map .lst) ∧ ∀ x, x ∉ as → F' x = F x := by
    intro as
    induction as with
    | nil =>
      intro rows F g _ hl _
      cases rows with
      | nil => exact ⟨F, g, .refl _, .nil, fun _ _ => rfl⟩
      | cons _ _ => cases hl
    | cons a as ih =>
      intro rows F g nd hl hr
      cases rows with
      | nil => cases hl
      | cons ds rows =>
        obtain ⟨fa, ha0, vs, hv, rv⟩ := hr 0 a ds rfl rfl
        rw [List.nodup_cons] at nd
        have ex : Ex F (upd F a (.lst vs)) := .new fa
        have g1 : Gr F0 H0 (upd F a (.lst vs)) H := ⟨g.f.trans ex, fun b u z => by
            by_cases q : b = a
            · subst q
              rw [upd_same] at z
              rw [hv]
              exact z
            · rw [upd_ne q] at z
              exact g.fh b u z, g.h, fun b u z n => by
            by_cases q : b = a
            · subst q
              exact ha0
            · rw [upd_ne q] at z
              exact g.new b u z n⟩
        obtain ⟨F', g', e', r', o'⟩ := ih rows _ g1 nd.2 (by simpa using hl) fun i b es h1 h2 => by
          obtain ⟨fb, hb0, ws, hw, rw'⟩ := hr (i + 1) b es (by simpa using h1) (by simpa using h2)
          have hne : b ≠ a := fun z => nd.1 (by rw [← z]; exact List.mem_of_getElem? h1)
          exact ⟨by rw [upd_ne hne]; exact fb, hb0, ws, hw, rw'.mono ex⟩
        refine ⟨F', g', ex.trans e', .cons (.lst (e' _ _ upd_same) (rv.mono (ex.trans e'))) r', fun x hx => ?_⟩
        rw [List.mem_cons, not_or] at hx
        rw [o' x hx.2, upd_ne hx.1]
  obtain ⟨F1, g1, e1, r1, o1⟩ := fz as rows F g M.nd M.len M.row
  have f1 : F1 l = none := by rw [o1 l M.la]; exact M.fl
  refine ⟨upd F1 l (.lst (as.map V.ref)), ⟨g1.f.trans (.new f1), fun b u z => ?_, g1.h, fun b u z n => ?_⟩, .lst upd_same (r1.mono (.new f1))⟩
  · by_cases q : b = l
    · subst q
      rw [upd_same] at z
      rw [M.hl]
      exact z
    · rw [upd_ne q] at z
      exact g1.fh b u z
  · by_cases q : b = l
    · subst q
      exact M.h0
    · rw [upd_ne q] at z
      exact g1.new b u z n
end Fw
namespace Fw
open PySem PySem.Spec L2
def notStar : Expr → Bool
  | .Starred _ _ => false
  | _ => true
theorem starEach_ns {e : Expr} {es : List Expr} {env : Env} (h : notStar e = true) : starEach (e :: es) env = (false, eval e env) :: starEach es env := by
  cases e <;> first | rfl | cases h
theorem wa_consN {B : Bd} {env : Env'} {e : Expr} {es : List Expr} {Ψ : List Dt → Prop} (h : WE B e env fun d => WA B es env fun ds => Ψ (d :: ds)) (hs : notStar e = true := by rfl) : WA B (e :: es) env Ψ := wa_cons h (starEach_ns hs)
end Fw
local macro_rules | `(tactic| walk_at "pl") => `(tactic| (repeat first | (with_reducible exact Fw.Pl.here) | (with_reducible apply Fw.Pl.there)))
local macro_rules | `(tactic| walk_at "nd") => `(tactic| assumption)
local macro_rules | `(tactic| walk_at "op") => `(tactic| first
  | ((with_reducible show Fw.WO _ (PySem.binaryOp .Add) _ _ _); (refine Fw.wo_add ?_))
  | ((with_reducible show Fw.WO _ (PySem.binaryOp .Sub) _ _ _); (refine Fw.wo_sub ?_))
  | ((with_reducible show Fw.WO _ (PySem.compareOp .Lt) _ _ _); (refine Fw.wo_lt ?_))
  | ((with_reducible show Fw.WO _ (PySem.compareOp .Gt) _ _ _); (refine Fw.wo_gt ?_))
  | ((with_reducible show Fw.WO _ (PySem.compareOp .LtE) _ _ _); (refine Fw.wo_le ?_))
  | ((with_reducible show Fw.WO _ (PySem.compareOp .GtE) _ _ _); (refine Fw.wo_ge ?_))
  | ((with_reducible show Fw.WO _ (PySem.compareOp .Eq) _ _ _); (first | refine Fw.wo_eq ?_ | refine Fw.wo_eqS ?_))
  | ((with_reducible show Fw.WO _ (PySem.compareOp .NotEq) _ _ _); (first | refine Fw.wo_ne ?_ | refine Fw.wo_neB ?_))
  | ((with_reducible show Fw.WO _ (PySem.compareOp .Is) _ _ _); (refine Fw.wo_is ?_))
  | ((with_reducible show Fw.WO _ (PySem.compareOp .IsNot) _ _ _); (refine Fw.wo_isnt ?_)))
local macro_rules | `(tactic| walk_at "x") => `(tactic| first
  | ((with_reducible show Fw.WE _ (.Name _ _) _ _); (refine Fw.we_name (by walk_at "pl") ?_))
  | ((with_reducible show Fw.WE _ (.Constant _ _ _) _ _); (first | refine Fw.we_int ?_ | refine Fw.we_str ?_ | refine Fw.we_non ?_ | refine Fw.we_bl ?_))
  | ((with_reducible show Fw.WE _ (.BinOp _ _ _ _) _ _); (refine Fw.we_bin ?_))
  | ((with_reducible show Fw.WE _ (.Compare _ _ _ _) _ _); (refine Fw.we_cmp ?_))
  | ((with_reducible show Fw.WE _ (.Subscript _ _ _) _ _); (refine Fw.we_ix ?_))
  | ((with_reducible show Fw.WE _ (.Tuple _ _ _) _ _); (refine Fw.we_tup ?_))
  | ((with_reducible show Fw.WE _ (.UnaryOp .USub _ _) _ _); (refine Fw.we_neg ?_))
  | ((with_reducible show Fw.WA _ _ _ _); (first | refine Fw.wa_consN ?_ | refine Fw.wa_nil ?_))
  | ((with_reducible show Fw.WO _ _ _ _ _); (walk_at "op"))
  | ((with_reducible show Fw.WP _ _ _ _); (first | refine Fw.wp_some ?_ | refine Fw.wp_none ?_)))
local macro_rules | `(tactic| walk_at "t") => `(tactic| first
  | ((with_reducible show Fw.WT _ (.Compare _ _ _ _) _ _); (refine Fw.wt_cmp ?_))
  | ((with_reducible show Fw.WT _ (.UnaryOp .Not _ _) _ _); (refine Fw.wt_not ?_))
  | ((with_reducible show Fw.WT _ (.BoolOp .Or _ _) _ _); (refine Fw.wt_ww (Fw.ww_or ?_)))
  | ((with_reducible show Fw.WT _ (.BoolOp .And _ _) _ _); (refine Fw.wt_ww (Fw.ww_and ?_)))
  | ((with_reducible show Fw.WT _ _ _ _); (refine Fw.wt_val ?_))
  | refine Fw.ww_or1 ?_ | refine Fw.ww_and1 ?_ | refine Fw.ww_or ?_ | refine Fw.ww_and ?_)
local macro_rules | `(tactic| walk_at "asg") => `(tactic| refine Fw.wb_cons (Fw.ws_asg (by walk_at "pl") ?_ (by walk_at "nd")))
local macro_rules | `(tactic| walk_at "asgL") => `(tactic| refine Fw.wb_cons (Fw.ws_asgL (by walk_at "pl") ?_ (by walk_at "nd")))
local macro_rules | `(tactic| walk_at "if") => `(tactic| refine Fw.wb_cons (Fw.ws_if ?_))
local macro_rules | `(tactic| walk_at "ret") => `(tactic| refine Fw.wb_cons (Fw.ws_ret ?_))
local macro_rules | `(tactic| walk_at "nil") => `(tactic| repeat (refine Fw.wb_nil ?_))
local macro_rules | `(tactic| walk_at "lo") => `(tactic| first | exact Or.inl rfl | exact Or.inr rfl | assumption)
local macro_rules | `(tactic| walk_at "tg") => `(tactic| first
  | exact Fw.TgE.name (by walk_at "pl") (by exact rfl) (by walk_at "lo") (by walk_at "lo")
  | exact Fw.TgE.tup (by walk_at "tgs") (by exact rfl) (by exact rfl))
local macro_rules | `(tactic| walk_at "tgs") => `(tactic| first
  | exact Fw.TgsE.nil
  | exact Fw.TgsE.cons (by walk_at "tg") (by walk_at "tgs") (by exact rfl))
local macro_rules | `(tactic| walk_at "sz") => `(tactic| exact Nat.le_of_ble_eq_true rfl)
local macro_rules | `(tactic| walk_at "X") => `(tactic| repeat walk_at "x")
local macro_rules | `(tactic| walk_at "lst") => `(tactic| (refine Fw.we_wl ?_; refine Fw.wl_lst ?_))
/-! Calls by keywords alone. -/
namespace Fw
open PySem PySem.Spec L2
structure OkK (P : Program) (w : World) (K : PySem.W.Frag) (mg : Str → Option Value) (base : Heap) (k : Nat) (x : Str) (ps : List Str) (T : TD) : Prop where
  ex : ∃ f fd, mg x = some (.ref f) ∧ PySem.W.keepIn K (.ref f) = true ∧ KBn K fd ps 0 ps (fun _ ws => ws) (fun _ zs => zs) ∧ FnOk P w K mg base CX0 k f fd ps (spT K T)
section
variable {P : Program} {w : World} {K : PySem.W.Frag} {mg : Str → Option Value} {base : Heap}
theorem ok_defK {x : Str} {st : Stmt} {f : Addr} {fd : FuncData} {N ps : List Str} {k : Nat} {T : TD} (D : Df K mg x st f fd) (S : FnScope N ps (defScope st)) (hl : ∀ ds Φ, T ds Φ → ds.length = ps.length)
    (hb : ∀ (kV doc pm : Value) (an : Option Addr) (cdv ct : Value) (us : List Value), us.length = ps.length → bindArgs (PySem.W.fnOf x x (defArgs st) (defBody st) (defScope st) .none kV doc pm an cdv ct) ⟨[], ps.zip us⟩ = pure (ps.zip us))
    (body : ∀ (cdv : Value) (A : Around) (outer : List Env) (s : Shared) (F H : Hp) (E : XK), Room k (A.deeper (PyProof.Rows.envOfC x (defScope st) s.heap.objs.size f cdv)) → ∀ ds Φ, T ds Φ →
      WB (bdOf P w K mg base N x st f cdv A outer s F H E) (defBody st) (mkE N ds) { nx := fun _ => Φ .non, rt := Φ }) : OkK P w K mg base (k + 1) x ps T := by
  refine ⟨f, fd, D.at_, D.fn.kp, ⟨fun s us ws hin hu hw => ?_, fun _ r => r⟩, ?_⟩
  · obtain ⟨oc, od, dV, kV, doc, pm, an, cdv, ct, osl, rfl, lk, hcd, hD, hK⟩ := D.fn.ex
    have eu : us = [] := List.eq_nil_of_length_eq_zero hu
    subst eu
    have noneD : dV = .none := hD.elim (fun x => x.2) fun x => absurd rfl x.1
    subst noneD
    exact .of_eq (hb kV doc pm an cdv ct ws hw)
  · have hps : ps.length ≤ N.length := by
      have e := congrArg List.length S.pre
      rw [List.length_take] at e
      omega
    refine D.fn.ok S (fun vs H Q E h => ?_) fun cdv A outer s H vs Q E hr h => ?_
    · obtain ⟨F, ds, Φ, _, r, t, _⟩ := h
      rw [r.length]
      exact hl ds Φ t
    · obtain ⟨F, ds, Φ, e, r, t, q⟩ := h
      have hvl : vs.length ≤ N.length := by
        rw [r.length, hl ds Φ t]
        exact hps
      have B := body cdv A outer s F H E hr ds Φ t F _ H (at_start (X := (cxOf CX0 P w K mg base N x (defScope st) f cdv A outer s H E).nox) e r hvl)
      exact ⟨_, PSs.nox pss_re, rb_mono B (fun σ' H' ⟨F', env', _, A', h⟩ => q .non H' F' .non A'.g .non h) (fun v H' ⟨F', d, g, r, h⟩ => q v H' F' d g r h) (fun _ _ ⟨_, _, _, _, z⟩ => z.elim) fun _ _ ⟨_, _, _, _, z⟩ => z.elim⟩
theorem OkK.mono {x : Str} {ps : List Str} {j k : Nat} {T : TD} (h : OkK P w K mg base j x ps T) (hj : j ≤ k) : OkK P w K mg base k x ps T :=
  let ⟨f, fd, h1, h2, h3, h4⟩ := h.ex
  ⟨f, fd, h1, h2, h3, h4.mono hj⟩
end
section
variable {X : Cx} {CX : CXT} {k n : Nat} {f : Addr} {fd : FuncData} {ps ks : List Str} {sp : Sp} {E : XK} {x : Str} {p pos : Pos} {kws : List Keyword} {tk : TA} {g : List Value → List Value → List Value} {gV : List V → List V → List V}
/-- f(k = v, ..) -/
theorem pe_callN0 (F : FnOk X.prog X.w X.K X.mg X.base CX k f fd ps sp) (hr : Room k X.A) (hg : Gl X x) (hm : X.mg x = some (.ref f)) (hk : PySem.W.keepIn X.K (.ref f) = true) (hb : KBn X.K fd ps 0 ks g gV) (hx : Passes CX X E)
    (hkw : PK X kws tk) (hall : (backToKw pos (keywordEach kws X.env)).all (·.1.isSome) = true := by rfl) (hks : (backToKw pos (keywordEach kws X.env)).filterMap (·.1) = ks := by rfl)
    (hdb : (x == ("__debug__" : Str)) = false := by decide)
    (hpl : ((backTo pos (starEach [] X.env)).any (·.1)
      || (backToKw pos (keywordEach kws X.env)).any (·.1.isNone)) = false := by rfl) :
    PE X (.Call (.Name x p) [] kws pos) (fun σ H Q => tk σ H fun zs H2 => zs.length = ks.length ∧ sp (gV [] zs) H2 Q E) := by
  refine ⟨fun pins s σ H Q I h => ?_⟩
  refine wpAny_Call_Name_kw (ld_glob (X := X) I hg hm ?_ hdb)
  refine PySem.W.callWith_KW0 (h₀ := X.base) I.ok.mod.kin hk hall (thn (hkw.run pos pins s σ H _ I h) fun ws s2 ⟨zs, H2, I2, rz, l2, q2⟩ => ⟨I2.kIn, ?_⟩) hpl
  rw [hks]
  exact run_fnN (us := []) (vs := []) F hr hb hx I2 .nil rz rfl l2 q2
end
section
variable {B : Bd} {env : Env'} {x : Str} {e1 e2 : Expr} {Φ : PD} {p p1 p2 pos : Pos} {k : Nat} {a b : Str} {T : TD}
theorem we_callK2 (G : OkK B.X.prog B.X.w B.X.K B.X.mg B.X.base k x [a, b] T) (hr : Room k B.X.A) (h : WE B e1 env fun d1 => WE B e2 env fun d2 => T [d1, d2] Φ) (hg : Gl B.X x := by rfl) (hdb : (x == ("__debug__" : Str)) = false := by decide)
    (hall : (backToKw pos (keywordEach [⟨some a, e1, p1⟩, ⟨some b, e2, p2⟩] B.X.env)).all (·.1.isSome) = true := by rfl) (hks : (backToKw pos (keywordEach [⟨some a, e1, p1⟩, ⟨some b, e2, p2⟩] B.X.env)).filterMap (·.1) = [a, b] := by rfl)
    (hpl : ((backTo pos (starEach [] B.X.env)).any (·.1) || (backToKw pos (keywordEach [⟨some a, e1, p1⟩, ⟨some b, e2, p2⟩] B.X.env)).any (·.1.isNone)) = false := by rfl) :
    WE B (.Call (.Name x p) [] [⟨some a, e1, p1⟩, ⟨some b, e2, p2⟩] pos) env Φ := .mk fun F σ H A => by
  obtain ⟨f, fd, h1, h2, h3, h4⟩ := G.ex
  refine re_of (pe_callN0 h4 hr hg h1 h2 h3 pass0 (pk_cons pe_re (pk_cons pe_re pk_nil)) hall hks hdb hpl) ?_
  refine re_mono (h F σ H A) fun v1 H1 ⟨F1, d1, g1, r1, q1⟩ => re_mono (q1 F1 σ H1 (A.grow g1)) fun v2 H2 ⟨F2, d2, g2, r2, q2⟩ => ?_
  exact ⟨rfl, F2, [d1, d2], Φ, g2.fh, .cons (r1.mono g2.f) (.cons r2 .nil), q2, fun v H' F' d g r q => ⟨F', d, (g1.trans g2).trans g, r, q⟩⟩
end
end Fw
namespace Fw
open PySem PySem.Spec L2
/-- the promise of a def, of the very function -/
theorem fn_def {P : Program} {w : World} {K : PySem.W.Frag} {mg : Str → Option Value} {base : Heap} {x : Str} {st : Stmt} {f : Addr} {fd : FuncData} {N ps : List Str} {k : Nat} {T : TD} (D : Df K mg x st f fd) (S : FnScope N ps (defScope st)) (hl : ∀ ds Φ, T ds Φ → ds.length = ps.length)
    (body : ∀ (cdv : Value) (A : Around) (outer : List Env) (s : Shared) (F H : Hp) (E : XK), Room k (A.deeper (PyProof.Rows.envOfC x (defScope st) s.heap.objs.size f cdv)) → ∀ ds Φ, T ds Φ →
      WB (bdOf P w K mg base N x st f cdv A outer s F H E) (defBody st) (mkE N ds) { nx := fun _ => Φ .non, rt := Φ }) : FnOk P w K mg base CX0 (k + 1) f fd ps (spT K T) := by
  have hps : ps.length ≤ N.length := by
    have e := congrArg List.length S.pre
    rw [List.length_take] at e
    omega
  refine D.fn.ok S (fun vs H Q E h => ?_) fun cdv A outer s H vs Q E hr h => ?_
  · obtain ⟨F, ds, Φ, _, r, t, _⟩ := h
    rw [r.length]
    exact hl ds Φ t
  · obtain ⟨F, ds, Φ, e, r, t, q⟩ := h
    have hvl : vs.length ≤ N.length := by
      rw [r.length, hl ds Φ t]
      exact hps
    have B := body cdv A outer s F H E hr ds Φ t F _ H (at_start (X := (cxOf CX0 P w K mg base N x (defScope st) f cdv A outer s H E).nox) e r hvl)
    exact ⟨_, PSs.nox pss_re, rb_mono B (fun σ' H' ⟨F', env', _, A', h⟩ => q .non H' F' .non A'.g .non h) (fun v H' ⟨F', d, g, r, h⟩ => q v H' F' d g r h) (fun _ _ ⟨_, _, _, _, z⟩ => z.elim) fun _ _ ⟨_, _, _, _, z⟩ => z.elim⟩
end Fw
/-! The program and the law as plain functions. -/
namespace Cr
/-- teacher, pupil, bound -/
abbrev Les := Nat × Nat × Nat
def stepF (f : List Bool) (p : Nat × Nat) : List Bool := if f.getD p.1 false = true then f.set p.2 true else f
def passF (arrows : List (Nat × Nat)) (f : List Bool) : List Bool := arrows.foldl stepF f
def roundsF (arrows : List (Nat × Nat)) (f : List Bool) : Nat → List Bool
  | 0 => f
  | n + 1 => passF arrows (roundsF arrows f n)
def reached (arrows : List (Nat × Nat)) (f : List Bool) : List Bool := roundsF arrows f f.length
theorem stepF_len (f : List Bool) (p : Nat × Nat) : (stepF f p).length = f.length := by
  unfold stepF
  split
  · rw [List.length_set]
  · rfl
theorem foldF_len : ∀ (arrows : List (Nat × Nat)) (f : List Bool), (arrows.foldl stepF f).length = f.length
  | [], _ => rfl
  | p :: r, f => by rw [List.foldl_cons, foldF_len r, stepF_len]
theorem roundsF_len (arrows : List (Nat × Nat)) (f : List Bool) : ∀ n, (roundsF arrows f n).length = f.length
  | 0 => rfl
  | n + 1 => by rw [roundsF, passF, foldF_len, roundsF_len]
theorem reached_len (arrows : List (Nat × Nat)) (f : List Bool) : (reached arrows f).length = f.length := roundsF_len arrows f _
def fwd (ls : List Les) : List (Nat × Nat) := ls.map fun l => (l.1, l.2.1)
def bwd (ls : List Les) : List (Nat × Nat) := ls.map fun l => (l.2.1, l.1)
def filled0 (n : Nat) (fo : List Nat) : List Bool := (List.range n).map fun k => decide (k ∈ fo)
def lead0 (n i : Nat) : List Bool := (List.range n).map fun k => decide (k = i)
def useful (n : Nat) (ls : List Les) (fo : List Nat) (i : Nat) : List Bool := (List.range n).map fun k => (reached (fwd ls) (filled0 n fo)).getD k false && (reached (bwd ls) (lead0 n i)).getD k false
theorem useful_len (n : Nat) (ls : List Les) (fo : List Nat) (i : Nat) : (useful n ls fo i).length = n := by
  unfold useful
  rw [List.length_map, List.length_range]
/-- the lessons of two places with the flag -/
def innerF (fl : List Bool) (ls : List Les) : List Les := ls.filter fun l => fl.getD l.1 false && fl.getD l.2.1 false
/-- rings that go on from a path -/
def closing (ss : List Les) : Nat → List Nat → Nat → List (List Nat × Nat)
  | 0, _, _ => []
  | k + 1, path, total => ss.flatMap fun l =>
    if l.1 = path.getLastD 0 then
      (if l.2.1 = path.headD 0 then [(path, total + l.2.2)]
       else if path.headD 0 < l.2.1 ∧ l.2.1 ∉ path then closing ss k (path ++ [l.2.1]) (total + l.2.2) else [])
    else []
abbrev Ring := List Nat × Nat
def better (b : Option Ring) (r : Ring) : Option Ring := match b with
  | none => some r
  | some b => if (r.2 : Int) * (b.1.length : Int) < (b.2 : Int) * (r.1.length : Int) then some r else some b
def leastR (rs : List Ring) : Option Ring := rs.foldl better none
/-- the program's rings, in its order -/
def ringsP (n : Nat) (ss : List Les) : List Ring := (List.range n).flatMap fun i => closing ss n [i] 0
/-- potentials -/
def relax (top bottom : Int) (ds : List (Option Int)) (l : Les) : List (Option Int) := match ds.getD l.1 none, ds.getD l.2.1 none with
  | some a, some b => ds.set l.2.1 (some (if a + bottom * (l.2.2 : Int) - top < b then a + bottom * (l.2.2 : Int) - top else b))
  | _, _ => ds
def potRound (top bottom : Int) (ss : List Les) (ds : List (Option Int)) : List (Option Int) := ss.foldl (relax top bottom) ds
def potRounds (top bottom : Int) (ss : List Les) (ds : List (Option Int)) : Nat → List (Option Int)
  | 0 => ds
  | n + 1 => potRound top bottom ss (potRounds top bottom ss ds n)
def pot0 (fl : List Bool) : List (Option Int) := fl.map fun b => if b = true then some 0 else none
def pots (fl : List Bool) (ss : List Les) (top bottom : Int) : List (Option Int) := potRounds top bottom ss (pot0 fl) fl.length
theorem relax_len (top bottom : Int) (ds : List (Option Int)) (l : Les) : (relax top bottom ds l).length = ds.length := by
  unfold relax
  split
  · rw [List.length_set]
  · rfl
theorem potRound_len (top bottom : Int) : ∀ (ss : List Les) (ds : List (Option Int)), (ss.foldl (relax top bottom) ds).length = ds.length
  | [], _ => rfl
  | p :: r, f => by rw [List.foldl_cons, potRound_len top bottom r, relax_len]
theorem potRounds_len (top bottom : Int) (ss : List Les) (ds : List (Option Int)) : ∀ n, (potRounds top bottom ss ds n).length = ds.length
  | 0 => rfl
  | n + 1 => by rw [potRounds, potRound, potRound_len, potRounds_len]
theorem pots_len (fl : List Bool) (ss : List Les) (top bottom : Int) : (pots fl ss top bottom).length = fl.length := by
  unfold pots
  rw [potRounds_len, pot0, List.length_map]
/-- depths: rows and matrices of lengths -/
abbrev Row := List (Option Nat)
def lesser (a b : Option Nat) : Option Nat := match a, b with
  | none, y => y
  | some x, none => some x
  | some x, some y => some (if y < x then y else x)
def lsum (a b : Option Nat) : Option Nat := match a, b with
  | some x, some y => some (x + y)
  | _, _ => none
def rowMat (row : Row) (m : List Row) : Row := (List.range row.length).map fun to => (List.range row.length).foldl (fun best i => lesser best (lsum (row.getD i none) ((m.getD i []).getD to none))) none
def putM (m : List Row) (l : Les) : List Row := m.set l.1 ((m.getD l.1 []).set l.2.1 (some l.2.2))
def matrix0 (n : Nat) : List Row := List.replicate n (List.replicate n none)
def lessonM (n : Nat) (ls : List Les) : List Row := ls.foldl putM (matrix0 n)
def row0 (n : Nat) (fo : List Nat) : Row := (List.range n).map fun k => if k ∈ fo then some 0 else none
def matSq (m : List Row) : List Row := m.map fun line => rowMat line m
/-- the program's loop -/
def powRow : Nat → Row → List Row → Nat → Row
  | 0, row, _, _ => row
  | k + 1, row, m, rest => if rest = 0 then row else powRow k (if rest % 2 = 1 then rowMat row m else row) (if rest / 2 = 0 then m else matSq m) (rest / 2)
def depthRow (n : Nat) (ls : List Les) (fo : List Nat) (g : Nat) : Row := powRow (g + 1) (row0 n fo) (lessonM n ls) g
/-- the law's rings -/
def extend (ls : List Les) (f : Nat) (ps : List Ring) : List Ring := ps.flatMap fun p => (ls.filter fun l => decide (l.1 = p.1.getLastD 0)).flatMap fun l => if l.2.1 ≠ f ∧ f < l.2.1 ∧ l.2.1 ∉ p.1 then [(p.1 ++ [l.2.1], p.2 + l.2.2)] else []
def closed (ls : List Les) (f : Nat) (ps : List Ring) : List Ring := ps.flatMap fun p => (ls.filter fun l => decide (l.1 = p.1.getLastD 0)).flatMap fun l => if l.2.1 = f then [(p.1, p.2 + l.2.2)] else []
def pathsL (ls : List Les) (f : Nat) : Nat → List Ring
  | 0 => [([f], 0)]
  | k + 1 => extend ls f (pathsL ls f k)
def ringsL (n : Nat) (ls : List Les) : List Ring := (List.range n).flatMap fun f => (List.range n).flatMap fun k => closed ls f (pathsL ls f k)
/-- the row of the next generation -/
def afterStep (row : Row) (acc : Row) (l : Les) : Row := match row.getD l.1 none with
  | none => acc
  | some d => (match acc.getD l.2.1 none with
    | none => acc.set l.2.1 (some (d + l.2.2))
    | some e => if d + l.2.2 < e then acc.set l.2.1 (some (d + l.2.2)) else acc)
def afterRow (ls : List Les) (row : Row) : Row := ls.foldl (afterStep row) (row.map fun _ => none)
def iterRow (ls : List Les) (row : Row) : Nat → Row
  | 0 => row
  | k + 1 => afterRow ls (iterRow ls row k)
end Cr
/-! plain facts -/
namespace Cr
theorem nodup_len : ∀ (n : Nat) (xs : List Nat), xs.Nodup → (∀ x ∈ xs, x < n) → xs.length ≤ n
  | 0, [], _, _ => Nat.le_refl _
  | 0, x :: xs, _, h => absurd (h x List.mem_cons_self) (Nat.not_lt_zero _)
  | n + 1, xs, nd, h => by
    have h1 : (xs.erase n).length ≤ n := nodup_len n _ (nd.erase n) fun x hx => by
      have := (nd.mem_erase_iff).mp hx
      have h2 := h x this.2
      omega
    have h2 := List.length_erase (a := n) (l := xs)
    split at h2 <;> omega
theorem full_mem {n : Nat} {xs : List Nat} (nd : xs.Nodup) (h : ∀ x ∈ xs, x < n) (hl : n ≤ xs.length) {k : Nat} (hk : k < n) : k ∈ xs := by
  by_cases hm : k ∈ xs
  · exact hm
  · have := nodup_len n (k :: xs) (List.nodup_cons.mpr ⟨hm, nd⟩) fun x hx => by
      rcases List.mem_cons.mp hx with rfl | hx
      · exact hk
      · exact h x hx
    rw [List.length_cons] at this
    omega
/-- a teacher has at most n pupils -/
theorem out_len {n : Nat} {ss : List Les} (nd : (ss.map fun l => (l.1, l.2.1)).Nodup) (hb : ∀ l ∈ ss, l.2.1 < n) (t : Nat) : (ss.filter fun l => decide (l.1 = t)).length ≤ n := by
  have h1 : ((ss.filter fun l => decide (l.1 = t)).map fun l => (l.1, l.2.1)).Nodup := (List.filter_sublist.map _).nodup nd
  have e : ((ss.filter fun l => decide (l.1 = t)).map fun l => (l.1, l.2.1)) = ((ss.filter fun l => decide (l.1 = t)).map fun l => l.2.1).map fun p => (t, p) := by
    rw [List.map_map]
    apply List.map_congr_left
    intro l hl
    have := (List.mem_filter.mp hl).2
    simp only [decide_eq_true_eq] at this
    simp [this]
  rw [e] at h1
  have h2 : ((ss.filter fun l => decide (l.1 = t)).map fun l => l.2.1).Nodup := List.Pairwise.of_map _ (fun a b h z => h (by rw [z])) h1
  have h3 := nodup_len n _ h2 fun x hx => by
    obtain ⟨l, hl, rfl⟩ := List.mem_map.mp hx
    exact hb l (List.mem_filter.mp hl).1
  rwa [List.length_map] at h3
/-- one turn of closing -/
def clStep (ss : List Les) (k : Nat) (path : List Nat) (total : Nat) (l : Les) : List Ring :=
  if l.1 = path.getLastD 0 then
    (if l.2.1 = path.headD 0 then [(path, total + l.2.2)]
     else if path.headD 0 < l.2.1 ∧ l.2.1 ∉ path then closing ss k (path ++ [l.2.1]) (total + l.2.2) else [])
  else []
theorem closing_eq (ss : List Les) (k : Nat) (path : List Nat) (total : Nat) : closing ss (k + 1) path total = ss.flatMap (clStep ss k path total) := rfl
theorem flat_len {α β : Type} (g : α → List β) (p : α → Bool) (m : Nat) (hg : ∀ a, (g a).length ≤ if p a = true then m else 0) : ∀ xs : List α, (xs.flatMap g).length ≤ (xs.filter p).length * m
  | [] => by simp
  | x :: xs => by
    have ih := flat_len g p m hg xs
    have h := hg x
    rw [List.flatMap_cons, List.length_append, List.filter_cons]
    split at h
    · rename_i hp
      rw [if_pos hp, List.length_cons, Nat.succ_mul]
      omega
    · rename_i hp
      rw [if_neg hp]
      omega
theorem closing_len {ss : List Les} (hs : ∀ t, (ss.filter fun l => decide (l.1 = t)).length ≤ 6) : ∀ (k : Nat) (path : List Nat) (total : Nat), (closing ss k path total).length ≤ 6 ^ k
  | 0, _, _ => by simp [closing]
  | k + 1, path, total => by
    rw [closing_eq]
    have h := flat_len (clStep ss k path total) (fun l => decide (l.1 = path.getLastD 0)) (6 ^ k) (fun l => by
      unfold clStep
      have hp : 1 ≤ 6 ^ k := Nat.pow_pos (by omega)
      by_cases e : l.1 = path.getLastD 0
      · rw [if_pos e, if_pos (decide_eq_true e)]
        split
        · exact hp
        · split
          · exact closing_len hs k _ _
          · exact Nat.zero_le _
      · rw [if_neg e]
        exact Nat.zero_le _) ss
    have h2 := Nat.mul_le_mul_right (6 ^ k) (hs (path.getLastD 0))
    rw [Nat.pow_succ, Nat.mul_comm]
    omega
theorem closing_plen {ss : List Les} : ∀ (k : Nat) (path : List Nat) (total : Nat) (r : Ring), r ∈ closing ss k path total → r.1.length ≤ path.length + k
  | 0, _, _, _, h => nomatch h
  | k + 1, path, total, r, h => by
    rw [closing_eq] at h
    obtain ⟨l, _, h⟩ := List.mem_flatMap.mp h
    unfold clStep at h
    split at h
    · split at h
      · rw [List.mem_singleton] at h
        rw [h]
        exact Nat.le_add_right _ _
      · split at h
        · have := closing_plen k _ _ r h
          rw [List.length_append, List.length_singleton] at this
          omega
        · cases h
    · cases h
theorem foldB_mem : ∀ (rs : List Ring) (b : Option Ring) (r : Ring), rs.foldl better b = some r → r ∈ rs ∨ b = some r
  | [], _, _, h => .inr h
  | x :: rs, b, r, h => by
    rw [List.foldl_cons] at h
    rcases foldB_mem rs _ r h with h | h
    · exact .inl (List.mem_cons_of_mem _ h)
    · unfold better at h
      split at h
      · cases h
        exact .inl List.mem_cons_self
      · split at h
        · cases h
          exact .inl List.mem_cons_self
        · exact .inr h
theorem leastR_mem {rs : List Ring} {r : Ring} (h : leastR rs = some r) : r ∈ rs := by
  rcases foldB_mem rs none r h with h | h
  · exact h
  · cases h
theorem leastR_app (xs ys : List Ring) : leastR (xs ++ ys) = ys.foldl better (leastR xs) := List.foldl_append ..
theorem leastR_snoc (xs : List Ring) (y : Ring) : leastR (xs ++ [y]) = better (leastR xs) y := List.foldl_append ..
theorem better_pos {b r : Ring} (h : (r.2 : Int) * (b.1.length : Int) < (b.2 : Int) * (r.1.length : Int)) : better (some b) r = some r := if_pos h
theorem better_neg {b r : Ring} (h : ¬ (r.2 : Int) * (b.1.length : Int) < (b.2 : Int) * (r.1.length : Int)) : better (some b) r = some b := if_neg h
theorem closing_in {ss : List Les} {n : Nat} (hs : ∀ l ∈ ss, l.2.1 < n) : ∀ (k : Nat) (path : List Nat) (total : Nat) (r : Ring), (∀ x ∈ path, x < n) → path ≠ [] → r ∈ closing ss k path total → (∀ x ∈ r.1, x < n) ∧ r.1 ≠ []
  | 0, _, _, _, _, _, h => nomatch h
  | k + 1, path, total, r, hp, hn, h => by
    rw [closing_eq] at h
    obtain ⟨l, hl, h⟩ := List.mem_flatMap.mp h
    unfold clStep at h
    split at h
    · split at h
      · rw [List.mem_singleton] at h
        rw [h]
        exact ⟨hp, hn⟩
      · split at h
        · refine closing_in hs k _ _ r (fun x hx => ?_) (by simp) h
          rcases List.mem_append.mp hx with hx | hx
          · exact hp x hx
          · rw [List.mem_singleton] at hx
            rw [hx]
            exact hs l hl
        · cases h
    · cases h
theorem ringsP_in {ss : List Les} {n : Nat} (hs : ∀ l ∈ ss, l.2.1 < n) {r : Ring} (h : r ∈ ringsP n ss) : (∀ x ∈ r.1, x < n) ∧ r.1 ≠ [] ∧ r.1.length ≤ 1 + n := by
  obtain ⟨i, hi, h⟩ := List.mem_flatMap.mp h
  obtain ⟨a, b⟩ := closing_in hs n [i] 0 r (fun x hx => by rw [List.mem_singleton] at hx; rw [hx]; exact List.mem_range.mp hi) (by simp) h
  exact ⟨a, b, closing_plen _ _ _ _ h⟩
theorem rowMat_len (row : Row) (m : List Row) : (rowMat row m).length = row.length := by
  unfold rowMat
  rw [List.length_map, List.length_range]
theorem putM_ok {n : Nat} {m : List Row} (h : m.length = n ∧ ∀ r ∈ m, r.length = n) {l : Les} (hl : l.1 < n) : (putM m l).length = n ∧ ∀ r ∈ putM m l, r.length = n := by
  unfold putM
  refine ⟨by rw [List.length_set]; exact h.1, fun r hr => ?_⟩
  rcases List.mem_or_eq_of_mem_set hr with hr | hr
  · exact h.2 r hr
  · rw [hr, List.length_set]
    have : l.1 < m.length := by rw [h.1]; exact hl
    rw [List.getD_eq_getElem?_getD, List.getElem?_eq_getElem this]
    exact h.2 _ (List.getElem_mem _)
theorem foldM_ok {n : Nat} : ∀ (ls : List Les) (m : List Row), (m.length = n ∧ ∀ r ∈ m, r.length = n) → (∀ l ∈ ls, l.1 < n) → (ls.foldl putM m).length = n ∧ ∀ r ∈ ls.foldl putM m, r.length = n
  | [], _, h, _ => h
  | l :: ls, m, h, hl => foldM_ok ls _ (putM_ok h (hl l List.mem_cons_self)) fun x hx => hl x (List.mem_cons_of_mem _ hx)
theorem matrix0_ok (n : Nat) : (matrix0 n).length = n ∧ ∀ r ∈ matrix0 n, r.length = n := by
  unfold matrix0
  refine ⟨List.length_replicate, fun r hr => ?_⟩
  rw [(List.mem_replicate.mp hr).2, List.length_replicate]
theorem lessonM_ok {n : Nat} {ls : List Les} (h : ∀ l ∈ ls, l.1 < n) : (lessonM n ls).length = n ∧ ∀ r ∈ lessonM n ls, r.length = n := foldM_ok ls _ (matrix0_ok n) h
theorem matSq_ok {n : Nat} {m : List Row} (h : m.length = n ∧ ∀ r ∈ m, r.length = n) : (matSq m).length = n ∧ ∀ r ∈ matSq m, r.length = n := by
  unfold matSq
  refine ⟨by rw [List.length_map]; exact h.1, fun r hr => ?_⟩
  obtain ⟨x, hx, rfl⟩ := List.mem_map.mp hr
  rw [rowMat_len]
  exact h.2 x hx
theorem row0_len (n : Nat) (fo : List Nat) : (row0 n fo).length = n := by
  unfold row0
  rw [List.length_map, List.length_range]
theorem range_ix {n : Nat} {pre post : List Nat} {i : Nat} (h : List.range n = pre ++ i :: post) : i = pre.length ∧ i < n := by
  have hi : i < n := by
    have : i ∈ List.range n := by
      rw [h]
      exact List.mem_append_right _ List.mem_cons_self
    exact List.mem_range.mp this
  refine ⟨?_, hi⟩
  have h2 := congrArg (fun l => l[pre.length]?) h
  simp only [List.getElem?_append_right (Nat.le_refl _), Nat.sub_self] at h2
  have hp : pre.length < n := by
    have := congrArg List.length h
    rw [List.length_range, List.length_append, List.length_cons] at this
    omega
  rw [List.getElem?_range hp] at h2
  simpa using h2.symm
theorem range_pre {n : Nat} {pre post : List Nat} {i : Nat} (h : List.range n = pre ++ i :: post) : pre = List.range pre.length := by
  have hp : pre.length ≤ n := by
    have := congrArg List.length h
    rw [List.length_range, List.length_append, List.length_cons] at this
    omega
  have h2 := congrArg (List.take pre.length) h
  rw [List.take_append_of_le_length (Nat.le_refl _), List.take_length, List.take_range, Nat.min_eq_left hp] at h2
  exact h2.symm
theorem row0_snoc {n : Nat} {pre : List Nat} {k : Nat} : row0 n (pre ++ [k]) = (row0 n pre).set k (some 0) := by
  apply List.ext_getElem?
  intro j
  unfold row0
  rw [List.getElem?_set, List.getElem?_map, List.getElem?_map]
  by_cases hj : j < n
  · rw [List.getElem?_range hj]
    by_cases e : k = j
    · subst e
      simp [hj]
    · have e2 : ¬ j = k := fun z => e z.symm
      simp [e, e2]
  · rw [List.getElem?_eq_none (by rw [List.length_range]; omega)]
    split
    · rename_i e
      subst e
      simp [hj]
    · rfl
theorem afterStep_len (row acc : Row) (l : Les) : (afterStep row acc l).length = acc.length := by
  unfold afterStep
  split
  · rfl
  · split
    · rw [List.length_set]
    · split
      · rw [List.length_set]
      · rfl
theorem foldA_len (row : Row) : ∀ (ls : List Les) (acc : Row), (ls.foldl (afterStep row) acc).length = acc.length
  | [], _ => rfl
  | l :: ls, acc => by rw [List.foldl_cons, foldA_len row ls, afterStep_len]
theorem afterRow_len (ls : List Les) (row : Row) : (afterRow ls row).length = row.length := by
  unfold afterRow
  rw [foldA_len, List.length_map]
theorem iterRow_len (ls : List Les) (row : Row) : ∀ k, (iterRow ls row k).length = row.length
  | 0 => rfl
  | k + 1 => by rw [iterRow, afterRow_len, iterRow_len]
/-! the law's rings, turn by turn -/
def outL (ls : List Les) (p : Ring) : List Les := ls.filter fun l => decide (l.1 = p.1.getLastD 0)
def clP (f : Nat) (p : Ring) (l : Les) : List Ring := if l.2.1 = f then [(p.1, p.2 + l.2.2)] else []
def exP (f : Nat) (p : Ring) (l : Les) : List Ring := if l.2.1 ≠ f ∧ f < l.2.1 ∧ l.2.1 ∉ p.1 then [(p.1 ++ [l.2.1], p.2 + l.2.2)] else []
theorem closed_eq (ls : List Les) (f : Nat) (ps : List Ring) : closed ls f ps = ps.flatMap fun p => (outL ls p).flatMap (clP f p) := rfl
theorem extend_eq (ls : List Les) (f : Nat) (ps : List Ring) : extend ls f ps = ps.flatMap fun p => (outL ls p).flatMap (exP f p) := rfl
theorem flat_le {α β : Type} (g : α → List β) (m : Nat) (hg : ∀ a, (g a).length ≤ m) : ∀ xs : List α, (xs.flatMap g).length ≤ xs.length * m
  | [] => by simp
  | x :: xs => by
    have ih := flat_le g m hg xs
    have h := hg x
    rw [List.flatMap_cons, List.length_append, List.length_cons, Nat.succ_mul]
    omega
theorem clP_len (f : Nat) (p : Ring) (l : Les) : (clP f p l).length ≤ 1 := by
  unfold clP
  split
  · exact Nat.le_refl _
  · exact Nat.zero_le _
theorem exP_len (f : Nat) (p : Ring) (l : Les) : (exP f p l).length ≤ 1 := by
  unfold exP
  split
  · exact Nat.le_refl _
  · exact Nat.zero_le _
section
variable {ls : List Les} (hs : ∀ t, (ls.filter fun l => decide (l.1 = t)).length ≤ 6)
include hs
theorem clO_len (f : Nat) (p : Ring) : ((outL ls p).flatMap (clP f p)).length ≤ 6 := by
  have := flat_le (clP f p) 1 (clP_len f p) (outL ls p)
  have h2 := hs (p.1.getLastD 0)
  unfold outL at *
  omega
theorem exO_len (f : Nat) (p : Ring) : ((outL ls p).flatMap (exP f p)).length ≤ 6 := by
  have := flat_le (exP f p) 1 (exP_len f p) (outL ls p)
  have h2 := hs (p.1.getLastD 0)
  unfold outL at *
  omega
theorem pathsL_len (f : Nat) : ∀ k, (pathsL ls f k).length ≤ 6 ^ k
  | 0 => Nat.le_refl _
  | k + 1 => by
    rw [pathsL, extend_eq]
    have h := flat_le _ 6 (fun p => exO_len hs f p) (pathsL ls f k)
    have h2 := pathsL_len f k
    rw [Nat.pow_succ]
    have := Nat.mul_le_mul_right 6 h2
    omega
theorem closedL_len (f k : Nat) (hk : k ≤ 5) : (closed ls f (pathsL ls f k)).length ≤ 46656 := by
  rw [closed_eq]
  have h := flat_le _ 6 (fun p => clO_len hs f p) (pathsL ls f k)
  have h2 := pathsL_len hs f k
  have h3 : 6 ^ k ≤ 6 ^ 5 := Nat.pow_le_pow_right (by omega) hk
  have h4 : (6 : Nat) ^ 5 = 7776 := rfl
  omega
end
theorem pathsL_plen {ls : List Les} {f : Nat} : ∀ (k : Nat) (p : Ring), p ∈ pathsL ls f k → p.1.length = k + 1
  | 0, p, h => by
    rw [pathsL, List.mem_singleton] at h
    rw [h]
    rfl
  | k + 1, p, h => by
    rw [pathsL, extend_eq] at h
    obtain ⟨q, hq, h⟩ := List.mem_flatMap.mp h
    obtain ⟨l, _, h⟩ := List.mem_flatMap.mp h
    unfold exP at h
    split at h
    · rw [List.mem_singleton] at h
      rw [h, List.length_append, pathsL_plen k q hq]
      rfl
    · cases h
theorem last_at {xs : List Nat} {k : Nat} (h : xs.length = k + 1) : xs[k]? = some (xs.getLastD 0) := by
  cases xs with
  | nil => cases h
  | cons x xs =>
    rw [List.getLastD_eq_getLast?, List.getLast?_eq_getElem?, h]
    simp only [Nat.add_sub_cancel]
    rw [List.getElem?_eq_getElem (by rw [h]; omega)]
    rfl
theorem nodup_sub {α : Type} [DecidableEq α] : ∀ (N xs : List α), xs.Nodup → (∀ x ∈ xs, x ∈ N) → xs.length ≤ N.length
  | [], [], _, _ => Nat.le_refl _
  | [], x :: xs, _, h => nomatch h x List.mem_cons_self
  | y :: N, xs, nd, h => by
    have h1 : (xs.erase y).length ≤ N.length := nodup_sub N _ (nd.erase y) fun x hx => by
      have := (nd.mem_erase_iff).mp hx
      exact (List.mem_cons.mp (h x this.2)).resolve_left this.1
    have h2 := List.length_erase (a := y) (l := xs)
    rw [List.length_cons]
    split at h2 <;> omega
/-- a word changed at its place while it is taken -/
def bump (bad : List Nat → Bool) (place : Nat) (s : List Nat) : List Nat := if bad s = true then s.set place ((s.getD place 0 + 1) % 26) else s
def bumps (bad : List Nat → Bool) (place : Nat) (s : List Nat) : Nat → List Nat
  | 0 => s
  | t + 1 => bump bad place (bumps bad place s t)
theorem bumps_fix {bad : List Nat → Bool} {place : Nat} {s : List Nat} {t : Nat} (h : bad (bumps bad place s t) = false) : ∀ j, bumps bad place s (t + j) = bumps bad place s t
  | 0 => rfl
  | j + 1 => by
    show bump bad place (bumps bad place s (t + j)) = _
    rw [bumps_fix h j]
    unfold bump
    rw [h, if_neg Bool.false_ne_true]
theorem bumps_all {bad : List Nat → Bool} {place : Nat} {s : List Nat} {n : Nat} (h : bad (bumps bad place s n) = true) {t : Nat} (ht : t ≤ n) : bad (bumps bad place s t) = true := by
  cases e : bad (bumps bad place s t) with
  | true => rfl
  | false =>
    have := bumps_fix e (n - t)
    rw [show t + (n - t) = n by omega] at this
    rw [this, e] at h
    cases h
theorem bumps_eq {bad : List Nat → Bool} {place : Nat} {s : List Nat} {n : Nat} (h : bad (bumps bad place s n) = true) (hp : place < s.length) (hd : s.getD place 0 < 26) : ∀ t, t ≤ n → bumps bad place s t = s.set place ((s.getD place 0 + t) % 26)
  | 0, _ => by
    show s = _
    rw [Nat.add_zero, Nat.mod_eq_of_lt hd, List.getD_eq_getElem?_getD, List.getElem?_eq_getElem hp]
    exact (List.set_getElem_self hp).symm
  | t + 1, ht => by
    show bump bad place (bumps bad place s t) = _
    have hb := bumps_all h (show t ≤ n by omega)
    unfold bump
    rw [hb, if_pos rfl, bumps_eq h hp hd t (by omega), List.set_set]
    congr 1
    rw [List.getD_eq_getElem?_getD, List.getElem?_set_self hp]
    show ((s.getD place 0 + t) % 26 + 1) % 26 = _
    omega
theorem bumps_free {α : Type} [DecidableEq α] {word : List Nat → α} (inj : ∀ a b : List Nat, (∀ x ∈ a, x < 26) → (∀ x ∈ b, x < 26) → word a = word b → a = b) {N : List α} (hN : N.length ≤ 5) {place : Nat} {s : List Nat} (hp : place < s.length) (hd : ∀ x ∈ s, x < 26) :
    word (bumps (fun s => decide (word s ∈ N)) place s 8) ∉ N := by
  intro h
  have hb : (fun s => decide (word s ∈ N)) (bumps (fun s => decide (word s ∈ N)) place s 8) = true := decide_eq_true h
  have hd0 : s.getD place 0 < 26 := hd _ (by rw [List.getD_eq_getElem?_getD, List.getElem?_eq_getElem hp]; exact List.getElem_mem _)
  have hset : ∀ v, v < 26 → ∀ x ∈ s.set place v, x < 26 := fun v hv x hx => by
    rcases List.mem_or_eq_of_mem_set hx with hx | hx
    · exact hd x hx
    · rw [hx]; exact hv
  have hsub : ∀ x ∈ (List.range 8).map (fun t => word (s.set place ((s.getD place 0 + t) % 26))), x ∈ N := fun x hx => by
    obtain ⟨t, ht, rfl⟩ := List.mem_map.mp hx
    have ht := List.mem_range.mp ht
    have h1 := bumps_all (bad := fun s => decide (word s ∈ N)) (place := place) (s := s) (n := 8) hb (show t ≤ 8 by omega)
    rw [bumps_eq (bad := fun s => decide (word s ∈ N)) (place := place) (s := s) (n := 8) hb hp hd0 t (by omega)] at h1
    exact of_decide_eq_true h1
  have hnd : ((List.range 8).map (fun t => word (s.set place ((s.getD place 0 + t) % 26)))).Nodup := by
    refine List.Pairwise.map _ ?_ (List.pairwise_iff_getElem.mpr ?_ : List.Pairwise (fun a b => a < b ∧ b < 8) (List.range 8))
    · intro a b ⟨hab, hb8⟩ e
      have e2 := inj _ _ (hset _ (Nat.mod_lt _ (by omega))) (hset _ (Nat.mod_lt _ (by omega))) e
      have e3 := congrArg (fun l => l[place]?) e2
      simp only [List.getElem?_set_self hp, Option.some.injEq] at e3
      omega
    · intro i j hi hj hij
      rw [List.length_range] at hi hj
      rw [List.getElem_range, List.getElem_range]
      exact ⟨hij, hj⟩
  have := nodup_sub N _ hnd hsub
  rw [List.length_map, List.length_range] at this
  omega
theorem bumps_ok {bad : List Nat → Bool} {place : Nat} {s : List Nat} (hd : ∀ x ∈ s, x < 26) : ∀ t, (bumps bad place s t).length = s.length ∧ ∀ x ∈ bumps bad place s t, x < 26
  | 0 => ⟨rfl, hd⟩
  | t + 1 => by
    obtain ⟨h1, h2⟩ := bumps_ok (bad := bad) (place := place) hd t
    show (bump _ _ _).length = _ ∧ ∀ x ∈ bump _ _ _, x < 26
    unfold bump
    split
    · refine ⟨by rw [List.length_set]; exact h1, fun x hx => ?_⟩
      rcases List.mem_or_eq_of_mem_set hx with hx | hx
      · exact h2 x hx
      · rw [hx]; exact Nat.mod_lt _ (by omega)
    · exact ⟨h1, h2⟩
end Cr
namespace Cr
open PySem PySem.Spec L2 Fw
/-! ### data of the program -/
def encP (p : Nat × Nat) : Dt := .tup false [.int (p.1 : Int), .int (p.2 : Int)]
def enc3 (l : Les) : Dt := .tup false [.int (l.1 : Int), .int (l.2.1 : Int), .int (l.2.2 : Int)]
def lst3 (l : Les) : Dt := .lst [.int (l.1 : Int), .int (l.2.1 : Int), .int (l.2.2 : Int)]
def encN (n : Nat) : Dt := .int (n : Int)
def encO (o : Option Nat) : Dt := match o with
  | none => .non
  | some n => .int (n : Int)
def encI (o : Option Int) : Dt := match o with
  | none => .non
  | some n => .int n
/-- a custom -/
structure Cu where
  names : List Str
  les : List Les
  fo : List Nat
def Cu.n (c : Cu) : Nat := c.names.length
def Cu.nm (c : Cu) (k : Nat) : Str := c.names.getD k Str.empty
def letters : List Nat := [97, 98, 99, 100, 101, 102, 103, 104, 105, 106, 107, 108, 109, 110, 111, 112, 113, 114, 115, 116, 117, 118, 119, 120, 121, 122]
structure Cu.Good (c : Cu) : Prop where
  n1 : 1 ≤ c.names.length
  n6 : c.names.length ≤ 6
  nd : c.names.Nodup
  len : ∀ x ∈ c.names, 1 ≤ x.length ∧ x.length ≤ 4
  abc : ∀ x ∈ c.names, ∀ k ∈ x.cps.toList, k ∈ letters
  les36 : c.les.length ≤ 36
  lb : ∀ l ∈ c.les, l.1 < c.names.length ∧ l.2.1 < c.names.length ∧ l.2.2 ≤ 99
  ln : (c.les.map fun l => (l.1, l.2.1)).Nodup
  fb : ∀ k ∈ c.fo, k < c.names.length
  fl : c.fo.length ≤ 12
def Cu.fnd (c : Cu) : List Str := c.names.filter fun x => decide (x ∈ c.fo.map c.nm)
def Cu.tea (c : Cu) (l : Les) : Dt := .tup true [.str (c.nm l.1), .str (c.nm l.2.1), .int (l.2.2 : Int)]
def Cu.fields (c : Cu) (ord : Dt) : List (Str × Dt) := [("offices", .tup true (c.names.map .str)), ("teachings", .tup true (c.les.map c.tea)), ("founding", .tup true (c.fnd.map .str)), ("ordered", ord), ("steps", .tup true (c.les.map enc3))]
/-- what the top has written -/
structure Tx (K : PySem.W.Frag) (mg : Str → Option Value) (C Cp : Addr) : Prop where
  len : mg "len" = none
  lst : mg "list" = none
  tup : mg "tuple" = none
  rng : mg "range" = none
  int : mg "int" = none
  min : mg "min" = none
  max : mg "max" = none
  all : mg "all" = none
  srt : mg "sorted" = none
  isi : mg "isinstance" = none
  bool : mg "bool" = none
  str : mg "str" = none
  enu : mg "enumerate" = none
  gcd : mg "gcd" = some (.builtin "math.gcd")
  let_ : ∃ t, mg "LETTERS" = some (.str "abcdefghijklmnopqrstuvwxyz" t)
  mlet : ∃ t, mg "MOST_LETTERS" = some (.int 4 t)
  mbnd : ∃ t, mg "MOST_BOUND" = some (.int 99 t)
  gC : mg "Custom" = some (.ref C)
  gP : mg "Pace" = some (.ref Cp)
  cC : Cls K C
  cP : Cls K Cp
  nC : ∀ f ∈ (["offices", "teachings", "founding", "ordered", "steps"] : List Str), NoAttr K C f
  nP : ∀ f ∈ (["top", "bottom", "ring", "potentials"] : List Str), NoAttr K Cp f
  iP : CIs K Cp
/-! ### fields -/
section
variable {B : Bd} {o : Expr} {env : Env'} {Φ : PD} {mg : Str → Option Value} {C Cp : Addr} {pos : Pos}
theorem we_offices (T : Tx B.X.K mg C Cp) (c : Cu) (ord : Dt) (h : WE B o env fun d => d = .ins C (c.fields ord) ∧ Φ (.tup true (c.names.map .str))) (hb : attributeBase o "offices" B.X.env (eval o B.X.env) = eval o B.X.env := by rfl) : WE B (.Attribute o "offices" pos) env Φ :=
  we_fld (h.imp fun d q => ⟨C, _, _, q.1, T.cC, T.nC _ (by simp), rfl, q.2⟩) hb
theorem we_teachings (T : Tx B.X.K mg C Cp) (c : Cu) (ord : Dt) (h : WE B o env fun d => d = .ins C (c.fields ord) ∧ Φ (.tup true (c.les.map c.tea))) (hb : attributeBase o "teachings" B.X.env (eval o B.X.env) = eval o B.X.env := by rfl) : WE B (.Attribute o "teachings" pos) env Φ :=
  we_fld (h.imp fun d q => ⟨C, _, _, q.1, T.cC, T.nC _ (by simp), rfl, q.2⟩) hb
theorem we_founding (T : Tx B.X.K mg C Cp) (c : Cu) (ord : Dt) (h : WE B o env fun d => d = .ins C (c.fields ord) ∧ Φ (.tup true (c.fnd.map .str))) (hb : attributeBase o "founding" B.X.env (eval o B.X.env) = eval o B.X.env := by rfl) : WE B (.Attribute o "founding" pos) env Φ :=
  we_fld (h.imp fun d q => ⟨C, _, _, q.1, T.cC, T.nC _ (by simp), rfl, q.2⟩) hb
theorem we_steps (T : Tx B.X.K mg C Cp) (c : Cu) (ord : Dt) (h : WE B o env fun d => d = .ins C (c.fields ord) ∧ Φ (.tup true (c.les.map enc3))) (hb : attributeBase o "steps" B.X.env (eval o B.X.env) = eval o B.X.env := by rfl) : WE B (.Attribute o "steps" pos) env Φ :=
  we_fld (h.imp fun d q => ⟨C, _, _, q.1, T.cC, T.nC _ (by simp), rfl, q.2⟩) hb
/-- the fields of a pace -/
def paceF (top bottom : Int) (ring : List Str) (ps : List (Option Int)) : List (Str × Dt) := [("top", .int top), ("bottom", .int bottom), ("ring", .tup true (ring.map .str)), ("potentials", .tup true (ps.map encI))]
theorem we_ptop (T : Tx B.X.K mg C Cp) (t b : Int) (r : List Str) (ps : List (Option Int)) (h : WE B o env fun d => d = .ins Cp (paceF t b r ps) ∧ Φ (.int t)) (hb : attributeBase o "top" B.X.env (eval o B.X.env) = eval o B.X.env := by rfl) : WE B (.Attribute o "top" pos) env Φ :=
  we_fld (h.imp fun d q => ⟨Cp, _, _, q.1, T.cP, T.nP _ (by simp), rfl, q.2⟩) hb
theorem we_pbottom (T : Tx B.X.K mg C Cp) (t b : Int) (r : List Str) (ps : List (Option Int)) (h : WE B o env fun d => d = .ins Cp (paceF t b r ps) ∧ Φ (.int b)) (hb : attributeBase o "bottom" B.X.env (eval o B.X.env) = eval o B.X.env := by rfl) : WE B (.Attribute o "bottom" pos) env Φ :=
  we_fld (h.imp fun d q => ⟨Cp, _, _, q.1, T.cP, T.nP _ (by simp), rfl, q.2⟩) hb
theorem we_pring (T : Tx B.X.K mg C Cp) (t b : Int) (r : List Str) (ps : List (Option Int)) (h : WE B o env fun d => d = .ins Cp (paceF t b r ps) ∧ Φ (.tup true (r.map .str))) (hb : attributeBase o "ring" B.X.env (eval o B.X.env) = eval o B.X.env := by rfl) : WE B (.Attribute o "ring" pos) env Φ :=
  we_fld (h.imp fun d q => ⟨Cp, _, _, q.1, T.cP, T.nP _ (by simp), rfl, q.2⟩) hb
theorem we_ppots (T : Tx B.X.K mg C Cp) (t b : Int) (r : List Str) (ps : List (Option Int)) (h : WE B o env fun d => d = .ins Cp (paceF t b r ps) ∧ Φ (.tup true (ps.map encI))) (hb : attributeBase o "potentials" B.X.env (eval o B.X.env) = eval o B.X.env := by rfl) : WE B (.Attribute o "potentials" pos) env Φ :=
  we_fld (h.imp fun d q => ⟨Cp, _, _, q.1, T.cP, T.nP _ (by simp), rfl, q.2⟩) hb
end
end Cr
/-! What each def promises. -/
namespace Cr
open PySem PySem.Spec L2 Fw
theorem u65 {k : Nat} {A : Around} (r : Room k A) : A.units + 65 < cLine := by
  have := r.un
  omega
theorem filt_true {α : Type} (xs : List α) : xs.filter (fun _ => true) = xs := List.filter_eq_self.mpr fun _ _ => rfl
def Cu.ord (c : Cu) : Dt := .tup true ((c.les.mergeSort (leD c.tea)).map c.tea)
abbrev Cu.dat (c : Cu) (C : Addr) : Dt := .ins C (c.fields c.ord)
def encRg (r : Ring) : Dt := .tup false [.tup false (r.1.map encN), .int (r.2 : Int)]
def encBest : Option Ring → Dt
  | none => .non
  | some r => encRg r
def sortS (ss : List Les) : List Les := ss.mergeSort (leD enc3)
def encRow (r : Row) : Dt := .lst (r.map encO)
def Cu.flags (c : Cu) (i : Nat) : List Bool := useful c.n c.les c.fo i
def Cu.ss (c : Cu) (fl : List Bool) : List Les := sortS (innerF fl c.les)
def tReached : TD := fun ds Φ => ∃ (arrows : List (Nat × Nat)) (f : List Bool), ds = [.lst (arrows.map encP), .lst (f.map .bl)] ∧ (∀ p ∈ arrows, p.1 < f.length ∧ p.2 < f.length) ∧ f.length ≤ 1000 ∧ Φ (.lst ((reached arrows f).map .bl))
def tUseful (C : Addr) : TD := fun ds Φ => ∃ (c : Cu) (i : Nat), ds = [c.dat C, .int (i : Int)] ∧ c.Good ∧ i < c.n ∧ Φ (.lst ((c.flags i).map .bl))
def tSteps (C : Addr) : TD := fun ds Φ => ∃ (c : Cu) (fl : List Bool), ds = [c.dat C, .lst (fl.map .bl)] ∧ c.Good ∧ fl.length = c.n ∧ Φ (.lst ((c.ss fl).map enc3))
def tClosing (n k : Nat) : TD := fun ds Φ => ∃ (ss : List Les) (path : List Nat) (total : Nat), ds = [.lst (ss.map enc3), .tup false (path.map encN), .int (total : Int)] ∧ path.length + k = n + 1 ∧ path ≠ [] ∧ path.Nodup ∧ (∀ x ∈ path, x < n) ∧
  (∀ l ∈ ss, l.2.1 < n) ∧ (ss.map fun l => (l.1, l.2.1)).Nodup ∧ n ≤ 6 ∧ Φ (.lst ((closing ss k path total).map encRg))
def tLeast (C : Addr) : TD := fun ds Φ => ∃ (c : Cu) (fl : List Bool), ds = [c.dat C, .lst (fl.map .bl)] ∧ c.Good ∧ fl.length = c.n ∧ Φ (encBest (leastR (ringsP c.n (c.ss fl))))
def tPots (C : Addr) : TD := fun ds Φ => ∃ (c : Cu) (fl : List Bool) (top bottom : Int), ds = [c.dat C, .lst (fl.map .bl), .int top, .int bottom] ∧ c.Good ∧ fl.length = c.n ∧ Φ (.tup true ((pots fl (c.ss fl) top bottom).map encI))
/-- the pace that is told -/
def paceD (Cp : Addr) (c : Cu) (fl : List Bool) : Option Ring → Dt
  | none => .non
  | some r => .ins Cp (paceF ((r.2 / Nat.gcd r.2 r.1.length : Nat) : Int) ((r.1.length / Nat.gcd r.2 r.1.length : Nat) : Int) (r.1.map c.nm) (pots fl (c.ss fl) ((r.2 / Nat.gcd r.2 r.1.length : Nat) : Int) ((r.1.length / Nat.gcd r.2 r.1.length : Nat) : Int)))
def Cu.best (c : Cu) (i : Nat) : Option Ring := leastR (ringsP c.n (c.ss (c.flags i)))
def Cu.told (c : Cu) (Cp : Addr) (i : Nat) : Dt := paceD Cp c (c.flags i) (c.best i)
def tPace (C Cp : Addr) : TD := fun ds Φ => ∃ (c : Cu) (i : Nat), ds = [c.dat C, .str (c.nm i)] ∧ c.Good ∧ i < c.n ∧ Φ (c.told Cp i)
def tPaceI : TF := fun ds Φ => ∃ a b r p : Dt, ds = [a, b, r, p] ∧ Φ [("top", a), ("bottom", b), ("ring", r), ("potentials", p)]
def tRow0 (C : Addr) : TD := fun ds Φ => ∃ c : Cu, ds = [c.dat C] ∧ c.Good ∧ Φ (.tup true ((row0 c.n c.fo).map encO))
def tLesser : TD := fun ds Φ => ∃ a b, ds = [encO a, encO b] ∧ Φ (encO (lesser a b))
def tLsum : TD := fun ds Φ => ∃ a b, ds = [encO a, encO b] ∧ Φ (encO (lsum a b))
def tMatrix (C : Addr) : TD := fun ds Φ => ∃ c : Cu, ds = [c.dat C] ∧ c.Good ∧ Φ (.lst ((lessonM c.n c.les).map encRow))
def tRowMat : TD := fun ds Φ => ∃ (row : Row) (m : List Row), ds = [encRow row, .lst (m.map encRow)] ∧ m.length = row.length ∧ row.length ≤ 6 ∧ (∀ r ∈ m, r.length = row.length) ∧ Φ (encRow (rowMat row m))
def tDepth (C : Addr) : TD := fun ds Φ => ∃ (c : Cu) (g : Nat), ds = [c.dat C, .int (g : Int)] ∧ c.Good ∧ Φ (.tup true ((depthRow c.n c.les c.fo g).map encO))
/-- lists become tuples -/
def frzD : Nat → Dt → Dt
  | k + 1, .lst xs => .tup true (xs.map (frzD k))
  | k + 1, .tup _ xs => .tup true (xs.map (frzD k))
  | _, d => d
def fzOk : Nat → Dt → Bool
  | _, .int _ => true
  | _, .str _ => true
  | k + 1, .lst xs => decide (xs.length ≤ 1000) && xs.all (fzOk k)
  | k + 1, .tup _ xs => decide (xs.length ≤ 1000) && xs.all (fzOk k)
  | _, _ => false
def tFrozen (k : Nat) : TD := fun ds Φ => ∃ d, ds = [d] ∧ fzOk k d = true ∧ Φ (frzD k d)
def tIsOffice : TD := fun ds Φ => ∃ x : Str, ds = [.str x] ∧ 1 ≤ x.length ∧ x.length ≤ 4 ∧ (∀ k ∈ x.cps.toList, k ∈ letters) ∧ Φ (.bl true)
def tChkOff : TD := fun ds Φ => ∃ c : Cu, ds = [.tup true (c.names.map .str)] ∧ c.Good ∧ Φ .non
def tChkLes : TD := fun ds Φ => ∃ c : Cu, ds = [.tup true (c.names.map .str), .tup true (c.les.map c.tea)] ∧ c.Good ∧ Φ .non
def tChkKn : TD := fun ds Φ => ∃ (offs xs : List Str) (a b : Bool), ds = [.tup a (offs.map .str), .tup b (xs.map .str)] ∧ (∀ x ∈ xs, x ∈ offs) ∧ Φ .non
def tPlace (C : Addr) : TD := fun ds Φ => ∃ (c : Cu) (i : Nat), ds = [c.dat C, .str (c.nm i)] ∧ c.Good ∧ i < c.n ∧ Φ (.int (i : Int))
def Cu.tea0 (c : Cu) (l : Les) : Dt := .tup false [.str (c.nm l.1), .str (c.nm l.2.1), .int (l.2.2 : Int)]
def tCustomI : TF := fun ds Φ => ∃ c : Cu, ds = [.lst (c.names.map .str), .lst (c.les.map c.tea0), .lst (c.fo.map fun k => .str (c.nm k))] ∧ c.Good ∧ Φ (c.fields c.ord)
/-! ### plain facts of a custom -/
theorem Cu.nm_at {c : Cu} {k : Nat} (h : k < c.n) : c.names[k]? = some (c.nm k) := by
  unfold Cu.nm
  rw [List.getElem?_eq_getElem h, List.getD_eq_getElem?_getD, List.getElem?_eq_getElem h]
  rfl
theorem Cu.nm_mem {c : Cu} {k : Nat} (h : k < c.n) : c.nm k ∈ c.names := List.mem_of_getElem? (Cu.nm_at h)
theorem Cu.nm_inj {c : Cu} (hd : c.names.Nodup) {i j : Nat} (hi : i < c.n) (hj : j < c.n) (e : c.nm i = c.nm j) : i = j := by
  have h1 := Cu.nm_at hi
  have h2 := Cu.nm_at hj
  rw [e] at h1
  exact (List.getElem?_inj hi hd).mp (h1.trans h2.symm)
theorem Cu.names_eq (c : Cu) : c.names = (List.range c.n).map c.nm := by
  apply List.ext_getElem?
  intro i
  rw [List.getElem?_map]
  by_cases h : i < c.n
  · rw [List.getElem?_range h, Cu.nm_at h]
    rfl
  · have h1 : c.names.length ≤ i := by
      have : c.n = c.names.length := rfl
      omega
    rw [List.getElem?_eq_none h1, List.getElem?_eq_none (by rw [List.length_range]; omega)]
    rfl
theorem Cu.mem_fnd {c : Cu} (g : c.Good) {k : Nat} (h : k < c.n) : c.nm k ∈ c.fnd ↔ k ∈ c.fo := by
  unfold Cu.fnd
  rw [List.mem_filter]
  constructor
  · rintro ⟨_, h2⟩
    obtain ⟨j, hj, e⟩ := List.mem_map.mp (of_decide_eq_true h2)
    rw [← Cu.nm_inj g.nd (g.fb j hj) h e]
    exact hj
  · intro h2
    exact ⟨Cu.nm_mem h, decide_eq_true (List.mem_map.mpr ⟨k, h2, rfl⟩)⟩
theorem flags_len (c : Cu) (i : Nat) : (c.flags i).length = c.n := useful_len ..
theorem sortS_mem {ss : List Les} {l : Les} : l ∈ sortS ss ↔ l ∈ ss := by
  unfold sortS
  exact List.mem_mergeSort
theorem sortS_perm (ss : List Les) : (sortS ss).Perm ss := List.mergeSort_perm ..
theorem ss_mem {c : Cu} {fl : List Bool} {l : Les} : l ∈ c.ss fl ↔ l ∈ c.les ∧ fl.getD l.1 false = true ∧ fl.getD l.2.1 false = true := by
  unfold Cu.ss innerF
  rw [sortS_mem, List.mem_filter, Bool.and_eq_true]
theorem inner_sub (fl : List Bool) (ls : List Les) : (innerF fl ls).Sublist ls := List.filter_sublist
theorem ss_nd {c : Cu} (g : c.Good) (fl : List Bool) : ((c.ss fl).map fun l => (l.1, l.2.1)).Nodup := by
  unfold Cu.ss
  exact ((sortS_perm _).map _).nodup_iff.mpr (((inner_sub fl c.les).map _).nodup g.ln)
theorem getD_at {α : Type} {xs : List α} {i : Nat} {d : α} (h : i < xs.length) : xs[i]? = some (xs.getD i d) := by
  rw [List.getElem?_eq_getElem h, List.getD_eq_getElem?_getD, List.getElem?_eq_getElem h]
  rfl
theorem atI_enc {α : Type} {enc : α → Dt} {xs : List α} {i : Nat} {d : α} (h : i < xs.length) : atI (xs.map enc) (i : Int) = some (enc (xs.getD i d)) := by
  apply atI_nat
  rw [List.getElem?_map, getD_at h]
  rfl
end Cr
/-! What the law's defs promise. -/
namespace Cr
open PySem PySem.Spec L2 Fw
def b2i (b : Bool) : Int := if b = true then 1 else 0
def b2D (b : Bool) : Dt := .int (b2i b)
def encRgL (r : Ring) : Dt := .lst [.lst (r.1.map encN), .int (r.2 : Int)]
def encBestL : Option Ring → Dt
  | none => .non
  | some r => encRgL r
def DigOk (dig sizes : List Nat) : Prop := dig.length = sizes.length ∧ ∀ i : Nat, i < sizes.length → dig.getD i 0 < sizes.getD i 0
def NamesOk (n : Nat) (xs : List Str) : Prop := xs.length = n ∧ xs.Nodup ∧ (∀ x ∈ xs, 1 ≤ x.length ∧ x.length ≤ 4) ∧ ∀ x ∈ xs, ∀ k ∈ x.cps.toList, k ∈ letters
def LesOk (n : Nat) (ls : List Les) : Prop := ls.length ≤ 36 ∧ (∀ l ∈ ls, l.1 < n ∧ l.2.1 < n ∧ l.2.2 ≤ 99) ∧ (ls.map fun l => (l.1, l.2.1)).Nodup
def FoOk (n : Nat) (fo : List Nat) : Prop := fo.length ≤ 12 ∧ ∀ k ∈ fo, k < n
def tWhole : TD := fun ds Φ => ∃ o : Option Int, ds = [encI o] ∧ Φ (.bl o.isSome)
def tCell : TD := fun ds Φ => ∃ (ns : List Int) (k : Nat), ds = [.scr ns, .int (k : Int)] ∧ ∀ i : Int, Φ (.int i)
def tDigits : TD := fun ds Φ => ∃ (x : Int) (sizes : List Nat), ds = [.int x, .lst (sizes.map encN)] ∧ sizes.length ≤ 100 ∧ (∀ s ∈ sizes, 0 < s ∧ s < 1073741824) ∧ ∀ dig, DigOk dig sizes → Φ (.lst (dig.map encN))
def tpOk : Nat → Dt → Bool
  | _, .int _ => true
  | _, .str _ => true
  | _, .non => true
  | k + 1, .tup _ xs => decide (xs.length ≤ 1000) && xs.all (tpOk k)
  | _, _ => false
def tTuples (k : Nat) : TD := fun ds Φ => ∃ d, ds = [d] ∧ tpOk k d = true ∧ Φ (.bl true)
def tOffices : TD := fun ds Φ => ∃ (ns : List Int) (at_ n style : Nat), ds = [.scr ns, .int (at_ : Int), .int (n : Int), .int (style : Int)] ∧ n ≤ 6 ∧ ∀ xs, NamesOk n xs → Φ (.lst (xs.map .str))
def tTaught : TD := fun ds Φ => ∃ (ns : List Int) (at_ n plan extra turn : Nat), ds = [.scr ns, .int (at_ : Int), .int (n : Int), .int (plan : Int), .int (extra : Int), .int (turn : Int)] ∧ 1 ≤ n ∧ n ≤ 6 ∧ (plan = 6 → True) ∧ ∀ ls, LesOk n ls → Φ (.lst (ls.map lst3))
def tFounded : TD := fun ds Φ => ∃ (ns : List Int) (at_ n : Nat), ds = [.scr ns, .int (at_ : Int), .int (n : Int)] ∧ 1 ≤ n ∧ n ≤ 6 ∧ ∀ fo, FoOk n fo → Φ (.lst (fo.map encN))
def tStart : TD := fun ds Φ => ∃ (n : Nat) (fo : List Nat), ds = [.int (n : Int), .lst (fo.map encN)] ∧ n ≤ 6 ∧ (∀ k ∈ fo, k < n) ∧ Φ (.lst ((row0 n fo).map encO))
def tAfter : TD := fun ds Φ => ∃ (ls : List Les) (row : Row), ds = [.lst (ls.map lst3), .lst (row.map encO), .non] ∧ row.length ≤ 6 ∧ (∀ l ∈ ls, l.1 < row.length ∧ l.2.1 < row.length) ∧ Φ (.lst ((afterRow ls row).map encO))
def tMake (C : Addr) : TD := fun ds Φ => ∃ c : Cu, ds = [.lst (c.names.map .str), .lst (c.les.map lst3), .lst (c.fo.map encN)] ∧ c.Good ∧ Φ (c.dat C)
def tStranger : TD := fun ds Φ => ∃ (ns : List Int) (at_ : Nat) (xs : List Str), ds = [.scr ns, .int (at_ : Int), .lst (xs.map .str)] ∧ 1 ≤ xs.length ∧ xs.length ≤ 6 ∧ (∀ x ∈ xs, 1 ≤ x.length ∧ x.length ≤ 4) ∧ ∀ x, Φ (.str x)
def tUsefulL : TD := fun ds Φ => ∃ (n : Nat) (ls : List Les) (fo : List Nat) (i : Nat), ds = [.int (n : Int), .lst (ls.map lst3), .lst (fo.map encN), .int (i : Int)] ∧ n ≤ 6 ∧ (∀ l ∈ ls, l.1 < n ∧ l.2.1 < n) ∧ Φ (.lst ((useful n ls fo i).map b2D))
def tInner : TD := fun ds Φ => ∃ (ls : List Les) (fl : List Bool), ds = [.lst (ls.map lst3), .lst (fl.map b2D)] ∧ ls.length ≤ 36 ∧ (∀ l ∈ ls, l.1 < fl.length ∧ l.2.1 < fl.length) ∧ Φ (.lst ((innerF fl ls).map lst3))
def tRingsL : TD := fun ds Φ => ∃ (n : Nat) (ls : List Les), ds = [.int (n : Int), .lst (ls.map lst3)] ∧ n ≤ 6 ∧ (ls.map fun l => (l.1, l.2.1)).Nodup ∧ (∀ l ∈ ls, l.2.1 < n) ∧ ls.length ≤ 36 ∧ Φ (.lst ((ringsL n ls).map encRgL))
def tLeastL : TD := fun ds Φ => ∃ rs : List Ring, ds = [.lst (rs.map encRgL)] ∧ (∀ r ∈ rs, r.1.length ≤ 1000) ∧ Φ (encBestL (leastR rs))
def tDivisor : TD := fun ds Φ => ∃ a b : Nat, ds = [.int (a : Int), .int (b : Int)] ∧ b < 3000 ∧ Φ (.int ((Nat.gcd a b : Nat) : Int))
end Cr
/-! Walks over lessons. -/
namespace Cr
/-- a path: its places, the sum of its bounds -/
inductive Pa (ls : List Les) : List Nat → Nat → Prop
  | one (x : Nat) : Pa ls [x] 0
  | cons {x y : Nat} {r : List Nat} {b s : Nat} : (x, y, b) ∈ ls → Pa ls (y :: r) s → Pa ls (x :: y :: r) (b + s)
theorem Pa.mono {ls ls' : List Les} (h : ∀ l ∈ ls, l ∈ ls') : ∀ {p : List Nat} {s : Nat}, Pa ls p s → Pa ls' p s
  | _, _, .one x => .one x
  | _, _, .cons e r => .cons (h _ e) (r.mono h)
theorem Pa.ne {ls : List Les} {p : List Nat} {s : Nat} (h : Pa ls p s) : p ≠ [] := by
  cases h <;> simp
theorem Pa.app {ls : List Les} {x : Nat} {c : List Nat} {s2 : Nat} (h2 : Pa ls (x :: c) s2) : ∀ {a : List Nat} {s1 : Nat}, Pa ls (a ++ [x]) s1 → Pa ls (a ++ x :: c) (s1 + s2)
  | [], s1, h => by
    cases h with
    | one => rw [Nat.zero_add]; exact h2
  | [z], s1, h => by
    cases h with
    | cons e r =>
      cases r with
      | one => exact .cons e h2
  | z :: y :: a, s1, h => by
    cases h with
    | cons e r =>
      rw [Nat.add_assoc]
      exact .cons e (Pa.app h2 (a := y :: a) r)
theorem Pa.split {ls : List Les} {x : Nat} {c : List Nat} : ∀ {a : List Nat} {s : Nat}, Pa ls (a ++ x :: c) s → ∃ s1 s2, Pa ls (a ++ [x]) s1 ∧ Pa ls (x :: c) s2 ∧ s = s1 + s2
  | [], s, h => ⟨0, s, .one x, h, (Nat.zero_add s).symm⟩
  | [z], s, h => by
    cases h with
    | cons e r => exact ⟨_, _, .cons e (.one x), r, by omega⟩
  | z :: y :: a, s, h => by
    cases h with
    | cons e r =>
      obtain ⟨s1, s2, h1, h2, e2⟩ := Pa.split (a := y :: a) r
      exact ⟨_, s2, .cons e h1, h2, by omega⟩
theorem Pa.snoc {ls : List Les} {a : List Nat} {x y b s : Nat} (h : Pa ls (a ++ [x]) s) (e : (x, y, b) ∈ ls) : Pa ls (a ++ [x] ++ [y]) (s + b) := by
  rw [List.append_assoc]
  have := Pa.app (Pa.cons e (.one y)) h
  exact this
theorem Pa.last {ls : List Les} {a : List Nat} {x y s : Nat} (h : Pa ls (a ++ [x] ++ [y]) s) : ∃ s1 b, Pa ls (a ++ [x]) s1 ∧ (x, y, b) ∈ ls ∧ s = s1 + b := by
  rw [List.append_assoc] at h
  obtain ⟨s1, s2, h1, h2, e⟩ := Pa.split (c := [y]) h
  cases h2 with
  | cons e2 r =>
    cases r with
    | one => exact ⟨s1, _, h1, e2, by omega⟩
theorem Pa.lt {ls : List Les} {n : Nat} (hn : ∀ l ∈ ls, l.1 < n ∧ l.2.1 < n) : ∀ {p : List Nat} {s : Nat}, Pa ls p s → (∀ x ∈ p.head?, x < n) → ∀ x ∈ p, x < n
  | _, _, .one x, h => by simpa using h
  | _, _, .cons e r, h => by
    intro z hz
    rcases List.mem_cons.mp hz with rfl | hz
    · exact (hn _ e).1
    · exact r.lt hn (by simpa using (hn _ e).2) z hz
/-- a place that comes twice -/
theorem twice : ∀ {l : List Nat}, ¬ l.Nodup → ∃ a x b c, l = a ++ x :: (b ++ x :: c)
  | [], h => absurd List.nodup_nil h
  | y :: l, h => by
    by_cases hy : y ∈ l
    · obtain ⟨b, c, e⟩ := List.append_of_mem hy
      exact ⟨[], y, b, c, by rw [e]; rfl⟩
    · have h2 : ¬ l.Nodup := fun z => h (List.nodup_cons.mpr ⟨hy, z⟩)
      obtain ⟨a, x, b, c, e⟩ := twice h2
      exact ⟨y :: a, x, b, c, by rw [e]; rfl⟩
theorem least_mem : ∀ {l : List Nat}, l ≠ [] → ∃ a y b, l = a ++ y :: b ∧ ∀ z ∈ l, y ≤ z
  | [], h => absurd rfl h
  | [x], _ => ⟨[], x, [], rfl, by simp⟩
  | x :: w :: l, _ => by
    obtain ⟨a, y, b, e, h⟩ := least_mem (l := w :: l) (by simp)
    by_cases hxy : x ≤ y
    · refine ⟨[], x, w :: l, rfl, fun z hz => ?_⟩
      rcases List.mem_cons.mp hz with rfl | hz
      · exact Nat.le_refl _
      · exact Nat.le_trans hxy (h z hz)
    · refine ⟨x :: a, y, b, by rw [e]; rfl, fun z hz => ?_⟩
      rcases List.mem_cons.mp hz with rfl | hz
      · omega
      · exact h z hz
/-- a ring, told from its least place on -/
def IsRg (n : Nat) (ls : List Les) (r : Ring) : Prop := ∃ f m, r.1 = f :: m ∧ f < n ∧ (f :: m).length ≤ n ∧ (f :: m).Nodup ∧ (∀ z ∈ m, f < z) ∧ Pa ls (f :: (m ++ [f])) r.2
/-- no ring is below the mean top / bot -/
def NoLess (n : Nat) (ls : List Les) (top bot : Nat) : Prop := ∀ r, IsRg n ls r → top * r.1.length ≤ bot * r.2
theorem closed_ge {n : Nat} {ls : List Les} {top bot : Nat} (hn : ∀ l ∈ ls, l.1 < n ∧ l.2.1 < n) (hr : NoLess n ls top bot) : ∀ (k : Nat) (x : Nat) (m : List Nat) (s : Nat), m.length ≤ k → Pa ls (x :: (m ++ [x])) s → top * (m.length + 1) ≤ bot * s := by
  intro k
  induction k with
  | zero =>
    intro x m s hm h
    have e : m = [] := List.eq_nil_of_length_eq_zero (by omega)
    subst e
    have hx : x < n := by
      cases h with
      | cons e r => exact (hn _ e).1
    exact hr ([x], s) ⟨x, [], rfl, hx, by simp; omega, by simp, by simp, h⟩
  | succ k ih =>
    intro x m s hm h
    by_cases nd : (x :: m).Nodup
    · obtain ⟨a, y, b, e, hy⟩ := least_mem (l := x :: m) (by simp)
      have hlt : ∀ z ∈ x :: (m ++ [x]), z < n := h.lt hn (by
        intro z hz
        have hz : x = z := by simpa using hz
        subst hz
        cases hm2 : m with
        | nil =>
          subst hm2
          cases h with
          | cons e r => exact (hn _ e).1
        | cons w m' =>
          subst hm2
          cases h with
          | cons e r => exact (hn _ e).1)
      have hlt1 : ∀ z ∈ x :: m, z < n := fun z hz => hlt z (by
        rcases List.mem_cons.mp hz with rfl | hz
        · exact List.mem_cons_self
        · exact List.mem_cons_of_mem _ (List.mem_append_left _ hz))
      have hlen : (x :: m).length ≤ n := nodup_len n _ nd hlt1
      -- the ring from y on
      have key : ∃ m', (y :: m').length = (x :: m).length ∧ (y :: m').Nodup ∧ (∀ z ∈ y :: m', z ∈ x :: m) ∧ Pa ls (y :: (m' ++ [y])) s := by
        cases a with
        | nil =>
          rw [List.nil_append] at e
          injection e with e1 e2
          subst e1
          subst e2
          exact ⟨m, rfl, nd, fun z hz => hz, h⟩
        | cons w a =>
          rw [List.cons_append] at e
          injection e with e1 e2
          subst e1
          subst e2
          have h' : Pa ls ((x :: a) ++ y :: (b ++ [x])) s := by
            have e3 : x :: (a ++ y :: b ++ [x]) = (x :: a) ++ y :: (b ++ [x]) := by simp
            rw [e3] at h
            exact h
          obtain ⟨s1, s2, h1, h2, es⟩ := h'.split
          have h2' : Pa ls ((y :: b) ++ [x]) s2 := h2
          have h1' : Pa ls (x :: (a ++ [y])) s1 := h1
          have h3 := Pa.app h1' h2'
          refine ⟨b ++ x :: a, by simp; omega, ?_, ?_, ?_⟩
          · have p : (y :: (b ++ x :: a)).Perm (x :: (a ++ y :: b)) := by
              have := List.perm_append_comm (l₁ := y :: b) (l₂ := x :: a)
              simpa using this
            exact p.nodup_iff.mpr nd
          · intro z hz
            simp only [List.mem_cons, List.mem_append] at hz ⊢
            rcases hz with h | h | h | h <;> simp [h]
          · have e4 : y :: ((b ++ x :: a) ++ [y]) = (y :: b) ++ x :: (a ++ [y]) := by simp
            rw [e4, show s = s2 + s1 by omega]
            exact h3
      obtain ⟨m', hl, nd', hin, hp⟩ := key
      have := hr (y :: m', s) ⟨y, m', rfl, hlt1 y (hin y List.mem_cons_self), by rw [hl]; exact hlen, nd', fun z hz => ?_, hp⟩
      · have hl2 : m'.length = m.length := by simpa using hl
        simp only [List.length_cons, hl2] at this
        exact this
      · have h1 := hy z (hin z (List.mem_cons_of_mem _ hz))
        have h2 : y ≠ z := fun e => (List.nodup_cons.mp nd').1 (e ▸ hz)
        omega
    · obtain ⟨a, y, b, c, e⟩ := twice nd
      -- x :: m = a ++ y :: b ++ y :: c
      have e2 : x :: (m ++ [x]) = a ++ y :: ((b ++ [y]) ++ (c ++ [x])) := by
        have : (x :: m) ++ [x] = a ++ y :: ((b ++ [y]) ++ (c ++ [x])) := by rw [e]; simp
        simpa using this
      rw [e2] at h
      obtain ⟨s1, s2, h1, h2, es⟩ := h.split
      have e3 : y :: ((b ++ [y]) ++ (c ++ [x])) = (y :: b) ++ y :: (c ++ [x]) := by simp
      rw [e3] at h2
      obtain ⟨s3, s4, h3, h4, es2⟩ := h2.split
      have h5 : Pa ls (a ++ y :: (c ++ [x])) (s1 + s4) := Pa.app h4 h1
      have hml : m.length = a.length + b.length + c.length + 1 := by
        have := congrArg List.length e
        simp at this
        omega
      have i1 := ih y b s3 (by omega) h3
      have i2 : top * (a.length + c.length + 1) ≤ bot * (s1 + s4) := by
        cases a with
        | nil =>
          rw [List.nil_append] at e h5
          injection e with e4 e5
          subst e4
          have := ih x c (s1 + s4) (by simp at hml; omega) h5
          simpa using this
        | cons w a =>
          rw [List.cons_append] at e h5
          injection e with e4 e5
          subst e4
          have e6 : x :: (a ++ y :: (c ++ [x])) = x :: ((a ++ y :: c) ++ [x]) := by simp
          rw [e6] at h5
          have := ih x (a ++ y :: c) (s1 + s4) (by simp at hml ⊢; omega) h5
          have e7 : (a ++ y :: c).length + 1 = (x :: a).length + c.length + 1 := by simp; omega
          rw [e7] at this
          exact this
      have e8 : m.length + 1 = (b.length + 1) + (a.length + c.length + 1) := by omega
      have e9 : s = s3 + (s1 + s4) := by omega
      rw [e8, e9, Nat.mul_add top (b.length + 1), Nat.mul_add bot s3]
      omega
/-- a path made short -/
theorem shorten {n : Nat} {ls : List Les} {top bot : Nat} (hn : ∀ l ∈ ls, l.1 < n ∧ l.2.1 < n) (hr : NoLess n ls top bot) : ∀ (k : Nat) (p : List Nat) (s : Nat), p.length ≤ k → Pa ls p s → ∃ p' s', Pa ls p' s' ∧ p'.Nodup ∧ p'.head? = p.head? ∧ p'.getLast? = p.getLast? ∧ p'.length ≤ p.length ∧ bot * s' + top * p.length ≤ bot * s + top * p'.length := by
  intro k
  induction k with
  | zero =>
    intro p s hp h
    exact absurd (List.eq_nil_of_length_eq_zero (by omega)) h.ne
  | succ k ih =>
    intro p s hp h
    by_cases nd : p.Nodup
    · exact ⟨p, s, h, nd, rfl, rfl, Nat.le_refl _, Nat.le_refl _⟩
    · obtain ⟨a, y, b, c, e⟩ := twice nd
      subst e
      obtain ⟨s1, s2, h1, h2, es⟩ := h.split
      have e3 : y :: (b ++ y :: c) = (y :: b) ++ y :: c := by simp
      rw [e3] at h2
      obtain ⟨s3, s4, h3, h4, es2⟩ := h2.split
      have h5 : Pa ls (a ++ y :: c) (s1 + s4) := Pa.app h4 h1
      have hc := closed_ge hn hr b.length y b s3 (Nat.le_refl _) h3
      have hl : (a ++ y :: (b ++ y :: c)).length = (a ++ y :: c).length + (b.length + 1) := by simp; omega
      obtain ⟨p', s', g1, g2, g3, g4, g5, g6⟩ := ih (a ++ y :: c) (s1 + s4) (by omega) h5
      refine ⟨p', s', g1, g2, ?_, ?_, by omega, ?_⟩
      · rw [g3]
        cases a <;> rfl
      · rw [g4]
        simp [List.getLast?_append, List.getLast?_cons]
      · rw [hl, Nat.mul_add top, show s = s3 + (s1 + s4) by omega, Nat.mul_add bot s3]
        omega
/-! ### walks by their ends -/
inductive Wk (ls : List Les) : Nat → Nat → Nat → Nat → Prop
  | nil (x : Nat) : Wk ls 0 x x 0
  | cons {x y v k b s : Nat} : (x, y, b) ∈ ls → Wk ls k y v s → Wk ls (k + 1) x v (b + s)
theorem Wk.comp {ls : List Les} {j x v s2 : Nat} (h2 : Wk ls j x v s2) : ∀ {k u s1 : Nat}, Wk ls k u x s1 → Wk ls (k + j) u v (s1 + s2)
  | _, _, _, .nil _ => by rw [Nat.zero_add, Nat.zero_add]; exact h2
  | _, _, _, .cons (k := k) (b := b) (s := s) e r => by
    rw [Nat.add_right_comm, Nat.add_assoc b s s2]
    exact .cons e (Wk.comp h2 r)
theorem Wk.snoc {ls : List Les} {k u x v s b : Nat} (h : Wk ls k u x s) (e : (x, v, b) ∈ ls) : Wk ls (k + 1) u v (s + b) := Wk.comp (Wk.cons e (.nil v)) h
theorem Wk.split {ls : List Les} {v : Nat} : ∀ {k j u s : Nat}, Wk ls (k + j) u v s → ∃ x s1 s2, Wk ls k u x s1 ∧ Wk ls j x v s2 ∧ s = s1 + s2
  | 0, j, u, s, h => ⟨u, 0, s, .nil u, by rw [Nat.zero_add] at h; exact h, (Nat.zero_add s).symm⟩
  | k + 1, j, u, s, h => by
    rw [Nat.add_right_comm] at h
    cases h with
    | cons e r =>
      obtain ⟨x, s1, s2, h1, h2, es⟩ := Wk.split r
      exact ⟨x, _, s2, .cons e h1, h2, by omega⟩
theorem Wk.last {ls : List Les} {k u v s : Nat} (h : Wk ls (k + 1) u v s) : ∃ x s1 b, Wk ls k u x s1 ∧ (x, v, b) ∈ ls ∧ s = s1 + b := by
  obtain ⟨x, s1, s2, h1, h2, e⟩ := h.split
  cases h2 with
  | cons e2 r =>
    cases r with
    | nil => exact ⟨x, s1, _, h1, e2, by omega⟩
theorem Wk.mono {ls ls' : List Les} (h : ∀ l ∈ ls, l ∈ ls') : ∀ {k u v s : Nat}, Wk ls k u v s → Wk ls' k u v s
  | _, _, _, _, .nil x => .nil x
  | _, _, _, _, .cons e r => .cons (h _ e) (r.mono h)
theorem Wk.pa {ls : List Les} : ∀ {k u v s : Nat}, Wk ls k u v s → ∃ r, Pa ls (u :: r) s ∧ r.length = k ∧ (u :: r).getLast? = some v
  | _, _, _, _, .nil x => ⟨[], .one x, rfl, rfl⟩
  | _, _, _, _, .cons (y := y) e r => by
    obtain ⟨r, h, hl, hv⟩ := Wk.pa r
    exact ⟨y :: r, .cons e h, by simp [hl], by rw [List.getLast?_cons_cons]; exact hv⟩
theorem Pa.wk {ls : List Les} : ∀ {r : List Nat} {u v s : Nat}, Pa ls (u :: r) s → (u :: r).getLast? = some v → Wk ls r.length u v s
  | [], u, v, s, h, e => by
    cases h
    have e : u = v := by simpa using e
    subst e
    exact .nil u
  | y :: r, u, v, s, h, e => by
    cases h with
    | cons e1 h =>
      rw [List.getLast?_cons_cons] at e
      exact .cons e1 (Pa.wk h e)
theorem Wk.lt {ls : List Les} {n : Nat} (hn : ∀ l ∈ ls, l.1 < n ∧ l.2.1 < n) : ∀ {k u v s : Nat}, Wk ls k u v s → u < n → v < n
  | _, _, _, _, .nil x, h => h
  | _, _, _, _, .cons e r, _ => r.lt hn (hn _ e).2
/-- a way is not long -/
theorem Wk.short {ls : List Les} {n top bot : Nat} (hn : ∀ l ∈ ls, l.1 < n ∧ l.2.1 < n) (hr : NoLess n ls top bot) {k u v s : Nat} (h : Wk ls k u v s) (hu : u < n) : ∃ k' s', Wk ls k' u v s' ∧ k' < n ∧ bot * s' + top * k ≤ bot * s + top * k' := by
  obtain ⟨r, hp, hl, hv⟩ := h.pa
  obtain ⟨p', s', g1, g2, g3, g4, g5, g6⟩ := shorten hn hr _ _ _ (Nat.le_refl _) hp
  cases p' with
  | nil => exact absurd rfl g1.ne
  | cons w r' =>
    have e : w = u := by simpa using g3
    subst e
    rw [hv] at g4
    have hlt := g1.lt hn (by intro z hz; have hz : w = z := by simpa using hz
                             rw [← hz]; exact hu)
    have := nodup_len n _ g2 hlt
    refine ⟨r'.length, s', g1.wk g4, by rw [List.length_cons] at this; omega, ?_⟩
    rw [List.length_cons, List.length_cons, hl, Nat.mul_add, Nat.mul_add] at g6
    omega
theorem noLess0 (n : Nat) (ls : List Les) : NoLess n ls 0 0 := fun r _ => by rw [Nat.zero_mul]; exact Nat.zero_le _
/-- a long walk holds a ring -/
theorem Wk.long {ls : List Les} {n : Nat} (hn : ∀ l ∈ ls, l.1 < n ∧ l.2.1 < n) {k u v s : Nat} (h : Wk ls k u v s) (hu : u < n) (hk : n ≤ k) : ∃ r, IsRg n ls r := by
  refine Classical.byContradiction fun hc => ?_
  have hr : NoLess n ls 1 0 := fun r hr => absurd ⟨r, hr⟩ hc
  obtain ⟨k', s', _, h2, h3⟩ := h.short hn hr hu
  omega
end Cr
/-! The two lists of rings, and the least mean. -/
namespace Cr
theorem last_snoc (a : List Nat) (x d : Nat) : (a ++ [x]).getLastD d = x := by
  rw [List.getLastD_eq_getLast?, List.getLast?_append]
  rfl
theorem snoc_of {p : List Nat} (h : p ≠ []) : ∃ a, p = a ++ [p.getLastD 0] := by
  refine ⟨p.dropLast, ?_⟩
  have := List.dropLast_concat_getLast h
  rw [List.getLastD_eq_getLast?, List.getLast?_eq_some_getLast h]
  exact this.symm
/-! the law's -/
theorem pathsL_iff {ls : List Les} {f : Nat} : ∀ (k : Nat) (p : Ring), p ∈ pathsL ls f k ↔ ∃ m, p.1 = f :: m ∧ m.length = k ∧ (f :: m).Nodup ∧ (∀ z ∈ m, f < z) ∧ Pa ls (f :: m) p.2
  | 0, p => by
    rw [pathsL, List.mem_singleton]
    constructor
    · intro e
      subst e
      exact ⟨[], rfl, rfl, by simp, by simp, .one f⟩
    · rintro ⟨m, e1, e2, _, _, h⟩
      have e3 : m = [] := List.eq_nil_of_length_eq_zero e2
      subst e3
      obtain ⟨a, b⟩ := p
      cases h
      cases e1
      rfl
  | k + 1, p => by
    rw [pathsL, extend_eq]
    constructor
    · intro h
      obtain ⟨q, hq, h⟩ := List.mem_flatMap.mp h
      obtain ⟨l, hl, h⟩ := List.mem_flatMap.mp h
      obtain ⟨m, e1, e2, nd, hm, hp⟩ := (pathsL_iff k q).mp hq
      unfold exP at h
      split at h
      · rename_i hc
        obtain ⟨c1, c2, c3⟩ := hc
        rw [List.mem_singleton] at h
        subst h
        have hl := List.mem_filter.mp hl
        have e4 : l.1 = q.1.getLastD 0 := of_decide_eq_true hl.2
        rw [e1] at e4 c3
        refine ⟨m ++ [l.2.1], by rw [e1]; rfl, by simp [e2], ?_, ?_, ?_⟩
        · have : (f :: m ++ [l.2.1]).Nodup := List.nodup_append.mpr ⟨nd, by simp, fun x hx y hy => by
            rw [List.mem_singleton] at hy
            subst hy
            intro z
            exact c3 (z ▸ hx)⟩
          exact this
        · intro z hz
          rcases List.mem_append.mp hz with hz | hz
          · exact hm z hz
          · rw [List.mem_singleton] at hz
            rw [hz]
            exact c2
        · obtain ⟨a, ea⟩ := snoc_of (p := f :: m) (by simp)
          rw [ea] at hp
          have := Pa.snoc hp (y := l.2.1) (b := l.2.2) (by rw [← e4]; exact hl.1)
          rw [← ea] at this
          exact this
      · cases h
    · rintro ⟨m, e1, e2, nd, hm, hp⟩
      obtain ⟨a, ea⟩ := snoc_of (p := m) (by intro z; subst z; cases e2)
      generalize m.getLastD 0 = y at ea
      subst ea
      have nd' : (f :: a ++ [y]).Nodup := nd
      have nd2 := List.nodup_append.mp nd'
      obtain ⟨a2, ea2⟩ := snoc_of (p := f :: a) (by simp)
      have hp' : Pa ls (f :: a ++ [y]) p.2 := hp
      rw [ea2] at hp'
      obtain ⟨s1, b, h1, h2, es⟩ := hp'.last
      rw [← ea2] at h1
      refine List.mem_flatMap.mpr ⟨(f :: a, s1), (pathsL_iff k _).mpr ⟨a, rfl, by simpa using e2, nd2.1, fun z hz => hm z (List.mem_append_left _ hz), h1⟩, ?_⟩
      refine List.mem_flatMap.mpr ⟨((f :: a).getLastD 0, y, b), List.mem_filter.mpr ⟨h2, decide_eq_true rfl⟩, ?_⟩
      have hy := hm y (List.mem_append_right _ List.mem_cons_self)
      have hc : (y ≠ f ∧ f < y ∧ y ∉ f :: a) := ⟨by omega, hy, fun z => nd2.2.2 y z y List.mem_cons_self rfl⟩
      show p ∈ (if y ≠ f ∧ f < y ∧ y ∉ f :: a then [(f :: a ++ [y], s1 + b)] else [])
      rw [if_pos hc, List.mem_singleton]
      obtain ⟨p1, p2⟩ := p
      cases e1
      show _ = (f :: (a ++ [y]), s1 + b)
      rw [← es]
theorem ringsL_iff {n : Nat} {ls : List Les} {r : Ring} : r ∈ ringsL n ls ↔ IsRg n ls r := by
  unfold ringsL
  constructor
  · intro h
    obtain ⟨f, hf, h⟩ := List.mem_flatMap.mp h
    obtain ⟨k, hk, h⟩ := List.mem_flatMap.mp h
    rw [closed_eq] at h
    obtain ⟨q, hq, h⟩ := List.mem_flatMap.mp h
    obtain ⟨l, hl, h⟩ := List.mem_flatMap.mp h
    obtain ⟨m, e1, e2, nd, hm, hp⟩ := (pathsL_iff k q).mp hq
    unfold clP at h
    split at h
    · rename_i hc
      rw [List.mem_singleton] at h
      subst h
      have hl := List.mem_filter.mp hl
      have e4 : l.1 = q.1.getLastD 0 := of_decide_eq_true hl.2
      rw [e1] at e4
      have hk := List.mem_range.mp hk
      refine ⟨f, m, e1, List.mem_range.mp hf, by simp; omega, nd, hm, ?_⟩
      obtain ⟨a, ea⟩ := snoc_of (p := f :: m) (by simp)
      rw [ea] at hp
      have := Pa.snoc hp (y := f) (b := l.2.2) (by rw [← e4, ← hc]; exact hl.1)
      rw [← ea] at this
      exact this
    · cases h
  · rintro ⟨f, m, e1, hf, hl, nd, hm, hp⟩
    refine List.mem_flatMap.mpr ⟨f, List.mem_range.mpr hf, List.mem_flatMap.mpr ⟨m.length, List.mem_range.mpr (by simp at hl; omega), ?_⟩⟩
    rw [closed_eq]
    obtain ⟨a, ea⟩ := snoc_of (p := f :: m) (by simp)
    have hp' : Pa ls (f :: m ++ [f]) r.2 := hp
    rw [ea] at hp'
    obtain ⟨s1, b, h1, h2, es⟩ := hp'.last
    rw [← ea] at h1
    refine List.mem_flatMap.mpr ⟨(f :: m, s1), (pathsL_iff _ _).mpr ⟨m, rfl, rfl, nd, hm, h1⟩, ?_⟩
    refine List.mem_flatMap.mpr ⟨((f :: m).getLastD 0, f, b), List.mem_filter.mpr ⟨h2, decide_eq_true rfl⟩, ?_⟩
    show r ∈ (if f = f then [(f :: m, s1 + b)] else [])
    rw [if_pos rfl, List.mem_singleton]
    obtain ⟨r1, r2⟩ := r
    cases e1
    show _ = (f :: m, s1 + b)
    rw [← es]
/-! the program's -/
theorem closing_iff {ss : List Les} {f : Nat} : ∀ (k : Nat) (m : List Nat) (t : Nat) (r : Ring), r ∈ closing ss k (f :: m) t ↔ ∃ m2 s, r = (f :: (m ++ m2), t + s) ∧ m2.length < k ∧ (∀ z ∈ m2, f < z) ∧ (∀ a x b, m2 = a ++ x :: b → x ∉ f :: (m ++ a)) ∧ Pa ss ((f :: m).getLastD 0 :: (m2 ++ [f])) s
  | 0, m, t, r => by
    constructor
    · intro h
      cases h
    · rintro ⟨m2, s, _, h, _⟩
      omega
  | k + 1, m, t, r => by
    rw [closing_eq]
    constructor
    · intro h
      obtain ⟨l, hl, h⟩ := List.mem_flatMap.mp h
      unfold clStep at h
      split at h
      · rename_i h1
        split at h
        · rename_i h2
          rw [List.mem_singleton] at h
          subst h
          have h2 : l.2.1 = f := h2
          refine ⟨[], l.2.2, by simp, by simp, by simp, by simp, ?_⟩
          rw [← h1]
          have : Pa ss [l.1, f] (l.2.2 + 0) := .cons (by rw [← h2]; exact hl) (.one f)
          exact this
        · split at h
          · rename_i h3
            have h3a : f < l.2.1 := h3.1
            have h3b : l.2.1 ∉ f :: m := h3.2
            have h : r ∈ closing ss k (f :: (m ++ [l.2.1])) (t + l.2.2) := h
            obtain ⟨m2, s, e, hk, hz, hnd, hp⟩ := (closing_iff k _ _ r).mp h
            refine ⟨l.2.1 :: m2, l.2.2 + s, by rw [e]; simp; omega, by simp; omega, ?_, ?_, ?_⟩
            · intro z hz2
              rcases List.mem_cons.mp hz2 with rfl | hz2
              · exact h3a
              · exact hz z hz2
            · intro a x b e2
              cases a with
              | nil =>
                rw [List.nil_append] at e2
                injection e2 with e3 e4
                rw [← e3, List.append_nil]
                exact h3b
              | cons w a =>
                rw [List.cons_append] at e2
                injection e2 with e3 e4
                have := hnd a x b e4
                rw [← e3]
                simpa using this
            · rw [← h1]
              have e5 : (f :: (m ++ [l.2.1])).getLastD 0 = l.2.1 := last_snoc (f :: m) _ _
              rw [e5] at hp
              exact .cons hl hp
          · cases h
      · cases h
    · rintro ⟨m2, s, e, hk, hz, hnd, hp⟩
      cases m2 with
      | nil =>
        cases hp with
        | cons e1 r1 =>
          cases r1
          refine List.mem_flatMap.mpr ⟨_, e1, ?_⟩
          show r ∈ (if (f :: m).getLastD 0 = (f :: m).getLastD 0 then (if f = f then [(f :: m, t + _)] else _) else _)
          rw [if_pos rfl, if_pos rfl, List.mem_singleton, e]
          simp
      | cons w m2 =>
        cases hp with
        | @cons _ _ _ b0 s0 e1 r1 =>
          refine List.mem_flatMap.mpr ⟨_, e1, ?_⟩
          unfold clStep
          have hw := hz w List.mem_cons_self
          have hn := hnd [] w m2 rfl
          rw [List.append_nil] at hn
          have hwf : ¬ w = f := fun z => by omega
          show r ∈ (if (f :: m).getLastD 0 = (f :: m).getLastD 0 then (if w = f then _ else (if f < w ∧ w ∉ f :: m then closing ss k (f :: (m ++ [w])) _ else [])) else [])
          rw [if_pos rfl, if_neg hwf, if_pos ⟨hw, hn⟩]
          refine (closing_iff k (m ++ [w]) _ r).mpr ⟨m2, s0, by rw [e, Nat.add_assoc]; simp, by simp at hk; omega, fun z h => hz z (List.mem_cons_of_mem _ h), fun a x b e2 => ?_, ?_⟩
          · have := hnd (w :: a) x b (by rw [e2]; rfl)
            simpa using this
          · have e5 : (f :: (m ++ [w])).getLastD 0 = w := last_snoc (f :: m) _ _
            rw [e5]
            exact r1
theorem nodup_parts : ∀ {m2 : List Nat} {p : List Nat}, p.Nodup → ((∀ a x b, m2 = a ++ x :: b → x ∉ p ++ a) ↔ (p ++ m2).Nodup)
  | [], p, h => by simpa using h
  | w :: m2, p, h => by
    constructor
    · intro h1
      have hw := h1 [] w m2 rfl
      rw [List.append_nil] at hw
      have h2 : (p ++ [w]).Nodup := List.nodup_append.mpr ⟨h, by simp, fun x hx y hy => by
        rw [List.mem_singleton] at hy
        subst hy
        intro z
        exact hw (z ▸ hx)⟩
      have := (nodup_parts (m2 := m2) h2).mp fun a x b e => by
        have := h1 (w :: a) x b (by rw [e]; rfl)
        simpa using this
      simpa using this
    · intro h1 a x b e
      rw [e] at h1
      have h2 : ((p ++ a) ++ x :: b).Nodup := by simpa using h1
      exact fun z => (List.nodup_append.mp h2).2.2 x z x List.mem_cons_self rfl
theorem ringsP_iff {n : Nat} {ss : List Les} {r : Ring} : r ∈ ringsP n ss ↔ IsRg n ss r := by
  unfold ringsP
  constructor
  · intro h
    obtain ⟨f, hf, h⟩ := List.mem_flatMap.mp h
    obtain ⟨m2, s, e, hk, hz, hnd, hp⟩ := (closing_iff n [] 0 r).mp h
    subst e
    refine ⟨f, m2, rfl, List.mem_range.mp hf, by simp; omega, ?_, hz, ?_⟩
    · exact (nodup_parts (p := [f]) (by simp)).mp hnd
    · show Pa ss _ (0 + s)
      rw [Nat.zero_add]
      exact hp
  · rintro ⟨f, m, e1, hf, hl, nd, hm, hp⟩
    refine List.mem_flatMap.mpr ⟨f, List.mem_range.mpr hf, (closing_iff n [] 0 r).mpr ⟨m, r.2, ?_, by simp at hl; omega, hm, ?_, hp⟩⟩
    · obtain ⟨r1, r2⟩ := r
      cases e1
      simp
    · exact (nodup_parts (p := [f]) (by simp)).mpr nd
theorem IsRg.mono {n : Nat} {ls ls' : List Les} (h : ∀ l ∈ ls, l ∈ ls') {r : Ring} (q : IsRg n ls r) : IsRg n ls' r := by
  obtain ⟨f, m, e1, hf, hl, nd, hm, hp⟩ := q
  exact ⟨f, m, e1, hf, hl, nd, hm, hp.mono h⟩
theorem IsRg.pos {n : Nat} {ls : List Les} {r : Ring} (q : IsRg n ls r) : 0 < r.1.length := by
  obtain ⟨f, m, e1, _⟩ := q
  rw [e1]
  simp
/-! the least mean -/
def MinR (rs : List Ring) : Option Ring → Prop
  | none => rs = []
  | some b => b ∈ rs ∧ ∀ r ∈ rs, b.2 * r.1.length ≤ r.2 * b.1.length
theorem mul_chain {a b c la lb lc : Nat} (h1 : c * lb ≤ b * lc) (h2 : b * la ≤ a * lb) (hb : 0 < lb) : c * la ≤ a * lc := by
  have h3 : c * lb * la ≤ b * lc * la := Nat.mul_le_mul_right _ h1
  have h4 : b * la * lc ≤ a * lb * lc := Nat.mul_le_mul_right _ h2
  have e1 : c * lb * la = (c * la) * lb := by rw [Nat.mul_assoc, Nat.mul_comm lb la, ← Nat.mul_assoc]
  have e2 : b * lc * la = b * la * lc := by rw [Nat.mul_assoc, Nat.mul_comm lc la, ← Nat.mul_assoc]
  have e3 : a * lb * lc = (a * lc) * lb := by rw [Nat.mul_assoc, Nat.mul_comm lb lc, ← Nat.mul_assoc]
  exact Nat.le_of_mul_le_mul_right (by omega) hb
theorem leastR_min : ∀ (rs : List Ring), (∀ r ∈ rs, 0 < r.1.length) → MinR rs (leastR rs) := by
  intro rs hp
  have key : ∀ k, ∀ pre : List Ring, pre.length = k → (∀ r ∈ pre, 0 < r.1.length) → MinR pre (leastR pre) := by
    intro k
    induction k with
    | zero =>
      intro pre h _
      have e : pre = [] := List.eq_nil_of_length_eq_zero h
      subst e
      rfl
    | succ k ih =>
      intro pre h hpos
      have hne : pre ≠ [] := by intro z; subst z; cases h
      have es : pre = pre.dropLast ++ [pre.getLast hne] := (List.dropLast_concat_getLast hne).symm
      generalize pre.dropLast = q at es
      generalize pre.getLast hne = r at es
      subst es
      have hq := ih q (by simpa using h) fun r hr => hpos r (List.mem_append_left _ hr)
      have hr : 0 < r.1.length := hpos r (List.mem_append_right _ List.mem_cons_self)
      rw [leastR_snoc]
      cases e : leastR q with
      | none =>
        rw [e] at hq
        have hq : q = [] := hq
        subst hq
        refine ⟨List.mem_cons_self, fun x hx => ?_⟩
        have : x = r := by simpa using hx
        rw [this]
        exact Nat.le_refl _
      | some b =>
        rw [e] at hq
        obtain ⟨hb, hmin⟩ := hq
        have hbp := hpos b (List.mem_append_left _ hb)
        by_cases hlt : (r.2 : Int) * (b.1.length : Int) < (b.2 : Int) * (r.1.length : Int)
        · rw [better_pos hlt]
          have hlt' : r.2 * b.1.length < b.2 * r.1.length := by
            rw [← Int.natCast_mul, ← Int.natCast_mul] at hlt
            omega
          refine ⟨List.mem_append_right _ List.mem_cons_self, fun x hx => ?_⟩
          rcases List.mem_append.mp hx with hx | hx
          · exact mul_chain (Nat.le_of_lt hlt') (hmin x hx) hbp
          · have : x = r := by simpa using hx
            rw [this]
            exact Nat.le_refl _
        · rw [better_neg hlt]
          have hlt' : b.2 * r.1.length ≤ r.2 * b.1.length := by
            rw [← Int.natCast_mul, ← Int.natCast_mul] at hlt
            omega
          refine ⟨List.mem_append_left _ hb, fun x hx => ?_⟩
          rcases List.mem_append.mp hx with hx | hx
          · exact hmin x hx
          · have : x = r := by simpa using hx
            rw [this]
            exact hlt'
  exact key rs.length rs rfl hp
/-- equal means have equal lowest terms -/
theorem lowest_eq {a b c d : Nat} (hb : 0 < b) (hd : 0 < d) (h : a * d = c * b) : a / Nat.gcd a b = c / Nat.gcd c d ∧ b / Nat.gcd a b = d / Nat.gcd c d := by
  have hg : 0 < Nat.gcd a b := Nat.gcd_pos_of_pos_right _ hb
  have hg2 : 0 < Nat.gcd c d := Nat.gcd_pos_of_pos_right _ hd
  obtain ⟨a', ha⟩ := Nat.gcd_dvd_left a b
  obtain ⟨b', hb'⟩ := Nat.gcd_dvd_right a b
  obtain ⟨c', hc⟩ := Nat.gcd_dvd_left c d
  obtain ⟨d', hd'⟩ := Nat.gcd_dvd_right c d
  have cop : Nat.Coprime (a / Nat.gcd a b) (b / Nat.gcd a b) := Nat.coprime_div_gcd_div_gcd hg
  have cop2 : Nat.Coprime (c / Nat.gcd c d) (d / Nat.gcd c d) := Nat.coprime_div_gcd_div_gcd hg2
  have ea : a / Nat.gcd a b = a' := by
    apply Nat.div_eq_of_eq_mul_right hg ha
  have eb : b / Nat.gcd a b = b' := Nat.div_eq_of_eq_mul_right hg hb'
  have ec : c / Nat.gcd c d = c' := Nat.div_eq_of_eq_mul_right hg2 hc
  have ed : d / Nat.gcd c d = d' := Nat.div_eq_of_eq_mul_right hg2 hd'
  rw [ea, eb] at cop
  rw [ec, ed] at cop2
  rw [ea, eb, ec, ed]
  generalize Nat.gcd a b = g at *
  generalize Nat.gcd c d = k at *
  have h2 : a' * d' = c' * b' := by
    rw [ha, hd', hc, hb'] at h
    have e1 : g * a' * (k * d') = (g * k) * (a' * d') := by
      rw [Nat.mul_assoc, Nat.mul_assoc, Nat.mul_left_comm a' k d']
    have e2 : k * c' * (g * b') = (g * k) * (c' * b') := by
      rw [Nat.mul_assoc, Nat.mul_left_comm c' g b', ← Nat.mul_assoc, Nat.mul_comm k g]
    rw [e1, e2] at h
    exact Nat.eq_of_mul_eq_mul_left (Nat.mul_pos hg hg2) h
  have hb0 : 0 < b' := by
    rcases Nat.eq_zero_or_pos b' with z | z
    · subst z
      omega
    · exact z
  have hd1 : b' ∣ d' := cop.symm.dvd_of_dvd_mul_left ⟨c', by rw [h2, Nat.mul_comm]⟩
  have hd2 : d' ∣ b' := cop2.symm.dvd_of_dvd_mul_left ⟨a', by rw [← h2, Nat.mul_comm]⟩
  have ebd : b' = d' := Nat.dvd_antisymm hd1 hd2
  subst ebd
  exact ⟨Nat.eq_of_mul_eq_mul_right hb0 h2, rfl⟩
end Cr
/-! Which places the flags tell. -/
namespace Cr
theorem getD_set {α : Type} (f : List α) (i j : Nat) (v d : α) : (f.set i v).getD j d = if i = j ∧ j < f.length then v else f.getD j d := by
  rw [List.getD_eq_getElem?_getD, List.getElem?_set, List.getD_eq_getElem?_getD]
  by_cases h : i = j
  · subst h
    by_cases h2 : i < f.length
    · simp [h2]
    · simp [h2]
  · simp [h]
/-- arrows one behind the other -/
inductive Ch (A : List (Nat × Nat)) : Nat → Nat → Nat → Prop
  | nil (x : Nat) : Ch A 0 x x
  | snoc {k u x y : Nat} : Ch A k u x → (x, y) ∈ A → Ch A (k + 1) u y
def From (A : List (Nat × Nat)) (f : List Bool) (x : Nat) : Prop := ∃ k u, f.getD u false = true ∧ Ch A k u x
theorem stepF_up {f : List Bool} {p : Nat × Nat} {j : Nat} (h : f.getD j false = true) : (stepF f p).getD j false = true := by
  unfold stepF
  split
  · rw [getD_set]
    split
    · rfl
    · exact h
  · exact h
theorem foldF_up : ∀ {A : List (Nat × Nat)} {f : List Bool} {j : Nat}, f.getD j false = true → (A.foldl stepF f).getD j false = true
  | [], _, _, h => h
  | p :: A, f, j, h => by
    rw [List.foldl_cons]
    exact foldF_up (stepF_up h)
theorem foldF_go : ∀ {A : List (Nat × Nat)} {f : List Bool} {p : Nat × Nat}, p ∈ A → p.2 < f.length → f.getD p.1 false = true → (A.foldl stepF f).getD p.2 false = true
  | [], _, _, h, _, _ => nomatch h
  | q :: A, f, p, h, hl, hf => by
    rw [List.foldl_cons]
    rcases List.mem_cons.mp h with rfl | h
    · refine foldF_up ?_
      unfold stepF
      rw [if_pos hf, getD_set, if_pos ⟨rfl, hl⟩]
    · exact foldF_go h (by rw [stepF_len]; exact hl) (stepF_up hf)
theorem roundsF_up {A : List (Nat × Nat)} {f : List Bool} {j : Nat} : ∀ {k m : Nat}, k ≤ m → (roundsF A f k).getD j false = true → (roundsF A f m).getD j false = true
  | k, 0, h, e => by
    have : k = 0 := by omega
    subst this
    exact e
  | k, m + 1, h, e => by
    rcases Nat.lt_or_ge m k with h2 | h2
    · have : k = m + 1 := by omega
      subst this
      exact e
    · exact foldF_up (roundsF_up h2 e)
theorem foldF_sound {A0 : List (Nat × Nat)} {f0 : List Bool} : ∀ {A : List (Nat × Nat)} {f : List Bool}, (∀ p ∈ A, p ∈ A0) → (∀ j, f.getD j false = true → From A0 f0 j) → ∀ j, (A.foldl stepF f).getD j false = true → From A0 f0 j
  | [], _, _, h, j, e => h j e
  | p :: A, f, hA, h, j, e => by
    rw [List.foldl_cons] at e
    refine foldF_sound (fun q hq => hA q (List.mem_cons_of_mem _ hq)) (fun i hi => ?_) j e
    unfold stepF at hi
    split at hi
    · rename_i hp
      rw [getD_set] at hi
      split at hi
      · rename_i hc
        obtain ⟨k, u, hu, c⟩ := h p.1 hp
        exact ⟨k + 1, u, hu, .snoc c (by rw [← hc.1]; exact hA p List.mem_cons_self)⟩
      · exact h i hi
    · exact h i hi
theorem rounds_sound {A : List (Nat × Nat)} {f : List Bool} : ∀ (k j : Nat), (roundsF A f k).getD j false = true → From A f j
  | 0, j, e => ⟨0, j, e, .nil j⟩
  | k + 1, j, e => foldF_sound (fun _ h => h) (fun i hi => rounds_sound k i hi) j e
theorem rounds_go {A : List (Nat × Nat)} {f : List Bool} (hA : ∀ p ∈ A, p.2 < f.length) : ∀ {k u x : Nat}, Ch A k u x → f.getD u false = true → (roundsF A f k).getD x false = true
  | _, _, _, .nil _, h => h
  | _, _, _, .snoc c e, h => foldF_go e (by rw [roundsF_len]; exact hA _ e) (rounds_go hA c h)
theorem fwd_mem {ls : List Les} {a b : Nat} : (a, b) ∈ fwd ls ↔ ∃ c, (a, b, c) ∈ ls := by
  unfold fwd
  constructor
  · intro h
    obtain ⟨⟨x, y, c⟩, hl, e⟩ := List.mem_map.mp h
    cases e
    exact ⟨c, hl⟩
  · rintro ⟨c, h⟩
    exact List.mem_map.mpr ⟨_, h, rfl⟩
theorem bwd_mem {ls : List Les} {a b : Nat} : (a, b) ∈ bwd ls ↔ ∃ c, (b, a, c) ∈ ls := by
  unfold bwd
  constructor
  · intro h
    obtain ⟨⟨x, y, c⟩, hl, e⟩ := List.mem_map.mp h
    cases e
    exact ⟨c, hl⟩
  · rintro ⟨c, h⟩
    exact List.mem_map.mpr ⟨_, h, rfl⟩
theorem ch_wk {ls : List Les} : ∀ {k u x : Nat}, Ch (fwd ls) k u x → ∃ s, Wk ls k u x s
  | _, _, _, .nil x => ⟨0, .nil x⟩
  | _, _, _, .snoc c e => by
    obtain ⟨s, h⟩ := ch_wk c
    obtain ⟨b, h2⟩ := fwd_mem.mp e
    exact ⟨s + b, h.snoc h2⟩
theorem wk_ch {ls : List Les} : ∀ {k u x s : Nat}, Wk ls k u x s → Ch (fwd ls) k u x
  | 0, u, x, s, h => by cases h; exact .nil _
  | k + 1, u, x, s, h => by
    obtain ⟨y, s1, b, h1, h2, _⟩ := h.last
    exact .snoc (wk_ch h1) (fwd_mem.mpr ⟨b, h2⟩)
theorem chb_wk {ls : List Les} : ∀ {k u x : Nat}, Ch (bwd ls) k u x → ∃ s, Wk ls k x u s
  | _, _, _, .nil x => ⟨0, .nil x⟩
  | _, _, _, .snoc c e => by
    obtain ⟨s, h⟩ := chb_wk c
    obtain ⟨b, h2⟩ := bwd_mem.mp e
    exact ⟨b + s, .cons h2 h⟩
theorem wk_chb {ls : List Les} : ∀ {k u x s : Nat}, Wk ls k x u s → Ch (bwd ls) k u x
  | _, _, _, _, .nil _ => .nil _
  | _, _, _, _, .cons e r => .snoc (wk_chb r) (bwd_mem.mpr ⟨_, e⟩)
theorem filled0_at {n : Nat} {fo : List Nat} {k : Nat} : (filled0 n fo).getD k false = true ↔ k < n ∧ k ∈ fo := by
  unfold filled0
  rw [List.getD_eq_getElem?_getD, List.getElem?_map]
  by_cases h : k < n
  · rw [List.getElem?_range h]
    simp [h]
  · rw [List.getElem?_eq_none (by rw [List.length_range]; omega)]
    simp [h]
theorem lead0_at {n i : Nat} {k : Nat} : (lead0 n i).getD k false = true ↔ k < n ∧ k = i := by
  unfold lead0
  rw [List.getD_eq_getElem?_getD, List.getElem?_map]
  by_cases h : k < n
  · rw [List.getElem?_range h]
    simp [h]
  · rw [List.getElem?_eq_none (by rw [List.length_range]; omega)]
    simp [h]
/-- filled in some generation -/
def Fil (ls : List Les) (fo : List Nat) (x : Nat) : Prop := ∃ u ∈ fo, ∃ k s, Wk ls k u x s
/-- leading to the place -/
def Lea (ls : List Les) (i x : Nat) : Prop := ∃ k s, Wk ls k x i s
section
variable {n : Nat} {ls : List Les} {fo : List Nat} {i : Nat}
theorem filled_iff (hn : ∀ l ∈ ls, l.1 < n ∧ l.2.1 < n) (hf : ∀ u ∈ fo, u < n) (x : Nat) : (reached (fwd ls) (filled0 n fo)).getD x false = true ↔ Fil ls fo x := by
  have hl : (filled0 n fo).length = n := by unfold filled0; rw [List.length_map, List.length_range]
  unfold reached
  rw [hl]
  constructor
  · intro h
    obtain ⟨k, u, hu, c⟩ := rounds_sound n x h
    obtain ⟨s, h2⟩ := ch_wk c
    exact ⟨u, (filled0_at.mp hu).2, k, s, h2⟩
  · rintro ⟨u, hu, k, s, h⟩
    obtain ⟨k', s', h2, hk, _⟩ := h.short hn (noLess0 n ls) (hf u hu)
    refine roundsF_up (Nat.le_of_lt hk) (rounds_go (fun p hp => ?_) (wk_ch h2) (filled0_at.mpr ⟨hf u hu, hu⟩))
    obtain ⟨c, hc⟩ := fwd_mem.mp hp
    rw [hl]
    exact (hn _ hc).2
theorem leading_iff (hn : ∀ l ∈ ls, l.1 < n ∧ l.2.1 < n) (hi : i < n) (x : Nat) (hx : x < n) : (reached (bwd ls) (lead0 n i)).getD x false = true ↔ Lea ls i x := by
  have hl : (lead0 n i).length = n := by unfold lead0; rw [List.length_map, List.length_range]
  unfold reached
  rw [hl]
  constructor
  · intro h
    obtain ⟨k, u, hu, c⟩ := rounds_sound n x h
    obtain ⟨s, h2⟩ := chb_wk c
    have := (lead0_at.mp hu).2
    subst this
    exact ⟨k, s, h2⟩
  · rintro ⟨k, s, h⟩
    obtain ⟨k', s', h2, hk, _⟩ := h.short hn (noLess0 n ls) hx
    refine roundsF_up (Nat.le_of_lt hk) (rounds_go (fun p hp => ?_) (wk_chb h2) (lead0_at.mpr ⟨hi, rfl⟩))
    obtain ⟨c, hc⟩ := bwd_mem.mp hp
    rw [hl]
    exact (hn _ hc).1
theorem useful_iff (hn : ∀ l ∈ ls, l.1 < n ∧ l.2.1 < n) (hf : ∀ u ∈ fo, u < n) (hi : i < n) (x : Nat) : (useful n ls fo i).getD x false = true ↔ x < n ∧ Fil ls fo x ∧ Lea ls i x := by
  unfold useful
  rw [List.getD_eq_getElem?_getD, List.getElem?_map]
  by_cases h : x < n
  · rw [List.getElem?_range h]
    show ((reached (fwd ls) (filled0 n fo)).getD x false && (reached (bwd ls) (lead0 n i)).getD x false) = true ↔ _
    rw [Bool.and_eq_true, filled_iff hn hf x, leading_iff hn hi x h]
    simp [h]
  · rw [List.getElem?_eq_none (by rw [List.length_range]; omega)]
    simp [h]
/-- a walk from a founded place to the place: all its lessons are useful -/
theorem wk_inner (hn : ∀ l ∈ ls, l.1 < n ∧ l.2.1 < n) (hf : ∀ u ∈ fo, u < n) (hi : i < n) : ∀ {k u s : Nat}, Wk ls k u i s → Fil ls fo u → u < n → Wk (innerF (useful n ls fo i) ls) k u i s
  | _, _, _, .nil _, _, _ => .nil _
  | _, _, _, .cons (x := u) (y := y) (k := k) (s := s) (b := b) e r, ⟨w, hw, j, s0, h0⟩, hu => by
    have hy : Fil ls fo y := ⟨w, hw, _, _, h0.snoc e⟩
    refine .cons ?_ (wk_inner hn hf hi r hy (hn _ e).2)
    unfold innerF
    refine List.mem_filter.mpr ⟨e, ?_⟩
    rw [Bool.and_eq_true]
    exact ⟨(useful_iff hn hf hi u).mpr ⟨hu, ⟨w, hw, j, s0, h0⟩, _, _, .cons e r⟩, (useful_iff hn hf hi y).mpr ⟨(hn _ e).2, hy, _, _, r⟩⟩
end
end Cr
/-! The potentials. -/
namespace Cr
/-- the worth of a walk -/
def worth (top bot : Nat) (k s : Nat) : Int := (bot * s : Nat) - (top * k : Nat)
theorem worth_cons (top bot k s b : Nat) : worth top bot (k + 1) (s + b) = worth top bot k s + ((bot * b : Nat) : Int) - (top : Int) := by
  unfold worth
  rw [Nat.mul_add, Nat.mul_add]
  omega
/-- what the numbers say after some rounds -/
structure PotOk (n : Nat) (fl : List Bool) (ss : List Les) (top bot : Nat) (j : Nat) (ds : List (Option Int)) : Prop where
  len : ds.length = n
  fl : ∀ v, v < n → ((ds.getD v none).isSome = fl.getD v false)
  at_ : ∀ v d, ds.getD v none = some d → ∃ u k s, u < n ∧ Wk ss k u v s ∧ d = worth top bot k s
  le : ∀ u v k s d, k ≤ j → Wk ss k u v s → ds.getD v none = some d → d ≤ worth top bot k s
section
variable {n : Nat} {fl : List Bool} {ss : List Les} {top bot : Nat}
theorem relax_eq {ds : List (Option Int)} {l : Les} {a b : Int} (h1 : ds.getD l.1 none = some a) (h2 : ds.getD l.2.1 none = some b) : relax top bot ds l = ds.set l.2.1 (some (if a + (bot : Int) * (l.2.2 : Int) - (top : Int) < b then a + (bot : Int) * (l.2.2 : Int) - (top : Int) else b)) := by
  unfold relax
  rw [h1, h2]
/-- one relaxing: the numbers stay right, and fall -/
theorem relax_ok {j : Nat} {ds : List (Option Int)} {l : Les} (hl : l ∈ ss) (hb : l.1 < n ∧ l.2.1 < n) (hfl : fl.getD l.1 false = true ∧ fl.getD l.2.1 false = true) (P : PotOk n fl ss top bot j ds) :
    PotOk n fl ss top bot j (relax top bot ds l) ∧ (∀ v d, ds.getD v none = some d → ∃ e, e ≤ d ∧ (relax top bot ds l).getD v none = some e) ∧ (∀ a, ds.getD l.1 none = some a → ∃ e, e ≤ a + ((bot * l.2.2 : Nat) : Int) - (top : Int) ∧ (relax top bot ds l).getD l.2.1 none = some e) := by
  have h1 := P.fl l.1 hb.1
  have h2 := P.fl l.2.1 hb.2
  rw [hfl.1] at h1
  rw [hfl.2] at h2
  obtain ⟨a, ha⟩ := Option.isSome_iff_exists.mp h1
  obtain ⟨b, hbb⟩ := Option.isSome_iff_exists.mp h2
  rw [relax_eq ha hbb]
  have ec : (bot : Int) * (l.2.2 : Int) = ((bot * l.2.2 : Nat) : Int) := (Int.natCast_mul _ _).symm
  rw [ec]
  have hlen : l.2.1 < ds.length := by rw [P.len]; exact hb.2
  have hget : ∀ v, (ds.set l.2.1 (some (if a + ((bot * l.2.2 : Nat) : Int) - (top : Int) < b then a + ((bot * l.2.2 : Nat) : Int) - (top : Int) else b))).getD v none = if l.2.1 = v then some (if a + ((bot * l.2.2 : Nat) : Int) - (top : Int) < b then a + ((bot * l.2.2 : Nat) : Int) - (top : Int) else b) else ds.getD v none := by
    intro v
    rw [getD_set]
    by_cases e : l.2.1 = v
    · subst e
      rw [if_pos ⟨rfl, hlen⟩, if_pos rfl]
    · rw [if_neg (fun z => e z.1), if_neg e]
  have hval : ∃ e : Int, e = (if a + ((bot * l.2.2 : Nat) : Int) - (top : Int) < b then a + ((bot * l.2.2 : Nat) : Int) - (top : Int) else b) ∧ e ≤ b ∧ e ≤ a + ((bot * l.2.2 : Nat) : Int) - (top : Int) ∧ (e = b ∨ e = a + ((bot * l.2.2 : Nat) : Int) - (top : Int)) := by
    refine ⟨_, rfl, ?_, ?_, ?_⟩
    · split <;> omega
    · split <;> omega
    · split
      · exact .inr rfl
      · exact .inl rfl
  obtain ⟨e, he, e1, e2, e3⟩ := hval
  rw [← he] at hget ⊢
  refine ⟨⟨by rw [List.length_set]; exact P.len, fun v hv => ?_, fun v d hd => ?_, fun u v k s d hk hw hd => ?_⟩, fun v d hd => ?_, fun a' ha' => ?_⟩
  · rw [hget v]
    split
    · rename_i ev
      rw [← ev, hfl.2]
      rfl
    · exact P.fl v hv
  · rw [hget v] at hd
    split at hd
    · rename_i ev
      subst ev
      cases hd
      rcases e3 with e3 | e3
      · rw [e3]
        exact P.at_ _ _ hbb
      · obtain ⟨u, k, s, hu, hw, hs⟩ := P.at_ _ _ ha
        refine ⟨u, k + 1, s + l.2.2, hu, hw.snoc hl, ?_⟩
        rw [worth_cons, e3, ← hs]
    · exact P.at_ v d hd
  · rw [hget v] at hd
    split at hd
    · rename_i ev
      subst ev
      cases hd
      exact Int.le_trans e1 (P.le u _ k s b hk hw hbb)
    · exact P.le u v k s d hk hw hd
  · rw [hget v]
    split
    · rename_i ev
      subst ev
      rw [hbb] at hd
      cases hd
      exact ⟨e, e1, rfl⟩
    · exact ⟨d, Int.le_refl _, hd⟩
  · rw [ha] at ha'
    cases ha'
    refine ⟨e, e2, ?_⟩
    rw [hget, if_pos rfl]
theorem fold_ok {j : Nat} : ∀ (s2 : List Les) (ds : List (Option Int)), (∀ l ∈ s2, l ∈ ss) → (∀ l ∈ ss, (l.1 < n ∧ l.2.1 < n) ∧ fl.getD l.1 false = true ∧ fl.getD l.2.1 false = true) → PotOk n fl ss top bot j ds →
    PotOk n fl ss top bot j (s2.foldl (relax top bot) ds) ∧ (∀ v d, ds.getD v none = some d → ∃ e, e ≤ d ∧ (s2.foldl (relax top bot) ds).getD v none = some e) ∧ (∀ l ∈ s2, ∀ a, ds.getD l.1 none = some a → ∃ e, e ≤ a + ((bot * l.2.2 : Nat) : Int) - (top : Int) ∧ (s2.foldl (relax top bot) ds).getD l.2.1 none = some e)
  | [], ds, _, _, P => ⟨P, fun v d h => ⟨d, Int.le_refl _, h⟩, fun l h => nomatch h⟩
  | l :: s2, ds, hs, hb, P => by
    have hl := hs l List.mem_cons_self
    obtain ⟨P1, d1, g1⟩ := relax_ok hl (hb l hl).1 (hb l hl).2 P
    obtain ⟨P2, d2, g2⟩ := fold_ok s2 _ (fun x hx => hs x (List.mem_cons_of_mem _ hx)) hb P1
    rw [List.foldl_cons]
    refine ⟨P2, fun v d h => ?_, fun x hx a ha => ?_⟩
    · obtain ⟨e, he, h1⟩ := d1 v d h
      obtain ⟨e', he', h2⟩ := d2 v e h1
      exact ⟨e', Int.le_trans he' he, h2⟩
    · rcases List.mem_cons.mp hx with rfl | hx
      · obtain ⟨e, he, h1⟩ := g1 a ha
        obtain ⟨e', he', h2⟩ := d2 _ e h1
        exact ⟨e', Int.le_trans he' he, h2⟩
      · obtain ⟨e, he, h1⟩ := d1 _ a ha
        obtain ⟨e', he', h2⟩ := g2 x hx e h1
        exact ⟨e', by omega, h2⟩
theorem wk_fl (hb : ∀ l ∈ ss, (l.1 < n ∧ l.2.1 < n) ∧ fl.getD l.1 false = true ∧ fl.getD l.2.1 false = true) {k u v s : Nat} (h : Wk ss (k + 1) u v s) : u < n ∧ v < n ∧ fl.getD u false = true ∧ fl.getD v false = true := by
  obtain ⟨x, s1, b, _, h2, _⟩ := h.last
  cases h with
  | cons e r => exact ⟨(hb _ e).1.1, (hb _ h2).1.2, (hb _ e).2.1, (hb _ h2).2.2⟩
theorem round_ok {j : Nat} {ds : List (Option Int)} (hb : ∀ l ∈ ss, (l.1 < n ∧ l.2.1 < n) ∧ fl.getD l.1 false = true ∧ fl.getD l.2.1 false = true) (P : PotOk n fl ss top bot j ds) : PotOk n fl ss top bot (j + 1) (potRound top bot ss ds) := by
  obtain ⟨P1, d1, g1⟩ := fold_ok ss ds (fun _ h => h) hb P
  refine ⟨P1.len, P1.fl, P1.at_, fun u v k s d hk hw hd => ?_⟩
  cases k with
  | zero => exact P1.le u v 0 s d (Nat.zero_le _) hw hd
  | succ k =>
    obtain ⟨x, s1, b, h1, h2, es⟩ := hw.last
    have hx := (hb _ h2).2.1
    have hxs := P.fl x (hb _ h2).1.1
    rw [hx] at hxs
    obtain ⟨a, ha⟩ := Option.isSome_iff_exists.mp hxs
    have h3 := P.le u x k s1 a (by omega) h1 ha
    obtain ⟨e, he, h4⟩ := g1 _ h2 a ha
    rw [show (ss.foldl (relax top bot) ds).getD v none = some d from hd] at h4
    cases h4
    have he : d ≤ a + ((bot * b : Nat) : Int) - (top : Int) := he
    rw [es, worth_cons]
    omega
theorem pot0_ok (hl : fl.length = n) : PotOk n fl ss top bot 0 (pot0 fl) := by
  have hg : ∀ v, (pot0 fl).getD v none = if fl.getD v false = true then some 0 else none := by
    intro v
    unfold pot0
    rw [List.getD_eq_getElem?_getD, List.getElem?_map, List.getD_eq_getElem?_getD]
    cases e : fl[v]? with
    | none => rfl
    | some b => rfl
  refine ⟨by unfold pot0; rw [List.length_map]; exact hl, fun v hv => ?_, fun v d hd => ?_, fun u v k s d hk hw hd => ?_⟩
  · rw [hg v]
    cases fl.getD v false <;> rfl
  · rw [hg v] at hd
    split at hd
    · rename_i h
      cases hd
      refine ⟨v, 0, 0, ?_, .nil v, by simp [worth]⟩
      rcases Nat.lt_or_ge v n with h2 | h2
      · exact h2
      · rw [List.getD_eq_getElem?_getD, List.getElem?_eq_none (by omega)] at h
        cases h
    · cases hd
  · have hk : k = 0 := by omega
    subst hk
    cases hw
    rw [hg] at hd
    split at hd
    · cases hd
      simp [worth]
    · cases hd
theorem pots_ok (hl : fl.length = n) (hb : ∀ l ∈ ss, (l.1 < n ∧ l.2.1 < n) ∧ fl.getD l.1 false = true ∧ fl.getD l.2.1 false = true) : PotOk n fl ss top bot n (pots fl ss top bot) := by
  have key : ∀ j, PotOk n fl ss top bot j (potRounds top bot ss (pot0 fl) j) := by
    intro j
    induction j with
    | zero => exact pot0_ok hl
    | succ j ih => exact round_ok hb ih
  unfold pots
  rw [hl]
  exact key n
/-- no lesson undercuts them -/
theorem pots_law (hl : fl.length = n) (hb : ∀ l ∈ ss, (l.1 < n ∧ l.2.1 < n) ∧ fl.getD l.1 false = true ∧ fl.getD l.2.1 false = true) (hr : NoLess n ss top bot) {l : Les} (h : l ∈ ss) {a b : Int} (ha : (pots fl ss top bot).getD l.1 none = some a) (hbb : (pots fl ss top bot).getD l.2.1 none = some b) :
    b ≤ a + ((bot * l.2.2 : Nat) : Int) - (top : Int) := by
  have P := pots_ok (top := top) (bot := bot) hl hb
  obtain ⟨u, k, s, hu, hw, hs⟩ := P.at_ _ _ ha
  have hw2 := hw.snoc (v := l.2.1) (b := l.2.2) h
  obtain ⟨k', s', h2, hk, h3⟩ := hw2.short (fun l hl => (hb l hl).1) hr hu
  have h4 := P.le u _ k' s' b (by omega) h2 hbb
  rw [hs, ← worth_cons]
  unfold worth at *
  omega
/-- along a walk -/
theorem pots_walk (hl : fl.length = n) (hb : ∀ l ∈ ss, (l.1 < n ∧ l.2.1 < n) ∧ fl.getD l.1 false = true ∧ fl.getD l.2.1 false = true) (hr : NoLess n ss top bot) : ∀ {k u v s : Nat}, Wk ss k u v s → ∀ {a b : Int}, (pots fl ss top bot).getD u none = some a → (pots fl ss top bot).getD v none = some b → b ≤ a + worth top bot k s
  | 0, u, v, s, h, a, b, ha, hbb => by
    cases h
    rw [ha] at hbb
    cases hbb
    simp [worth]
  | k + 1, u, v, s, h, a, b, ha, hbb => by
    obtain ⟨x, s1, c, h1, h2, es⟩ := h.last
    have P := pots_ok (top := top) (bot := bot) hl hb
    have hxs := P.fl x (hb _ h2).1.1
    rw [(hb _ h2).2.1] at hxs
    obtain ⟨d, hd⟩ := Option.isSome_iff_exists.mp hxs
    have i1 := pots_walk hl hb hr h1 ha hd
    have i2 : b ≤ d + ((bot * c : Nat) : Int) - (top : Int) := pots_law hl hb hr h2 hd hbb
    rw [es, worth_cons]
    omega
end
end Cr
/-! Rows of least lengths. -/
namespace Cr
/-- the row tells the least of what R says -/
def IsRow (n : Nat) (R : Nat → Nat → Prop) (row : Row) : Prop := row.length = n ∧ ∀ v, v < n → (∀ d, row.getD v none = some d → R v d) ∧ ∀ d, R v d → ∃ e, e ≤ d ∧ row.getD v none = some e
theorem IsRow.congr {n : Nat} {R S : Nat → Nat → Prop} {row : Row} (h : IsRow n R row) (e : ∀ v d, v < n → (R v d ↔ S v d)) : IsRow n S row :=
  ⟨h.1, fun v hv => ⟨fun d q => (e v d hv).mp ((h.2 v hv).1 d q), fun d q => (h.2 v hv).2 d ((e v d hv).mpr q)⟩⟩
theorem lesser_some {a b : Option Nat} {d : Nat} (h : lesser a b = some d) : a = some d ∨ b = some d := by
  cases a with
  | none => exact .inr h
  | some x =>
    cases b with
    | none => exact .inl h
    | some y =>
      unfold lesser at h
      dsimp only at h
      split at h
      · exact .inr h
      · exact .inl h
theorem lesser_le1 {a b : Option Nat} {d : Nat} (h : a = some d) : ∃ e, e ≤ d ∧ lesser a b = some e := by
  subst h
  cases b with
  | none => exact ⟨d, Nat.le_refl _, rfl⟩
  | some y =>
    by_cases hc : y < d
    · exact ⟨y, Nat.le_of_lt hc, by unfold lesser; dsimp only; rw [if_pos hc]⟩
    · exact ⟨d, Nat.le_refl _, by unfold lesser; dsimp only; rw [if_neg hc]⟩
theorem lesser_le2 {a b : Option Nat} {d : Nat} (h : b = some d) : ∃ e, e ≤ d ∧ lesser a b = some e := by
  subst h
  cases a with
  | none => exact ⟨d, Nat.le_refl _, rfl⟩
  | some y =>
    by_cases hc : d < y
    · exact ⟨d, Nat.le_refl _, by unfold lesser; dsimp only; rw [if_pos hc]⟩
    · exact ⟨y, by omega, by unfold lesser; dsimp only; rw [if_neg hc]⟩
theorem foldMin {α : Type} (g : α → Option Nat) : ∀ (xs : List α) (init : Option Nat),
    (∀ d, xs.foldl (fun best i => lesser best (g i)) init = some d → init = some d ∨ ∃ i ∈ xs, g i = some d) ∧ (∀ d, (init = some d ∨ ∃ i ∈ xs, g i = some d) → ∃ e, e ≤ d ∧ xs.foldl (fun best i => lesser best (g i)) init = some e)
  | [], init => ⟨fun d h => .inl h, fun d h => by
    rcases h with h | ⟨i, hi, _⟩
    · exact ⟨d, Nat.le_refl _, h⟩
    · cases hi⟩
  | x :: xs, init => by
    obtain ⟨h1, h2⟩ := foldMin g xs (lesser init (g x))
    rw [List.foldl_cons]
    constructor
    · intro d h
      rcases h1 d h with h | ⟨i, hi, hg⟩
      · rcases lesser_some h with h | h
        · exact .inl h
        · exact .inr ⟨x, List.mem_cons_self, h⟩
      · exact .inr ⟨i, List.mem_cons_of_mem _ hi, hg⟩
    · intro d h
      have key : ∃ e, e ≤ d ∧ (lesser init (g x) = some e ∨ ∃ i ∈ xs, g i = some e) := by
        rcases h with h | ⟨i, hi, hg⟩
        · obtain ⟨e, he, hh⟩ := lesser_le1 (b := g x) h
          exact ⟨e, he, .inl hh⟩
        · rcases List.mem_cons.mp hi with rfl | hi
          · obtain ⟨e, he, hh⟩ := lesser_le2 (a := init) hg
            exact ⟨e, he, .inl hh⟩
          · exact ⟨d, Nat.le_refl _, .inr ⟨i, hi, hg⟩⟩
      obtain ⟨e, he, hk⟩ := key
      obtain ⟨e', he', hh⟩ := h2 e hk
      exact ⟨e', Nat.le_trans he' he, hh⟩
theorem lsum_some {a b : Option Nat} {d : Nat} (h : lsum a b = some d) : ∃ x y, a = some x ∧ b = some y ∧ d = x + y := by
  cases a with
  | none => cases h
  | some x =>
    cases b with
    | none => cases h
    | some y =>
      cases h
      exact ⟨x, y, rfl, rfl, rfl⟩
theorem rowMat_at {row : Row} {m : List Row} {v : Nat} (hv : v < row.length) : (rowMat row m).getD v none = (List.range row.length).foldl (fun best i => lesser best (lsum (row.getD i none) ((m.getD i []).getD v none))) none := by
  unfold rowMat
  rw [List.getD_eq_getElem?_getD, List.getElem?_map, List.getElem?_range hv]
  rfl
theorem rowMat_is {n : Nat} {R : Nat → Nat → Prop} {M : Nat → Nat → Nat → Prop} {row : Row} {m : List Row} (h : IsRow n R row) (hm : ∀ u, u < n → IsRow n (M u) (m.getD u [])) : IsRow n (fun v s => ∃ u s1 s2, u < n ∧ R u s1 ∧ M u v s2 ∧ s = s1 + s2) (rowMat row m) := by
  refine ⟨by rw [rowMat_len]; exact h.1, fun v hv => ?_⟩
  rw [rowMat_at (by rw [h.1]; exact hv), h.1]
  obtain ⟨f1, f2⟩ := foldMin (fun i => lsum (row.getD i none) ((m.getD i []).getD v none)) (List.range n) none
  constructor
  · intro d hd
    rcases f1 d hd with z | ⟨u, hu, hs⟩
    · cases z
    · have hu := List.mem_range.mp hu
      obtain ⟨x, y, e1, e2, e3⟩ := lsum_some hs
      exact ⟨u, x, y, hu, (h.2 u hu).1 x e1, ((hm u hu).2 v hv).1 y e2, e3⟩
  · rintro d ⟨u, s1, s2, hu, hR, hM, e⟩
    obtain ⟨x, hx, ex⟩ := (h.2 u hu).2 s1 hR
    obtain ⟨y, hy, ey⟩ := ((hm u hu).2 v hv).2 s2 hM
    obtain ⟨e', he', hh⟩ := f2 (x + y) (.inr ⟨u, List.mem_range.mpr hu, by rw [ex, ey]; rfl⟩)
    exact ⟨e', by omega, hh⟩
/-! the matrix of the lessons -/
theorem getD_nil {α : Type} (v : Nat) (d : α) : ([] : List α).getD v d = d := by
  rw [List.getD_eq_getElem?_getD]
  rfl
theorem matrix0_at (n u v : Nat) : ((matrix0 n).getD u []).getD v none = none := by
  unfold matrix0
  have e : (List.replicate n (List.replicate n (none : Option Nat))).getD u [] = if u < n then List.replicate n none else [] := by
    rw [List.getD_eq_getElem?_getD, List.getElem?_replicate]
    split <;> rfl
  rw [e]
  split
  · rw [List.getD_eq_getElem?_getD, List.getElem?_replicate]
    split <;> rfl
  · exact getD_nil v _
theorem putM_at {n : Nat} {m : List Row} {l : Les} (hm : m.length = n ∧ ∀ r ∈ m, r.length = n) (hl : l.1 < n ∧ l.2.1 < n) (u v : Nat) : ((putM m l).getD u []).getD v none = if l.1 = u ∧ l.2.1 = v then some l.2.2 else (m.getD u []).getD v none := by
  unfold putM
  rw [getD_set]
  have hr : (m.getD l.1 []).length = n := by
    rw [List.getD_eq_getElem?_getD, List.getElem?_eq_getElem (by rw [hm.1]; exact hl.1)]
    exact hm.2 _ (List.getElem_mem _)
  by_cases e : l.1 = u
  · subst e
    rw [if_pos ⟨rfl, by rw [hm.1]; exact hl.1⟩, getD_set]
    by_cases e2 : l.2.1 = v
    · subst e2
      rw [if_pos ⟨rfl, by rw [hr]; exact hl.2⟩, if_pos ⟨rfl, rfl⟩]
    · rw [if_neg (fun z => e2 z.1), if_neg (fun z => e2 z.2)]
  · rw [if_neg (fun z => e z.1), if_neg (fun z => e z.1)]
theorem foldM_at {n : Nat} : ∀ (ls : List Les) (m : List Row), (m.length = n ∧ ∀ r ∈ m, r.length = n) → (∀ l ∈ ls, l.1 < n ∧ l.2.1 < n) → (ls.map fun l => (l.1, l.2.1)).Nodup → ∀ u v d,
    ((ls.foldl putM m).getD u []).getD v none = some d ↔ ((u, v, d) ∈ ls ∨ ((∀ l ∈ ls, ¬ (l.1 = u ∧ l.2.1 = v)) ∧ (m.getD u []).getD v none = some d))
  | [], m, _, _, _, u, v, d => by simp
  | l :: ls, m, hm, hl, nd, u, v, d => by
    rw [List.foldl_cons, foldM_at ls (putM m l) (putM_ok hm (hl l List.mem_cons_self).1) (fun x hx => hl x (List.mem_cons_of_mem _ hx)) (List.nodup_cons.mp nd).2, putM_at hm (hl l List.mem_cons_self)]
    have hnot := (List.nodup_cons.mp nd).1
    constructor
    · rintro (h | ⟨h1, h2⟩)
      · exact .inl (List.mem_cons_of_mem _ h)
      · split at h2
        · rename_i hc
          left
          have : l = (u, v, d) := by
            obtain ⟨a, b, c⟩ := l
            cases h2
            obtain ⟨c1, c2⟩ := hc
            cases c1
            cases c2
            rfl
          rw [this]
          exact List.mem_cons_self
        · rename_i hc
          refine .inr ⟨fun x hx => ?_, h2⟩
          rcases List.mem_cons.mp hx with rfl | hx
          · exact hc
          · exact h1 x hx
    · rintro (h | ⟨h1, h2⟩)
      · rcases List.mem_cons.mp h with h | h
        · subst h
          right
          refine ⟨fun x hx hc => hnot (List.mem_map.mpr ⟨x, hx, ?_⟩), if_pos ⟨rfl, rfl⟩⟩
          rw [hc.1, hc.2]
        · exact .inl h
      · refine .inr ⟨fun x hx => h1 x (List.mem_cons_of_mem _ hx), ?_⟩
        rw [if_neg (h1 l List.mem_cons_self)]
        exact h2
theorem lessonM_is {n : Nat} {ls : List Les} (hl : ∀ l ∈ ls, l.1 < n ∧ l.2.1 < n) (nd : (ls.map fun l => (l.1, l.2.1)).Nodup) (u : Nat) (hu : u < n) : IsRow n (fun v s => Wk ls 1 u v s) ((lessonM n ls).getD u []) := by
  have hok := lessonM_ok (n := n) (ls := ls) fun l h => (hl l h).1
  have key : ∀ v d, ((lessonM n ls).getD u []).getD v none = some d ↔ (u, v, d) ∈ ls := by
    intro v d
    unfold lessonM
    rw [foldM_at ls (matrix0 n) (matrix0_ok n) hl nd, matrix0_at]
    simp
  refine ⟨?_, fun v hv => ⟨fun d h => ?_, fun d h => ?_⟩⟩
  · rw [List.getD_eq_getElem?_getD, List.getElem?_eq_getElem (by rw [hok.1]; exact hu)]
    exact hok.2 _ (List.getElem_mem _)
  · exact .cons ((key v d).mp h) (.nil v)
  · cases h with
    | cons e r =>
      cases r
      exact ⟨_, Nat.le_refl _, (key v _).mpr e⟩
theorem matSq_at (m : List Row) (u : Nat) (hu : u < m.length) : (matSq m).getD u [] = rowMat (m.getD u []) m := by
  unfold matSq
  rw [List.getD_eq_getElem?_getD, List.getElem?_map, List.getElem?_eq_getElem hu, List.getD_eq_getElem?_getD, List.getElem?_eq_getElem hu]
  rfl
/-- walks of j lessons from one of the founded -/
def Fr (ls : List Les) (fo : List Nat) (j v s : Nat) : Prop := ∃ u ∈ fo, Wk ls j u v s
theorem row0_is (n : Nat) (ls : List Les) (fo : List Nat) : IsRow n (Fr ls fo 0) (row0 n fo) := by
  refine ⟨row0_len n fo, fun v hv => ?_⟩
  have e : (row0 n fo).getD v none = if v ∈ fo then some 0 else none := by
    unfold row0
    rw [List.getD_eq_getElem?_getD, List.getElem?_map, List.getElem?_range hv]
    rfl
  rw [e]
  constructor
  · intro d hd
    split at hd
    · rename_i hf
      cases hd
      exact ⟨v, hf, .nil v⟩
    · cases hd
  · rintro d ⟨u, hu, h⟩
    cases h
    exact ⟨0, Nat.le_refl _, if_pos hu⟩
section
variable {n : Nat} {ls : List Les} {fo : List Nat}
theorem powRow_is (hl : ∀ l ∈ ls, l.1 < n ∧ l.2.1 < n) (hf : ∀ u ∈ fo, u < n) : ∀ (k rest j w : Nat) (row : Row) (m : List Row), rest < k → IsRow n (Fr ls fo j) row → (m.length = n ∧ ∀ u, u < n → IsRow n (fun v s => Wk ls w u v s) (m.getD u [])) → IsRow n (Fr ls fo (j + rest * w)) (powRow k row m rest)
  | 0, rest, j, w, row, m, h, _, _ => by omega
  | k + 1, rest, j, w, row, m, h, hr, hm => by
    unfold powRow
    split
    · rename_i h0
      subst h0
      rw [Nat.zero_mul]
      exact hr
    · rename_i h0
      have hlt : rest / 2 < k := by omega
      have hrow : IsRow n (Fr ls fo (j + rest % 2 * w)) (if rest % 2 = 1 then rowMat row m else row) := by
        split
        · rename_i h1
          rw [h1, Nat.one_mul]
          refine (rowMat_is hr hm.2).congr fun v d hv => ⟨?_, ?_⟩
          · rintro ⟨u, s1, s2, hu, ⟨a, ha, h2⟩, h3, e⟩
            exact ⟨a, ha, by rw [e]; exact h3.comp h2⟩
          · rintro ⟨a, ha, h2⟩
            obtain ⟨x, s1, s2, g1, g2, e⟩ := h2.split
            exact ⟨x, s1, s2, g1.lt hl (hf a ha), ⟨a, ha, g1⟩, g2, e⟩
        · rename_i h1
          have : rest % 2 = 0 := by omega
          rw [this, Nat.zero_mul]
          exact hr
      by_cases h2 : rest / 2 = 0
      · have e1 : rest = 1 := by omega
        subst e1
        rw [if_pos h2]
        have ih := powRow_is hl hf k (1 / 2) (j + 1 % 2 * w) w _ m hlt hrow hm
        have e3 : j + 1 % 2 * w + 1 / 2 * w = j + 1 * w := by simp
        rw [e3] at ih
        exact ih
      · rw [if_neg h2]
        have hsq : (matSq m).length = n ∧ ∀ u, u < n → IsRow n (fun v s => Wk ls (w + w) u v s) ((matSq m).getD u []) := by
          refine ⟨by unfold matSq; rw [List.length_map]; exact hm.1, fun u hu => ?_⟩
          rw [matSq_at m u (by rw [hm.1]; exact hu)]
          refine (rowMat_is (hm.2 u hu) hm.2).congr fun v d hv => ⟨?_, ?_⟩
          · rintro ⟨x, s1, s2, hx, g1, g2, e⟩
            rw [e]
            exact g2.comp g1
          · intro g
            obtain ⟨x, s1, s2, g1, g2, e⟩ := g.split
            exact ⟨x, s1, s2, g1.lt hl hu, g1, g2, e⟩
        have ih := powRow_is hl hf k (rest / 2) (j + rest % 2 * w) (w + w) _ _ hlt hrow hsq
        have e3 : j + rest % 2 * w + rest / 2 * (w + w) = j + rest * w := by
          have e4 : rest * w = (rest % 2 + rest / 2 * 2) * w := by
            congr 1
            omega
          rw [e4, Nat.add_mul, Nat.mul_assoc (rest / 2) 2 w]
          have e5 : 2 * w = w + w := by omega
          rw [e5]
          omega
        rw [e3] at ih
        exact ih
theorem depthRow_is (hl : ∀ l ∈ ls, l.1 < n ∧ l.2.1 < n) (hf : ∀ u ∈ fo, u < n) (nd : (ls.map fun l => (l.1, l.2.1)).Nodup) (g : Nat) : IsRow n (Fr ls fo g) (depthRow n ls fo g) := by
  have h := powRow_is hl hf (g + 1) g 0 1 (row0 n fo) (lessonM n ls) (Nat.lt_succ_self g) (row0_is n ls fo) ⟨(lessonM_ok fun l h => (hl l h).1).1, fun u hu => lessonM_is hl nd u hu⟩
  rw [Nat.zero_add, Nat.mul_one] at h
  exact h
/-! the row of the next generation -/
theorem afterStep_at {row acc : Row} {l : Les} (hl : l.2.1 < acc.length) (v : Nat) : (afterStep row acc l).getD v none = if l.2.1 = v then lesser (acc.getD v none) (lsum (row.getD l.1 none) (some l.2.2)) else acc.getD v none := by
  unfold afterStep
  by_cases e : l.2.1 = v
  · subst e
    rw [if_pos rfl]
    cases h1 : row.getD l.1 none with
    | none => cases acc.getD l.2.1 none <;> rfl
    | some d =>
      dsimp only
      cases h2 : acc.getD l.2.1 none with
      | none =>
        dsimp only
        rw [getD_set, if_pos ⟨rfl, hl⟩]
        rfl
      | some x =>
        dsimp only
        have e3 : lesser (some x) (lsum (some d) (some l.2.2)) = some (if d + l.2.2 < x then d + l.2.2 else x) := rfl
        rw [e3]
        split
        · rw [getD_set, if_pos ⟨rfl, hl⟩]
        · exact h2
  · rw [if_neg e]
    cases h1 : row.getD l.1 none with
    | none => rfl
    | some d =>
      dsimp only
      cases h2 : acc.getD l.2.1 none with
      | none =>
        dsimp only
        rw [getD_set, if_neg (fun z => e z.1)]
      | some x =>
        dsimp only
        split
        · rw [getD_set, if_neg (fun z => e z.1)]
        · rfl
theorem foldA_at {row : Row} : ∀ (ls : List Les) (acc : Row), (∀ l ∈ ls, l.2.1 < acc.length) → ∀ v, (ls.foldl (afterStep row) acc).getD v none = (ls.filter fun l => decide (l.2.1 = v)).foldl (fun best l => lesser best (lsum (row.getD l.1 none) (some l.2.2))) (acc.getD v none)
  | [], _, _, _ => rfl
  | l :: ls, acc, h, v => by
    rw [List.foldl_cons, foldA_at ls _ (fun x hx => by rw [afterStep_len]; exact h x (List.mem_cons_of_mem _ hx)), afterStep_at (h l List.mem_cons_self), List.filter_cons]
    by_cases e : l.2.1 = v
    · rw [if_pos e, if_pos (decide_eq_true e), List.foldl_cons]
    · rw [if_neg e, if_neg (by simpa using e)]
theorem afterRow_is {R : Nat → Nat → Prop} {row : Row} (hl : ∀ l ∈ ls, l.1 < n ∧ l.2.1 < n) (h : IsRow n R row) : IsRow n (fun v s => ∃ u s1 b, u < n ∧ R u s1 ∧ (u, v, b) ∈ ls ∧ s = s1 + b) (afterRow ls row) := by
  refine ⟨by rw [afterRow_len]; exact h.1, fun v hv => ?_⟩
  have e0 : (row.map fun _ => (none : Option Nat)).getD v none = none := by
    rw [List.getD_eq_getElem?_getD, List.getElem?_map]
    cases row[v]? <;> rfl
  unfold afterRow
  rw [foldA_at ls _ (fun l hx => by rw [List.length_map, h.1]; exact (hl l hx).2), e0]
  obtain ⟨f1, f2⟩ := foldMin (fun l : Les => lsum (row.getD l.1 none) (some l.2.2)) (ls.filter fun l => decide (l.2.1 = v)) none
  constructor
  · intro d hd
    rcases f1 d hd with z | ⟨l, hx, hs⟩
    · cases z
    · obtain ⟨hx1, hx2⟩ := List.mem_filter.mp hx
      have hx2 := of_decide_eq_true hx2
      obtain ⟨x, y, e1, e2, e3⟩ := lsum_some hs
      cases e2
      exact ⟨l.1, x, l.2.2, (hl l hx1).1, (h.2 _ (hl l hx1).1).1 x e1, by rw [← hx2]; exact hx1, e3⟩
  · rintro d ⟨u, s1, b, hu, hR, hM, e⟩
    obtain ⟨x, hx, ex⟩ := (h.2 u hu).2 s1 hR
    obtain ⟨e', he', hh⟩ := f2 (x + b) (.inr ⟨(u, v, b), List.mem_filter.mpr ⟨hM, decide_eq_true rfl⟩, by
      show lsum (row.getD u none) (some b) = _
      rw [ex]
      rfl⟩)
    exact ⟨e', by omega, hh⟩
theorem iterRow_is (hl : ∀ l ∈ ls, l.1 < n ∧ l.2.1 < n) (hf : ∀ u ∈ fo, u < n) : ∀ k, IsRow n (Fr ls fo k) (iterRow ls (row0 n fo) k)
  | 0 => row0_is n ls fo
  | k + 1 => by
    refine (afterRow_is hl (iterRow_is hl hf k)).congr fun v d hv => ⟨?_, ?_⟩
    · rintro ⟨u, s1, b, hu, ⟨a, ha, h⟩, e, es⟩
      exact ⟨a, ha, by rw [es]; exact h.snoc e⟩
    · rintro ⟨a, ha, h⟩
      obtain ⟨x, s1, b, h1, h2, es⟩ := h.last
      exact ⟨x, s1, b, (hl _ h2).1, ⟨a, ha, h1⟩, h2, es⟩
/-- the law's way -/
def wayTo (ls : List Les) (row : Row) (place : Nat) : Nat → Nat → Option (Nat × Nat)
  | 0, _ => none
  | fuel + 1, t => match (iterRow ls row t).getD place none with
    | some s => some (t, s)
    | none => wayTo ls row place fuel (t + 1)
theorem wayTo_some {ls : List Les} {row : Row} {place : Nat} : ∀ {fuel t : Nat} {r : Nat × Nat}, wayTo ls row place fuel t = some r → (iterRow ls row r.1).getD place none = some r.2 ∧ r.1 < t + fuel
  | 0, _, _, h => nomatch h
  | fuel + 1, t, r, h => by
    unfold wayTo at h
    split at h
    · rename_i s hs
      cases h
      exact ⟨hs, by show t < _; omega⟩
    · obtain ⟨h1, h2⟩ := wayTo_some h
      exact ⟨h1, by omega⟩
theorem wayTo_ex {ls : List Les} {row : Row} {place : Nat} : ∀ {fuel t j : Nat} {s : Nat}, t ≤ j → j < t + fuel → (iterRow ls row j).getD place none = some s → ∃ r, wayTo ls row place fuel t = some r
  | 0, t, j, s, h1, h2, _ => by omega
  | fuel + 1, t, j, s, h1, h2, hs => by
    unfold wayTo
    split
    · exact ⟨_, rfl⟩
    · rename_i hn
      have : t ≠ j := by
        intro z
        subst z
        rw [hs] at hn
        cases hn
      exact wayTo_ex (t := t + 1) (by omega) (by omega) hs
theorem way_ok (hl : ∀ l ∈ ls, l.1 < n ∧ l.2.1 < n) (hf : ∀ u ∈ fo, u < n) {place : Nat} (hp : place < n) (h : Fil ls fo place) : ∃ r : Nat × Nat, wayTo ls (row0 n fo) place (n + 1) 0 = some r ∧ Fr ls fo r.1 place r.2 ∧ r.1 ≤ n := by
  obtain ⟨u, hu, k, s, hw⟩ := h
  obtain ⟨k', s', h2, hk, _⟩ := hw.short hl (noLess0 n ls) (hf u hu)
  obtain ⟨e, _, he⟩ := ((iterRow_is hl hf k').2 place hp).2 s' ⟨u, hu, h2⟩
  obtain ⟨r, hr⟩ := wayTo_ex (fuel := n + 1) (t := 0) (j := k') (Nat.zero_le _) (by omega) he
  obtain ⟨h3, h4⟩ := wayTo_some hr
  exact ⟨r, hr, ((iterRow_is hl hf r.1).2 place hp).1 _ h3, by omega⟩
end
end Cr
/-! What the told pace is. -/
namespace Cr
open PySem PySem.Spec L2 Fw
theorem Pa.bd {ls : List Les} (h : ∀ l ∈ ls, l.2.2 ≤ 99) : ∀ {p : List Nat} {s : Nat}, Pa ls p s → s + 99 ≤ 99 * p.length
  | _, _, .one x => by simp
  | _, _, .cons (b := b) e r => by
    have h1 : b ≤ 99 := h _ e
    have h2 := Pa.bd h r
    simp only [List.length_cons] at h2 ⊢
    omega
def Cu.inn (c : Cu) (i : Nat) : List Les := innerF (c.flags i) c.les
theorem inn_mem {c : Cu} {i : Nat} {l : Les} : l ∈ c.inn i ↔ l ∈ c.les ∧ (c.flags i).getD l.1 false = true ∧ (c.flags i).getD l.2.1 false = true := by
  unfold Cu.inn innerF
  rw [List.mem_filter, Bool.and_eq_true]
theorem ss_inn {c : Cu} {i : Nat} {l : Les} : l ∈ c.ss (c.flags i) ↔ l ∈ c.inn i := by
  rw [ss_mem, inn_mem]
theorem lb2 {c : Cu} (g : c.Good) : ∀ l ∈ c.les, l.1 < c.n ∧ l.2.1 < c.n := fun l h => ⟨(g.lb l h).1, (g.lb l h).2.1⟩
theorem ss_lb {c : Cu} (g : c.Good) (i : Nat) : ∀ l ∈ c.ss (c.flags i), (l.1 < c.n ∧ l.2.1 < c.n) ∧ (c.flags i).getD l.1 false = true ∧ (c.flags i).getD l.2.1 false = true := fun l h =>
  have h2 := inn_mem.mp (ss_inn.mp h)
  ⟨lb2 g l h2.1, h2.2⟩
theorem isRg_ss {c : Cu} {i : Nat} {r : Ring} : IsRg c.n (c.ss (c.flags i)) r ↔ IsRg c.n (c.inn i) r := ⟨.mono fun _ h => ss_inn.mp h, .mono fun _ h => ss_inn.mpr h⟩
/-- what holds of the told pace of the ring r -/
structure Told (c : Cu) (i : Nat) (r : Ring) (top bot : Nat) (ps : List (Option Int)) : Prop where
  rg : IsRg c.n (c.inn i) r
  mean : r.2 * bot = top * r.1.length
  b1 : 1 ≤ bot
  b6 : bot ≤ 6
  t6 : top ≤ 594
  r6 : r.2 ≤ 594
  less : NoLess c.n (c.inn i) top bot
  len : ps.length = c.n
  fl : ∀ v, v < c.n → ((ps.getD v none).isSome = (c.flags i).getD v false)
  law : ∀ l, l ∈ c.inn i → ∀ a b : Int, ps.getD l.1 none = some a → ps.getD l.2.1 none = some b → b ≤ a + ((bot * l.2.2 : Nat) : Int) - (top : Int)
  walk : ∀ k u v s, Wk (c.inn i) k u v s → ∀ a b : Int, ps.getD u none = some a → ps.getD v none = some b → b ≤ a + worth top bot k s
def topOf (r : Ring) : Nat := r.2 / Nat.gcd r.2 r.1.length
def botOf (r : Ring) : Nat := r.1.length / Nat.gcd r.2 r.1.length
theorem rg_bd {c : Cu} (g : c.Good) {i : Nat} {r : Ring} (h : IsRg c.n (c.inn i) r) : r.2 ≤ 594 ∧ r.1.length ≤ 6 ∧ 0 < r.1.length := by
  obtain ⟨f, m, e1, hf, hl, nd, hm, hp⟩ := h
  have h2 := hp.bd fun l hl => (g.lb l (inn_mem.mp hl).1).2.2
  have hn : c.n ≤ 6 := g.n6
  rw [e1]
  simp only [List.length_cons, List.length_append, List.length_nil] at h2 hl ⊢
  omega
theorem told_ok {c : Cu} (g : c.Good) {i : Nat} (hi : i < c.n) {r : Ring} (h : c.best i = some r) : Told c i r (topOf r) (botOf r) (pots (c.flags i) (c.ss (c.flags i)) ((topOf r : Nat) : Int) ((botOf r : Nat) : Int)) := by
  have hm := leastR_min (ringsP c.n (c.ss (c.flags i))) fun r hr => (ringsP_iff.mp hr).pos
  have h' : leastR (ringsP c.n (c.ss (c.flags i))) = some r := h
  rw [h'] at hm
  obtain ⟨hr, hmin⟩ := hm
  have hrs := ringsP_iff.mp hr
  have hri := isRg_ss.mp hrs
  obtain ⟨b1, b2, b3⟩ := rg_bd g hri
  have hg : 0 < Nat.gcd r.2 r.1.length := Nat.gcd_pos_of_pos_right _ b3
  have e1 : r.2 = Nat.gcd r.2 r.1.length * topOf r := (Nat.mul_div_cancel' (Nat.gcd_dvd_left ..)).symm
  have e2 : r.1.length = Nat.gcd r.2 r.1.length * botOf r := (Nat.mul_div_cancel' (Nat.gcd_dvd_right ..)).symm
  have hmean : r.2 * botOf r = topOf r * r.1.length := by
    generalize Nat.gcd r.2 r.1.length = G at e1 e2
    generalize topOf r = t at *
    generalize botOf r = b at *
    rw [e1, e2, Nat.mul_comm G t, Nat.mul_assoc]
  have less : NoLess c.n (c.ss (c.flags i)) (topOf r) (botOf r) := fun q hq => by
    have h1 := hmin q (ringsP_iff.mpr hq)
    generalize Nat.gcd r.2 r.1.length = G at e1 e2 hg
    generalize topOf r = t at *
    generalize botOf r = b at *
    rw [e1, e2, Nat.mul_assoc, Nat.mul_left_comm q.2] at h1
    have h2 := Nat.le_of_mul_le_mul_left h1 hg
    rw [Nat.mul_comm b]
    exact h2
  have hfl : (c.flags i).length = c.n := flags_len c i
  have P := pots_ok (top := topOf r) (bot := botOf r) hfl (ss_lb g i)
  refine ⟨hri, hmean, ?_, ?_, ?_, b1, fun q hq => less q (isRg_ss.mpr hq), P.len, P.fl, fun l hl a b ha hb => pots_law hfl (ss_lb g i) less (ss_inn.mpr hl) ha hb, fun k u v s hw a b ha hb => pots_walk hfl (ss_lb g i) less (hw.mono fun _ h => ss_inn.mpr h) ha hb⟩
  · exact Nat.div_pos (Nat.le_of_dvd b3 (Nat.gcd_dvd_right ..)) hg
  · exact Nat.le_trans (Nat.div_le_self ..) b2
  · exact Nat.le_trans (Nat.div_le_self ..) b1
/-- the law's best ring -/
def Cu.bestL (c : Cu) (i : Nat) : Option Ring := leastR (ringsL c.n (c.inn i))
theorem best_none {c : Cu} {i : Nat} : c.bestL i = none ↔ c.best i = none := by
  have h1 := leastR_min (ringsL c.n (c.inn i)) fun r hr => (ringsL_iff.mp hr).pos
  have h2 := leastR_min (ringsP c.n (c.ss (c.flags i))) fun r hr => (ringsP_iff.mp hr).pos
  unfold Cu.bestL Cu.best
  constructor
  · intro e
    rw [e] at h1
    have h1 : ringsL c.n (c.inn i) = [] := h1
    cases e2 : leastR (ringsP c.n (c.ss (c.flags i))) with
    | none => rfl
    | some r =>
      rw [e2] at h2
      have h3 := ringsL_iff.mpr (isRg_ss.mp (ringsP_iff.mp h2.1))
      rw [h1] at h3
      cases h3
  · intro e
    rw [e] at h2
    have h2 : ringsP c.n (c.ss (c.flags i)) = [] := h2
    cases e2 : leastR (ringsL c.n (c.inn i)) with
    | none => rfl
    | some r =>
      rw [e2] at h1
      have h3 := ringsP_iff.mpr (isRg_ss.mpr (ringsL_iff.mp h1.1))
      rw [h2] at h3
      cases h3
theorem best_lowest {c : Cu} (g : c.Good) {i : Nat} {r q : Ring} (h : c.best i = some r) (hq : c.bestL i = some q) : q.2 / Nat.gcd q.1.length q.2 = topOf r ∧ q.1.length / Nat.gcd q.1.length q.2 = botOf r ∧ q.2 ≤ 594 ∧ q.1.length ≤ 6 ∧ 0 < q.1.length := by
  have h1 := leastR_min (ringsL c.n (c.inn i)) fun r hr => (ringsL_iff.mp hr).pos
  have h2 := leastR_min (ringsP c.n (c.ss (c.flags i))) fun r hr => (ringsP_iff.mp hr).pos
  have h' : leastR (ringsP c.n (c.ss (c.flags i))) = some r := h
  have hq' : leastR (ringsL c.n (c.inn i)) = some q := hq
  rw [hq'] at h1
  rw [h'] at h2
  have r1 := isRg_ss.mp (ringsP_iff.mp h2.1)
  have q1 := ringsL_iff.mp h1.1
  have a1 := h1.2 r (ringsL_iff.mpr r1)
  have a2 := h2.2 q (ringsP_iff.mpr (isRg_ss.mpr q1))
  obtain ⟨c1, c2, c3⟩ := rg_bd g q1
  have e := lowest_eq (a := q.2) (b := q.1.length) (c := r.2) (d := r.1.length) q1.pos r1.pos (by omega)
  rw [Nat.gcd_comm q.1.length]
  exact ⟨e.1, e.2, c1, c2, c3⟩
/-! the depths -/
theorem depth_is {c : Cu} (g : c.Good) (t : Nat) : IsRow c.n (Fr c.les c.fo t) (depthRow c.n c.les c.fo t) := depthRow_is (lb2 g) g.fb g.ln t
theorem flags_iff {c : Cu} (g : c.Good) {i : Nat} (hi : i < c.n) (x : Nat) : (c.flags i).getD x false = true ↔ x < c.n ∧ Fil c.les c.fo x ∧ Lea c.les i x := useful_iff (lb2 g) g.fb hi x
theorem fr_inner {c : Cu} (g : c.Good) {i : Nat} (hi : i < c.n) {k s : Nat} (h : Fr c.les c.fo k i s) : ∃ u ∈ c.fo, u < c.n ∧ Wk (c.inn i) k u i s ∧ (c.flags i).getD u false = true ∧ (c.flags i).getD i false = true := by
  obtain ⟨u, hu, hw⟩ := h
  have hun := g.fb u hu
  refine ⟨u, hu, hun, wk_inner (lb2 g) g.fb hi hw ⟨u, hu, 0, 0, .nil u⟩ hun, ?_, ?_⟩
  · exact (flags_iff g hi u).mpr ⟨hun, ⟨u, hu, 0, 0, .nil u⟩, k, s, hw⟩
  · exact (flags_iff g hi i).mpr ⟨hi, ⟨u, hu, k, s, hw⟩, 0, 0, .nil i⟩
/-- no ring: the office is not filled from the n-th generation on -/
theorem depth_none {c : Cu} (g : c.Good) {i : Nat} (hi : i < c.n) (h : c.best i = none) {t : Nat} (ht : c.n ≤ t) : (depthRow c.n c.les c.fo t).getD i none = none := by
  cases e : (depthRow c.n c.les c.fo t).getD i none with
  | none => rfl
  | some d =>
    obtain ⟨u, hu, hun, hw, _⟩ := fr_inner g hi (((depth_is g t).2 i hi).1 d e)
    obtain ⟨r, hr⟩ := hw.long (fun l hl => lb2 g l (inn_mem.mp hl).1) hun ht
    have h2 := leastR_min (ringsP c.n (c.ss (c.flags i))) fun r hr => (ringsP_iff.mp hr).pos
    have h' : leastR (ringsP c.n (c.ss (c.flags i))) = none := h
    rw [h'] at h2
    have h2 : ringsP c.n (c.ss (c.flags i)) = [] := h2
    have h3 := ringsP_iff.mpr (isRg_ss.mpr hr)
    rw [h2] at h3
    cases h3
/-- not less than the potentials say -/
theorem depth_low {c : Cu} (g : c.Good) {i : Nat} (hi : i < c.n) {r : Ring} {top bot : Nat} {ps : List (Option Int)} (T : Told c i r top bot ps) {t d : Nat} (h : (depthRow c.n c.les c.fo t).getD i none = some d) : ∃ u a b, u ∈ c.fo ∧ ps.getD u none = some a ∧ ps.getD i none = some b ∧ ((top * t : Nat) : Int) + b - a ≤ ((bot * d : Nat) : Int) := by
  obtain ⟨u, hu, hun, hw, f1, f2⟩ := fr_inner g hi (((depth_is g t).2 i hi).1 d h)
  have h1 := T.fl u hun
  have h2 := T.fl i hi
  rw [f1] at h1
  rw [f2] at h2
  obtain ⟨a, ha⟩ := Option.isSome_iff_exists.mp h1
  obtain ⟨b, hb⟩ := Option.isSome_iff_exists.mp h2
  have h3 := T.walk _ _ _ _ hw a b ha hb
  refine ⟨u, a, b, hu, ha, hb, ?_⟩
  unfold worth at h3
  omega
theorem Wk.rounds {ls : List Les} {k x s : Nat} (h : Wk ls k x x s) : ∀ j, Wk ls (j * k) x x (j * s)
  | 0 => by rw [Nat.zero_mul, Nat.zero_mul]; exact .nil x
  | j + 1 => by
    rw [Nat.succ_mul, Nat.succ_mul]
    exact Wk.comp h (Wk.rounds h j)
theorem rg_wk {n : Nat} {ls : List Les} {r : Ring} (h : IsRg n ls r) : Wk ls r.1.length (r.1.headD 0) (r.1.headD 0) r.2 ∧ r.1.headD 0 < n := by
  obtain ⟨f, m, e1, hf, hl, nd, hm, hp⟩ := h
  rw [e1]
  have := hp.wk (v := f) (by rw [← List.cons_append, List.getLast?_append]; rfl)
  rw [List.length_append] at this
  exact ⟨this, hf⟩
/-- not more than the ways and the rounds -/
theorem depth_high {c : Cu} (g : c.Good) {i : Nat} (hi : i < c.n) {r : Ring} {top bot : Nat} {ps : List (Option Int)} (T : Told c i r top bot ps) : ∃ w1 w2 : Nat × Nat, wayTo c.les (row0 c.n c.fo) (r.1.headD 0) (c.n + 1) 0 = some w1 ∧ wayTo c.les (row0 c.n [r.1.headD 0]) i (c.n + 1) 0 = some w2 ∧ w1.1 ≤ c.n ∧ w2.1 ≤ c.n ∧
    ∀ j, ∃ d, (depthRow c.n c.les c.fo (w1.1 + w2.1 + j * r.1.length)).getD i none = some d ∧ bot * d ≤ bot * (w1.2 + w2.2) + j * top * r.1.length := by
  obtain ⟨hw, hf⟩ := rg_wk T.rg
  have hfl : (c.flags i).getD (r.1.headD 0) false = true := by
    have hpos := T.rg.pos
    obtain ⟨x, s1, b, _, h2, _⟩ := (show Wk (c.inn i) (r.1.length - 1 + 1) _ _ _ from by rw [Nat.sub_add_cancel hpos]; exact hw).last
    exact (inn_mem.mp h2).2.2
  obtain ⟨_, f1, k0, s0, f2⟩ := (flags_iff g hi _).mp hfl
  obtain ⟨w1, e1, h1, l1⟩ := way_ok (lb2 g) g.fb hf f1
  obtain ⟨w2, e2, ⟨u2, hu2, h2⟩, l2⟩ := way_ok (fo := [r.1.headD 0]) (lb2 g) (fun u hu => by rw [List.mem_singleton] at hu; rw [hu]; exact hf) hi ⟨_, List.mem_cons_self, k0, s0, f2⟩
  rw [List.mem_singleton] at hu2
  subst hu2
  refine ⟨w1, w2, e1, e2, l1, l2, fun j => ?_⟩
  obtain ⟨u, hu, h1⟩ := h1
  have hw' : Wk c.les r.1.length (r.1.headD 0) (r.1.headD 0) r.2 := hw.mono fun l hl => (inn_mem.mp hl).1
  have h3 := Wk.comp (Wk.comp h2 (hw'.rounds j)) h1
  have e : w1.1 + (j * r.1.length + w2.1) = w1.1 + w2.1 + j * r.1.length := by omega
  rw [e] at h3
  obtain ⟨d, hd, hh⟩ := ((depth_is g _).2 i hi).2 _ ⟨u, hu, h3⟩
  refine ⟨d, hh, ?_⟩
  have h5 : bot * d ≤ bot * (w1.2 + (j * r.2 + w2.2)) := Nat.mul_le_mul_left _ hd
  have e3 : bot * (w1.2 + (j * r.2 + w2.2)) = bot * (w1.2 + w2.2) + j * top * r.1.length := by
    have e4 : w1.2 + (j * r.2 + w2.2) = (w1.2 + w2.2) + j * r.2 := by omega
    have e5 : bot * (j * r.2) = j * top * r.1.length := by
      rw [Nat.mul_left_comm, Nat.mul_comm bot, T.mean, Nat.mul_assoc]
    rw [e4, Nat.mul_add, e5]
  omega
end Cr
/-! What the last defs of the law promise. -/
namespace Cr
open PySem PySem.Spec L2 Fw
def Cu.ps (c : Cu) (i : Nat) (r : Ring) : List (Option Int) := pots (c.flags i) (c.ss (c.flags i)) ((topOf r : Nat) : Int) ((botOf r : Nat) : Int)
def Cu.toldF (c : Cu) (i : Nat) (r : Ring) : List (Str × Dt) := paceF ((topOf r : Nat) : Int) ((botOf r : Nat) : Int) (r.1.map c.nm) (c.ps i r)
theorem told_some {c : Cu} {Cp : Addr} {i : Nat} {r : Ring} (h : c.best i = some r) : c.told Cp i = .ins Cp (c.toldF i r) := by
  unfold Cu.told
  rw [h]
  rfl
theorem told_none {c : Cu} {Cp : Addr} {i : Nat} (h : c.best i = none) : c.told Cp i = .non := by
  unfold Cu.told
  rw [h]
  rfl
abbrev Cu.dN (c : Cu) : Dt := .lst (c.names.map .str)
abbrev Cu.dL (c : Cu) : Dt := .lst (c.les.map lst3)
abbrev Cu.dF (c : Cu) : Dt := .lst (c.fo.map encN)
abbrev Cu.dU (c : Cu) (i : Nat) : Dt := .lst ((c.flags i).map b2D)
def tRingSum : TD := fun ds Φ => ∃ (c : Cu) (i : Nat) (r : Ring), ds = [c.dN, c.dL, c.dU i, .tup true ((r.1.map c.nm).map .str)] ∧ c.Good ∧ IsRg c.n (c.inn i) r ∧ Φ (.int (r.2 : Int))
def tPotsL : TD := fun ds Φ => ∃ (c : Cu) (i : Nat) (r : Ring) (top bot : Nat) (ps : List (Option Int)), ds = [c.dL, c.dU i, .int (top : Int), .int (bot : Int), .tup true (ps.map encI)] ∧ c.Good ∧ Told c i r top bot ps ∧ Φ (.bl true)
def tRight (Cp : Addr) : TD := fun ds Φ => ∃ (c : Cu) (i : Nat) (r q : Ring), ds = [c.dN, c.dL, c.dU i, encRgL q, .ins Cp (c.toldF i r)] ∧ c.Good ∧ i < c.n ∧ c.best i = some r ∧ c.bestL i = some q ∧ Φ (.bl true)
def tLow (C Cp : Addr) : TD := fun ds Φ => ∃ (c : Cu) (i : Nat) (r : Ring) (g : Nat), ds = [c.dat C, c.dF, .int (i : Int), .ins Cp (c.toldF i r), .int (g : Int)] ∧ c.Good ∧ i < c.n ∧ c.best i = some r ∧ Φ (.bl true)
def encWay : Option (Nat × Nat) → Dt
  | none => .non
  | some w => .lst [.int (w.1 : Int), .int (w.2 : Int)]
def tWayTo : TD := fun ds Φ => ∃ (ls : List Les) (row : Row) (place : Nat), ds = [.lst (ls.map lst3), .lst (row.map encO), .int (place : Int)] ∧ row.length ≤ 6 ∧ place < row.length ∧ (∀ l ∈ ls, l.1 < row.length ∧ l.2.1 < row.length) ∧ Φ (encWay (wayTo ls row place (row.length + 1) 0))
def tHigh (C Cp : Addr) : TD := fun ds Φ => ∃ (c : Cu) (i : Nat) (r : Ring) (rounds : Nat), ds = [c.dat C, c.dN, c.dL, c.dF, .int (i : Int), .ins Cp (c.toldF i r), .int (rounds : Int)] ∧ c.Good ∧ i < c.n ∧ c.best i = some r ∧ Φ (.bl true)
def tAsked (C : Addr) : TD := fun ds Φ => ∃ (c : Cu) (i g rounds : Nat), ds = [c.dat C, c.dN, c.dL, c.dF, .int (i : Int), .int (g : Int), .int (rounds : Int)] ∧ c.Good ∧ i < c.n ∧ Φ (.bl true)
def tRefused (C : Addr) : TD := fun ds Φ => ∃ (c : Cu) (x : Str), ds = [c.dat C, .str x] ∧ c.Good ∧ x ∉ c.names ∧ Φ (.bl true)
def tStays (C : Addr) : TD := fun ds Φ => ∃ c : Cu, ds = [c.dat C, c.dN, c.dL, c.dF] ∧ c.Good ∧ Φ (.bl true)
def tLaw : TD := fun ds Φ => ∃ ns : List Int, ds = [.scr ns] ∧ Φ (.bl true)
/-! the bounds of a ring -/
theorem pa_bounds {ls : List Les} : ∀ {p : List Nat} {s : Nat}, Pa ls p s → ∃ bs : List Nat, bs.length + 1 = p.length ∧ bs.sum = s ∧ ∀ k, k + 1 < p.length → (p.getD k 0, p.getD (k + 1) 0, bs.getD k 0) ∈ ls
  | _, _, .one x => ⟨[], rfl, rfl, fun k h => by simp at h⟩
  | _, _, .cons (x := x) (y := y) (r := r) (b := b) e h => by
    obtain ⟨bs, h1, h2, h3⟩ := pa_bounds h
    refine ⟨b :: bs, by simp at h1 ⊢; omega, by simp [h2], fun k hk => ?_⟩
    cases k with
    | zero => exact e
    | succ k =>
      have := h3 k (by simp at hk ⊢; omega)
      exact this
/-- the place ahead of the k-th, the last ahead of the first -/
def prv (p : List Nat) (k : Nat) : Nat := if k = 0 then p.getLastD 0 else p.getD (k - 1) 0
theorem rg_bounds {n : Nat} {ls : List Les} {r : Ring} (h : IsRg n ls r) : ∃ bs : List Nat, bs.length = r.1.length ∧ bs.sum = r.2 ∧ ∀ k, k < r.1.length → (prv r.1 k, r.1.getD k 0, bs.getD k 0) ∈ ls := by
  obtain ⟨f, m, e1, hf, hl, nd, hm, hp⟩ := h
  obtain ⟨a, ea⟩ := snoc_of (p := f :: m) (by simp)
  have hp' : Pa ls (f :: m ++ [f]) r.2 := hp
  rw [ea] at hp'
  obtain ⟨s1, b, h1, h2, es⟩ := hp'.last
  rw [← ea] at h1
  obtain ⟨bs, g1, g2, g3⟩ := pa_bounds h1
  rw [e1]
  refine ⟨b :: bs, by simpa using g1, by rw [List.sum_cons, g2, es, Nat.add_comm], fun k hk => ?_⟩
  cases k with
  | zero => exact h2
  | succ k =>
    have := g3 k hk
    exact this
theorem filt_one : ∀ {ls : List Les} {u v b : Nat}, (ls.map fun l => (l.1, l.2.1)).Nodup → (u, v, b) ∈ ls → ls.filter (fun l => decide (l.1 = u) && decide (l.2.1 = v)) = [(u, v, b)]
  | [], _, _, _, _, h => nomatch h
  | l :: ls, u, v, b, nd, h => by
    have h1 := (List.nodup_cons.mp nd).1
    rw [List.filter_cons]
    rcases List.mem_cons.mp h with h | h
    · subst h
      rw [if_pos (by simp)]
      congr 1
      refine List.filter_eq_nil_iff.mpr fun x hx => ?_
      simp only [Bool.and_eq_true, decide_eq_true_eq]
      intro hc
      exact h1 (List.mem_map.mpr ⟨x, hx, by rw [hc.1, hc.2]⟩)
    · rw [if_neg ?_]
      · exact filt_one (List.nodup_cons.mp nd).2 h
      · simp only [Bool.and_eq_true, decide_eq_true_eq]
        intro hc
        exact h1 (List.mem_map.mpr ⟨(u, v, b), h, by show (u, v) = (l.1, l.2.1); rw [hc.1, hc.2]⟩)
theorem inn_nd {c : Cu} (g : c.Good) (i : Nat) : ((c.inn i).map fun l => (l.1, l.2.1)).Nodup := ((inner_sub _ c.les).map _).nodup g.ln
theorem inn_len {c : Cu} (g : c.Good) (i : Nat) : (c.inn i).length ≤ 36 := Nat.le_trans (inner_sub _ c.les).length_le g.les36
theorem inn_lb {c : Cu} (g : c.Good) (i : Nat) : ∀ l ∈ c.inn i, l.1 < c.n ∧ l.2.1 < c.n ∧ l.2.2 ≤ 99 := fun l h => g.lb l (inn_mem.mp h).1
theorem flags_lb {c : Cu} (g : c.Good) (i : Nat) : ∀ l ∈ c.les, l.1 < (c.flags i).length ∧ l.2.1 < (c.flags i).length := fun l h => by
  rw [flags_len]
  exact lb2 g l h
end Cr
namespace Cr
open PySem PySem.Spec L2 Fw
section
variable {P : Program} {w : World} {K : PySem.W.Frag} {mg : Str → Option Value} {base : Heap} {C Cp : Addr}
theorem ok_reached {f : Addr} {fd : FuncData} (D : Df K mg "reached_flags" sreached_flags f fd) (T : Tx K mg C Cp) : Ok P w K mg base 1 "reached_flags" ["arrows", "flags"] tReached := by
  refine ok_def D screached_flags (fun ds Φ h => ?_) (fun _ _ _ _ _ _ us hl => match us, hl with | [_, _], _ => rfl) fun cdv A outer s F H E hr ds Φ h => ?_
  · obtain ⟨_, _, rfl, _⟩ := h
    rfl
  · obtain ⟨arrows, f, rfl, hb, hlen, q⟩ := h
    have nd := screached_flags.nd
    -- result = list(flags)
    dsimp only [mkE]
    walk_at "asgL"
    refine wl_list T.lst ?_
    walk_at "x"
    refine ⟨_, .l, ?_⟩
    -- for _ in range(len(flags))
    refine wb_cons (ws_for (List.range f.length) (fun (i : Nat) => .int (i : Int)) (fun pre env1 => ∃ s1 s2 s3 : SD, env1 = ([("arrows", .dat (.lst (arrows.map encP))), ("flags", .dat (.lst (f.map .bl))), ("result", .own ((roundsF arrows f pre.length).map .bl)), ("_", s1), ("start", s2), ("end", s3)] : Env'))
      (wi_r T.rng (we_len T.len ?_)) ⟨_, _, _, rfl⟩ (fun pre x post env1 hx he => ?_) (fun env1 he => ?_) nd)
    · walk_at "x"
      refine len_l ?_
      refine ⟨f.length, ?_, by omega, rfl⟩
      rw [List.length_map]
    · obtain ⟨s1, s2, s3, rfl⟩ := he
      refine ⟨_, _, .name (by walk_at "pl") rfl (.inl rfl) (.inl rfl), ?_⟩
      refine wb_cons (ws_for arrows encP (fun pre2 env1 => ∃ s1 s2 s3 : SD, env1 = ([("arrows", .dat (.lst (arrows.map encP))), ("flags", .dat (.lst (f.map .bl))), ("result", .own ((pre2.foldl stepF (roundsF arrows f pre.length)).map .bl)), ("_", s1), ("start", s2), ("end", s3)] : Env'))
        (wi_l ?_) ⟨_, _, _, rfl⟩ (fun pre2 p post2 env1 hx2 he => ?_) (fun env1 he => ?_) nd)
      · walk_at "x"
        exact ⟨_, rfl, rfl⟩
      · obtain ⟨s1, s2, s3, rfl⟩ := he
        have hp : p ∈ arrows := by
          rw [hx2]
          exact List.mem_append_right _ List.mem_cons_self
        have hb2 := hb p hp
        have hl2 : (pre2.foldl stepF (roundsF arrows f pre.length)).length = f.length := by rw [foldF_len, roundsF_len]
        refine ⟨_, _, .tup (.cons (.name (by walk_at "pl") rfl (.inl rfl) (.inl rfl)) (.cons (.name (by walk_at "pl") rfl (.inl rfl) (.inl rfl)) .nil rfl) rfl) rfl rfl, ?_⟩
        walk_at "if"
        refine wt_frz (by walk_at "pl") ?_
        walk_at "t"
        walk_at "x"
        walk_at "x"
        walk_at "x"
        have hlt : p.1 < (pre2.foldl stepF (roundsF arrows f pre.length)).length := by rw [hl2]; exact hb2.1
        have e0 : ((pre2.foldl stepF (roundsF arrows f pre.length)).map Dt.bl)[p.1]? = some (.bl ((pre2.foldl stepF (roundsF arrows f pre.length)).getD p.1 false)) := by
          rw [List.getElem?_map, List.getElem?_eq_getElem hlt, List.getD_eq_getElem?_getD, List.getElem?_eq_getElem hlt]
          rfl
        refine ixd_l (atI_nat e0) ⟨_, rfl, ?_⟩
        have es : (pre2 ++ [p]).foldl stepF (roundsF arrows f pre.length) = stepF (pre2.foldl stepF (roundsF arrows f pre.length)) p := by
          rw [List.foldl_append]
          rfl
        by_cases hc : (pre2.foldl stepF (roundsF arrows f pre.length)).getD p.1 false = true
        · rw [if_pos hc]
          refine wb_cons (ws_setix (by walk_at "pl") ?_)
          walk_at "x"
          walk_at "x"
          refine ⟨p.2, rfl, by rw [List.length_map, hl2]; exact hb2.2, ?_⟩
          walk_at "nil"
          rw [es, stepF, if_pos hc, List.map_set]
          exact ⟨_, _, _, rfl⟩
        · rw [if_neg hc]
          walk_at "nil"
          rw [es, stepF, if_neg hc]
          exact ⟨_, _, _, rfl⟩
      · obtain ⟨s1, s2, s3, rfl⟩ := he
        walk_at "nil"
        rw [List.length_append]
        exact ⟨_, _, _, rfl⟩
    · obtain ⟨s1, s2, s3, rfl⟩ := he
      refine wb_frz (x := "result") (by walk_at "pl") ?_
      walk_at "ret"
      walk_at "x"
      rw [List.length_range]
      exact q
end
end Cr
namespace Cr
open PySem PySem.Spec L2 Fw
section
variable {P : Program} {w : World} {K : PySem.W.Frag} {mg : Str → Option Value} {base : Heap} {C Cp : Addr} {k : Nat}
theorem fwd_enc (ls : List Les) : ls.map (fun l => Dt.tup false [.int (l.1 : Int), .int (l.2.1 : Int)]) = (fwd ls).map encP := by
  unfold fwd
  rw [List.map_map]
  rfl
theorem bwd_enc (ls : List Les) : (fwd ls).map (fun l => Dt.tup false [.int (l.2 : Int), .int (l.1 : Int)]) = (bwd ls).map encP := by
  unfold fwd bwd
  rw [List.map_map, List.map_map]
  rfl
theorem filled_enc {c : Cu} (g : c.Good) : c.names.map (fun x => Dt.bl (decide (x ∈ c.fnd))) = (filled0 c.n c.fo).map .bl := by
  unfold filled0
  rw [List.map_map]
  conv => lhs; rw [Cu.names_eq c]
  rw [List.map_map]
  apply List.map_congr_left
  intro k hk
  have := Cu.mem_fnd g (List.mem_range.mp hk)
  simp only [Function.comp, this]
theorem ok_useful {f : Addr} {fd : FuncData} (D : Df K mg "useful_flags" suseful_flags f fd) (T : Tx K mg C Cp) (G : Ok P w K mg base k "reached_flags" ["arrows", "flags"] tReached) : Ok P w K mg base (k + 1) "useful_flags" ["custom", "at"] (tUseful C) := by
  refine ok_def D scuseful_flags (fun ds Φ h => ?_) (fun _ _ _ _ _ _ us hl => match us, hl with | [_, _], _ => rfl) fun cdv A outer s F H E hr ds Φ h => ?_
  · obtain ⟨_, _, rfl, _⟩ := h
    rfl
  · obtain ⟨c, i, rfl, hg, hi, q⟩ := h
    have nd := scuseful_flags.nd
    have n6 : c.n ≤ 6 := hg.n6
    have n6a := hg.n6
    have hl36 := hg.les36
    dsimp only [mkE]
    -- forward
    refine wb_cons (ws_lcT [("teacher", 6), ("pupil", 7), ("_", 8)] c.les enc3 (fun _ => true) (fun l => .tup false [.int (l.1 : Int), .int (l.2.1 : Int)]) (by walk_at "pl") (wi_t (we_steps T c c.ord ?_)) (fun l s Hh C cl fp => by walk_at "tg") (fun l hl s Hh C cl fp => wts_nil rfl) (fun l hl _ s Hh C cl fp => ?_) (by omega) ?_ nd (blkOk_by (N := Nuseful_flags) (sc := defScope suseful_flags) (by decide +kernel)) ⟨rfl, rfl, rfl, trivial⟩ (by rfl))
    · walk_at "x"
      exact ⟨rfl, _, _, rfl, rfl⟩
    · walk_at "X"
      exact ⟨by walk_at "sz", rfl⟩
    rw [List.filter_eq_self.mpr fun _ _ => rfl, fwd_enc]
    -- backward
    refine wb_frz (x := "forward") (by walk_at "pl") ?_
    refine wb_cons (ws_lcT [("teacher", 6), ("pupil", 7)] (fwd c.les) encP (fun _ => true) (fun l => .tup false [.int (l.2 : Int), .int (l.1 : Int)]) (by walk_at "pl") (wi_l ?_) (fun l s Hh C cl fp => by walk_at "tg") (fun l hl s Hh C cl fp => wts_nil rfl) (fun l hl _ s Hh C cl fp => ?_) (by unfold fwd; rw [List.length_map]; omega) ?_ nd (blkOk_by (N := Nuseful_flags) (sc := defScope suseful_flags) (by decide +kernel)) ⟨rfl, rfl, trivial⟩ (by rfl))
    · walk_at "x"
      exact ⟨_, rfl, rfl⟩
    · walk_at "X"
      exact ⟨by walk_at "sz", rfl⟩
    rw [List.filter_eq_self.mpr fun _ _ => rfl, bwd_enc]
    refine wb_frz (x := "backward") (by walk_at "pl") ?_
    -- filled
    refine wb_cons (ws_asg (by walk_at "pl") (we_call G hr ?_) nd)
    walk_at "X"
    refine we_wl (wl_lc1 9 c.names .str (fun _ => true) (fun x => .bl (decide (x ∈ c.fnd))) (by walk_at "pl") (wi_t (we_offices T c c.ord ?_)) (fun l hl s Hh C cl fp => wts_nil rfl) (fun x hx _ s Hh C' cl fp => ?_) (by omega) ?_ nd (blkOk_by (N := Nuseful_flags) (sc := defScope suseful_flags) (by decide +kernel)))
    · walk_at "x"
      exact ⟨rfl, _, _, rfl, rfl⟩
    · walk_at "X"
      refine we_founding T c c.ord ?_
      walk_at "x"
      refine ⟨rfl, wo_in .t rfl (flats_str _) ?_⟩
      rw [inF_str]
    rw [List.filter_eq_self.mpr fun _ _ => rfl, filled_enc hg]
    walk_at "x"
    refine ⟨_, _, rfl, ?_, by unfold filled0; rw [List.length_map, List.length_range]; omega, ?_⟩
    · intro p hp
      unfold fwd at hp
      obtain ⟨l, hl, rfl⟩ := List.mem_map.mp hp
      have := hg.lb l hl
      unfold filled0
      rw [List.length_map, List.length_range]
      exact ⟨this.1, this.2.1⟩
    -- leading
    refine wb_cons (ws_asg (by walk_at "pl") (we_call G hr ?_) nd)
    walk_at "X"
    refine we_wl (wl_lc1 10 (List.range c.n) encN (fun _ => true) (fun x => .bl (decide (x = i))) (by walk_at "pl") (wi_r T.rng (we_len T.len (we_offices T c c.ord ?_))) (fun l hl s Hh C cl fp => wts_nil rfl) (fun x hx _ s Hh C' cl fp => ?_) (by rw [List.length_range]; omega) ?_ nd (blkOk_by (N := Nuseful_flags) (sc := defScope suseful_flags) (by decide +kernel)))
    · walk_at "x"
      refine ⟨rfl, len_t ⟨c.n, by rw [List.length_map]; rfl, by omega, rfl⟩⟩
    · walk_at "X"
      exact congrArg Dt.bl (decide_eq_decide.mpr Int.ofNat_inj)
    rw [List.filter_eq_self.mpr fun _ _ => rfl]
    walk_at "x"
    refine ⟨bwd c.les, lead0 c.n i, ?_, ?_, by unfold lead0; rw [List.length_map, List.length_range]; omega, ?_⟩
    · unfold lead0
      rw [List.map_map]
      rfl
    · intro p hp
      unfold bwd at hp
      obtain ⟨l, hl, rfl⟩ := List.mem_map.mp hp
      have := hg.lb l hl
      unfold lead0
      rw [List.length_map, List.length_range]
      exact ⟨this.2.1, this.1⟩
    -- the answer
    have hl1 : (reached (fwd c.les) (filled0 c.n c.fo)).length = c.n := by rw [reached_len]; unfold filled0; rw [List.length_map, List.length_range]
    have hl2 : (reached (bwd c.les) (lead0 c.n i)).length = c.n := by rw [reached_len]; unfold lead0; rw [List.length_map, List.length_range]
    walk_at "ret"
    refine we_wl (wl_lc1 10 (List.range c.n) encN (fun _ => true) (fun x => .bl ((reached (fwd c.les) (filled0 c.n c.fo)).getD x false && (reached (bwd c.les) (lead0 c.n i)).getD x false)) (by walk_at "pl") (wi_r T.rng (we_len T.len (we_offices T c c.ord ?_))) (fun l hl s Hh C cl fp => wts_nil rfl) (fun x hx _ s Hh C' cl fp => ?_) (by rw [List.length_range]; omega) ?_ nd (blkOk_by (N := Nuseful_flags) (sc := defScope suseful_flags) (by decide +kernel)))
    · walk_at "x"
      refine ⟨rfl, len_t ⟨c.n, by rw [List.length_map]; rfl, by omega, rfl⟩⟩
    · have hx := List.mem_range.mp hx
      refine we_and ?_
      walk_at "X"
      refine ixd_l (atI_enc (d := false) (by rw [hl1]; exact hx)) ⟨_, rfl, iteB (fun h => ?_) fun h => ?_⟩
      · refine we_one ?_
        walk_at "X"
        refine ixd_l (atI_enc (d := false) (by rw [hl2]; exact hx)) ?_
        rw [h, Bool.true_and]
      · rw [h, Bool.false_and]
    rw [List.filter_eq_self.mpr fun _ _ => rfl]
    have e : (List.range c.n).map (fun x => Dt.bl ((reached (fwd c.les) (filled0 c.n c.fo)).getD x false && (reached (bwd c.les) (lead0 c.n i)).getD x false)) = (c.flags i).map .bl := by
      unfold Cu.flags useful
      rw [List.map_map]
      rfl
    rw [e]
    exact q
end
end Cr
namespace Cr
open PySem PySem.Spec L2 Fw
section
variable {P : Program} {w : World} {K : PySem.W.Frag} {mg : Str → Option Value} {base : Heap} {C Cp : Addr} {k : Nat}
theorem toPy3 (l : Les) : toPy (enc3 l) = .tuple [.int (l.1 : Int), .int (l.2.1 : Int), .int (l.2.2 : Int)] := rfl
theorem al3 (ls : List Les) : PySem.W.AllAlike (ls.map fun l => toPy (enc3 l)) := PySem.W.AllAlike.of fun a b => rfl
theorem so3 (ls : List Les) : PySem.W.Sortable (ls.map fun l => toPy (enc3 l)) := PySem.W.Sortable.tuples fun a => ⟨_, _, toPy3 a⟩
theorem ok_steps {f : Addr} {fd : FuncData} (D : Df K mg "useful_steps" suseful_steps f fd) (T : Tx K mg C Cp) : Ok P w K mg base (k + 1) "useful_steps" ["custom", "flags"] (tSteps C) := by
  refine ok_def D scuseful_steps (fun ds Φ h => ?_) (fun _ _ _ _ _ _ us hl => match us, hl with | [_, _], _ => rfl) fun cdv A outer s F H E hr ds Φ h => ?_
  · obtain ⟨_, _, rfl, _⟩ := h
    rfl
  · obtain ⟨c, fl, rfl, hg, hfl, q⟩ := h
    have nd := scuseful_steps.nd
    have hl36 := hg.les36
    have hin : (innerF fl c.les).length ≤ 36 := Nat.le_trans (List.length_filter_le _ _) hl36
    dsimp only [mkE]
    walk_at "ret"
    refine we_wl (wl_sorted (innerF fl c.les) enc3 (n := 2) (u65 hr) T.srt (by decide) (fun l _ => rfl) (al3 _) (so3 _) (by omega) (we_wl (wl_lc1 2 c.les enc3 (fun l => fl.getD l.1 false && fl.getD l.2.1 false) enc3 (by walk_at "pl") (wi_t (we_steps T c c.ord ?_)) (fun l hl s Hh C cl fp => wts_one ?_) (fun l hl _ s Hh C' cl fp => ?_) (by omega) ?_ nd (blkOk_by (N := Nuseful_steps) (sc := defScope suseful_steps) (by decide +kernel)))) ?_)
    · walk_at "x"
      exact ⟨rfl, _, _, rfl, rfl⟩
    · have hb := hg.lb l hl
      have h1 : l.1 < fl.length := by rw [hfl]; exact hb.1
      have h2 : l.2.1 < fl.length := by rw [hfl]; exact hb.2.1
      refine wt_ww (ww_and (wt_val ?_))
      walk_at "X"
      refine ixd_t (v := .int (l.1 : Int)) rfl (ixd_l (atI_enc (d := false) h1) ⟨_, rfl, iteB (fun h => ?_) fun h => ?_⟩)
      · refine ww_and1 (wt_val ?_)
        walk_at "X"
        refine ixd_t (v := .int (l.2.1 : Int)) rfl (ixd_l (atI_enc (d := false) h2) ⟨_, rfl, ?_⟩)
        rw [h, Bool.true_and]
      · rw [h, Bool.false_and]
    · walk_at "X"
      rfl
    · rfl
    · exact q
theorem relax_some (top bottom : Int) (ds : List (Option Int)) (l : Les) : (relax top bottom ds l).map Option.isSome = ds.map Option.isSome := by
  unfold relax
  split
  · rename_i a b h1 h2
    rw [List.map_set]
    apply List.ext_getElem?
    intro i
    rw [List.getElem?_set]
    split
    · rename_i e
      subst e
      split
      · rename_i hl
        rw [List.length_map] at hl
        have := getD_at (d := none) hl
        rw [h2] at this
        rw [List.getElem?_map, this]
        rfl
      · rename_i hl
        rw [List.getElem?_eq_none (by omega)]
    · rfl
  · rfl
theorem potRound_some (top bottom : Int) : ∀ (ss : List Les) (ds : List (Option Int)), (ss.foldl (relax top bottom) ds).map Option.isSome = ds.map Option.isSome
  | [], _ => rfl
  | p :: r, f => by rw [List.foldl_cons, potRound_some top bottom r, relax_some]
theorem potRounds_some (top bottom : Int) (ss : List Les) (ds : List (Option Int)) : ∀ n, (potRounds top bottom ss ds n).map Option.isSome = ds.map Option.isSome
  | 0 => rfl
  | n + 1 => by rw [potRounds, potRound, potRound_some, potRounds_some]
theorem pot0_some (fl : List Bool) : (pot0 fl).map Option.isSome = fl := by
  unfold pot0
  rw [List.map_map]
  conv => rhs; rw [← List.map_id fl]
  apply List.map_congr_left
  intro b _
  cases b <;> rfl
theorem some_at {ds : List (Option Int)} {fl : List Bool} (h : ds.map Option.isSome = fl) {i : Nat} (hf : fl.getD i false = true) : ∃ a, ds.getD i none = some a ∧ i < ds.length := by
  subst h
  rw [List.getD_eq_getElem?_getD, List.getElem?_map] at hf
  cases e : ds[i]? with
  | none => rw [e] at hf; cases hf
  | some o =>
    rw [e] at hf
    cases o with
    | none => cases hf
    | some a =>
      refine ⟨a, ?_, (List.getElem?_eq_some_iff.mp e).1⟩
      rw [List.getD_eq_getElem?_getD, e]
      rfl
theorem ok_pots {f : Addr} {fd : FuncData} (D : Df K mg "least_potentials" sleast_potentials f fd) (T : Tx K mg C Cp) (G : Ok P w K mg base k "useful_steps" ["custom", "flags"] (tSteps C)) : Ok P w K mg base (k + 1) "least_potentials" ["custom", "flags", "top", "bottom"] (tPots C) := by
  refine ok_def D scleast_potentials (fun ds Φ h => ?_) (fun _ _ _ _ _ _ us hl => match us, hl with | [_, _, _, _], _ => rfl) fun cdv A outer s F H E hr ds Φ h => ?_
  · obtain ⟨_, _, _, _, rfl, _⟩ := h
    rfl
  · obtain ⟨c, fl, top, bottom, rfl, hg, hfl, q⟩ := h
    have nd := scleast_potentials.nd
    have n6 : c.n ≤ 6 := hg.n6
    dsimp only [mkE]
    refine wb_cons (ws_lc1 9 fl .bl (fun _ => true) (fun b => encI (if b = true then some 0 else none)) (by walk_at "pl") (by walk_at "pl") (wi_l ?_) (fun l hl s Hh C cl fp => wts_nil rfl) (fun b hb _ s Hh C' cl fp => ?_) (by omega) ?_ nd (blkOk_by (N := Nleast_potentials) (sc := defScope sleast_potentials) (by decide +kernel)))
    · walk_at "X"
      exact ⟨_, rfl, rfl⟩
    · refine we_ifx (wt_val ?_)
      walk_at "X"
      refine ⟨b, rfl, iteB (fun h => ?_) fun h => ?_⟩
      · walk_at "X"
        rw [h]
        rfl
      · walk_at "X"
        rw [h]
        rfl
    have e0 : (fl.filter fun _ => true).map (fun b => encI (if b = true then some 0 else none)) = (pot0 fl).map encI := by
      rw [filt_true]
      unfold pot0
      rw [List.map_map]
      rfl
    rw [e0]
    refine wb_cons (ws_for (List.range fl.length) encN (fun pre env1 => ∃ s1 s2 s3 s4 : SD, env1 = ([("custom", .dat (c.dat C)), ("flags", .dat (.lst (fl.map .bl))), ("top", .dat (.int top)), ("bottom", .dat (.int bottom)), ("numbers", .own ((potRounds top bottom (c.ss fl) (pot0 fl) pre.length).map encI)), ("_", s1), ("teacher", s2), ("pupil", s3), ("bound", s4), ("flag", .un)] : Env'))
      (wi_r T.rng (we_len T.len ?_)) ⟨_, _, _, _, rfl⟩ (fun pre x post env1 hx he => ?_) (fun env1 he => ?_) nd)
    · walk_at "X"
      refine len_l ⟨fl.length, by rw [List.length_map], by omega, rfl⟩
    · obtain ⟨s1, s2, s3, s4, rfl⟩ := he
      refine ⟨_, _, by walk_at "tg", ?_⟩
      refine wb_cons (ws_for (c.ss fl) enc3 (fun pre2 env1 => ∃ s1 s2 s3 s4 : SD, env1 = ([("custom", .dat (c.dat C)), ("flags", .dat (.lst (fl.map .bl))), ("top", .dat (.int top)), ("bottom", .dat (.int bottom)), ("numbers", .own ((pre2.foldl (relax top bottom) (potRounds top bottom (c.ss fl) (pot0 fl) pre.length)).map encI)), ("_", s1), ("teacher", s2), ("pupil", s3), ("bound", s4), ("flag", .un)] : Env'))
        (wi_l (we_call G hr ?_)) ⟨_, _, _, _, rfl⟩ (fun pre2 l post2 env1 hx2 he => ?_) (fun env1 he => ?_) nd)
      · walk_at "X"
        exact ⟨c, fl, rfl, hg, hfl, _, rfl, rfl⟩
      · obtain ⟨s1, s2, s3, s4, rfl⟩ := he
        have hm : l ∈ c.ss fl := by
          rw [hx2]
          exact List.mem_append_right _ List.mem_cons_self
        obtain ⟨hm1, hf1, hf2⟩ := ss_mem.mp hm
        have hb := hg.lb l hm1
        generalize hds : pre2.foldl (relax top bottom) (potRounds top bottom (c.ss fl) (pot0 fl) pre.length) = ds
        have hs : ds.map Option.isSome = fl := by rw [← hds, potRound_some, potRounds_some, pot0_some]
        obtain ⟨a, ha, hla⟩ := some_at hs hf1
        obtain ⟨b, hb2, hlb⟩ := some_at hs hf2
        have es : (pre2 ++ [l]).foldl (relax top bottom) (potRounds top bottom (c.ss fl) (pot0 fl) pre.length) = relax top bottom ds l := by
          rw [List.foldl_append, hds]
          rfl
        have er : relax top bottom ds l = ds.set l.2.1 (some (if a + bottom * (l.2.2 : Int) - top < b then a + bottom * (l.2.2 : Int) - top else b)) := by
          unfold relax
          rw [ha, hb2]
        refine ⟨_, _, by walk_at "tg", ?_⟩
        refine wb_cons (ws_setix (by walk_at "pl") (we_frz (by walk_at "pl") (we_min2 T.min rfl ?_)))
        walk_at "X"
        refine ixd_l (atI_enc (d := none) hlb) ?_
        rw [hb2]
        walk_at "X"
        refine ixd_l (atI_enc (d := none) hla) ?_
        rw [ha]
        walk_at "X"
        refine wo_mul (.inr ⟨by omega, by omega⟩) ?_
        walk_at "X"
        refine ⟨b, _, rfl, rfl, trivial, ?_⟩
        walk_at "X"
        refine ⟨l.2.1, rfl, by rw [List.length_map]; exact hlb, ?_⟩
        walk_at "nil"
        rw [es, er, List.map_set]
        exact ⟨_, _, _, _, rfl⟩
      · obtain ⟨s1, s2, s3, s4, rfl⟩ := he
        walk_at "nil"
        rw [List.length_append]
        exact ⟨_, _, _, _, rfl⟩
    · obtain ⟨s1, s2, s3, s4, rfl⟩ := he
      refine wb_frz (x := "numbers") (by walk_at "pl") ?_
      walk_at "ret"
      refine we_tuple T.tup ?_
      walk_at "X"
      rw [List.length_range]
      exact ⟨_, rfl, q⟩
end
end Cr
namespace Cr
open PySem PySem.Spec L2 Fw
section
variable {P : Program} {w : World} {K : PySem.W.Frag} {mg : Str → Option Value} {base : Heap} {C Cp : Addr}
theorem atI_end {α : Type} {enc : α → Dt} {xs : List α} {d : α} (h : xs ≠ []) : atI (xs.map enc) (-1) = some (enc (xs.getLastD d)) := by
  obtain ⟨ys, y, rfl⟩ : ∃ ys y, xs = ys ++ [y] := ⟨xs.dropLast, xs.getLast h, (List.dropLast_concat_getLast h).symm⟩
  rw [List.map_append]
  have e : (ys ++ [y]).getLastD d = y := by simp [List.getLastD_eq_getLast?]
  rw [e]
  exact atI_last _ _
theorem atI_head {α : Type} {enc : α → Dt} {xs : List α} {d : α} (h : xs ≠ []) : atI (xs.map enc) 0 = some (enc (xs.headD d)) := by
  cases xs with
  | nil => exact (h rfl).elim
  | cons x xs => exact atI_nat (j := 0) rfl
theorem inF_nat {x : Nat} {xs : List Nat} : inF (.int (x : Int)) (xs.map encN) = decide (x ∈ xs) := by
  have e : xs.map encN = (xs.map fun (n : Nat) => (n : Int)).map Dt.int := by rw [List.map_map]; rfl
  rw [e, inF_int]
  apply decide_eq_decide.mpr
  rw [List.mem_map]
  constructor
  · rintro ⟨y, h, e⟩
    rw [← Int.ofNat_inj.mp e]
    exact h
  · intro h
    exact ⟨x, h, rfl⟩
theorem flats_nat (xs : List Nat) : (xs.map encN).all flatB' = true := by
  rw [List.all_map]
  exact List.all_eq_true.mpr fun _ _ => rfl
theorem ok_closing (n : Nat) {f : Addr} {fd : FuncData} (D : Df K mg "closing_rings" sclosing_rings f fd) (T : Tx K mg C Cp) : ∀ k, Ok P w K mg base (k + 1) "closing_rings" ["steps", "path", "total"] (tClosing n k) := by
  intro k
  induction k with
  | zero =>
    refine ok_def D scclosing_rings (fun ds Φ h => ?_) (fun _ _ _ _ _ _ us hl => match us, hl with | [_, _, _], _ => rfl) fun cdv A outer s F H E hr ds Φ h => ?_
    · obtain ⟨_, _, _, rfl, _⟩ := h
      rfl
    · obtain ⟨ss, path, total, rfl, hl, h0, hd, hb, _⟩ := h
      have := nodup_len n path hd hb
      omega
  | succ k G =>
    refine ok_def D scclosing_rings (fun ds Φ h => ?_) (fun _ _ _ _ _ _ us hl => match us, hl with | [_, _, _], _ => rfl) fun cdv A outer s F H E hr ds Φ h => ?_
    · obtain ⟨_, _, _, rfl, _⟩ := h
      rfl
    · obtain ⟨ss, path, total, rfl, hl, h0, hd, hb, hs2, hsn, hn6, q⟩ := h
      have nd := scclosing_rings.nd
      have hout : ∀ t, (ss.filter fun l => decide (l.1 = t)).length ≤ 6 := fun t => Nat.le_trans (out_len hsn hs2 t) hn6
      have hk : k + 1 ≤ 6 := by
        have : 1 ≤ path.length := by
          cases path with
          | nil => exact (h0 rfl).elim
          | cons _ _ => rw [List.length_cons]; omega
        omega
      have htot : (ss.flatMap (clStep ss k path total)).length ≤ 46656 := by
        have h := closing_len hout (k + 1) path total
        rw [closing_eq] at h
        exact Nat.le_trans h (Nat.pow_le_pow_right (n := 6) (by omega) hk)
      dsimp only [mkE]
      refine wb_cons (ws_asgL (by walk_at "pl") (wl_lst (wa_nil ⟨Nat.zero_le _, ?_⟩)) nd)
      refine wb_cons (ws_for ss enc3 (fun pre env1 => ∃ s1 s2 s3 : SD, env1 = ([("steps", .dat (.lst (ss.map enc3))), ("path", .dat (.tup false (path.map encN))), ("total", .dat (.int (total : Int))), ("found", .own ((pre.flatMap (clStep ss k path total)).map encRg)), ("teacher", s1), ("pupil", s2), ("bound", s3)] : Env'))
        (wi_l ?_) ⟨_, _, _, rfl⟩ (fun pre l post env1 hx he => ?_) (fun env1 he => ?_) nd)
      · walk_at "X"
        exact ⟨_, rfl, rfl⟩
      · obtain ⟨s1, s2, s3, rfl⟩ := he
        have hm : l ∈ ss := by
          rw [hx]
          exact List.mem_append_right _ List.mem_cons_self
        have hlen : (pre.flatMap (clStep ss k path total)).length + (clStep ss k path total l).length ≤ 46656 := by
          rw [hx, List.flatMap_append, List.flatMap_cons, List.length_append, List.length_append] at htot
          rw [hx] at *
          omega
        have es : (pre ++ [l]).flatMap (clStep ss k path total) = pre.flatMap (clStep ss k path total) ++ clStep ss k path total l := by
          rw [List.flatMap_append, List.flatMap_cons, List.flatMap_nil, List.append_nil]
        rw [es]
        generalize pre.flatMap (clStep ss k path total) = acc at hlen
        refine ⟨_, _, by walk_at "tg", ?_⟩
        walk_at "if"
        walk_at "t"
        walk_at "X"
        refine ⟨1, rfl, ixd_t (atI_end (d := 0) h0) ?_⟩
        refine wo_eq ⟨_, rfl, iteD (fun e => ?_) fun e => ?_⟩
        · have e := Int.ofNat_inj.mp e
          walk_at "if"
          walk_at "t"
          walk_at "X"
          refine ixd_t (atI_head (d := 0) h0) ?_
          refine wo_eq ⟨_, rfl, iteD (fun e2 => ?_) fun e2 => ?_⟩
          · have e2 := Int.ofNat_inj.mp e2
            have ec : clStep ss k path total l = [(path, total + l.2.2)] := by
              unfold clStep
              rw [if_pos e, if_pos e2]
            rw [ec] at hlen ⊢
            rw [List.length_cons] at hlen
            refine wb_cons (ws_append (by walk_at "pl") ?_ (by rw [List.length_map, PySem.sizeLine]; omega))
            walk_at "X"
            refine ⟨by walk_at "sz", ?_⟩
            walk_at "nil"
            rw [List.map_append]
            exact ⟨_, _, _, rfl⟩
          · have e2 : ¬ l.2.1 = path.headD 0 := fun z => e2 (congrArg Nat.cast z)
            walk_at "if"
            refine wt_ww (ww_and ?_)
            walk_at "t"
            walk_at "X"
            refine ixd_t (atI_head (d := 0) h0) ?_
            refine wo_gt ⟨_, rfl, iteD (fun e3 => ?_) fun e3 => ?_⟩
            · have e3 : path.headD 0 < l.2.1 := by
                have : (path.headD 0 : Int) < (l.2.1 : Int) := e3
                omega
              refine ww_and1 ?_
              walk_at "t"
              walk_at "X"
              refine wo_nin .t rfl (flats_nat _) ⟨_, rfl, ?_⟩
              rw [inF_nat]
              refine iteDn (fun e4 => ?_) fun e4 => ?_
              · have ec : clStep ss k path total l = closing ss k (path ++ [l.2.1]) (total + l.2.2) := by
                  unfold clStep
                  rw [if_pos e, if_neg e2, if_pos ⟨e3, e4⟩]
                rw [ec] at hlen ⊢
                refine wb_cons (ws_frz (x := "found") (by walk_at "pl") (ws_asgL (by walk_at "pl") (wl_cat ?_) nd))
                walk_at "X"
                refine we_call G hr ?_
                walk_at "X"
                refine ⟨by walk_at "sz", ?_⟩
                refine wo_addT (ds := path.map encN) (es := [Dt.int (l.2.1 : Int)]) (by simpa using h0) (List.cons_ne_nil _ _) (by rw [List.length_map, List.length_cons, List.length_nil, PySem.sizeLine]; omega) ?_
                walk_at "X"
                refine ⟨ss, path ++ [l.2.1], total + l.2.2, ?_, ?_, by simp, ?_, ?_, hs2, hsn, hn6, ?_⟩
                · rw [List.map_append]
                  rfl
                · rw [List.length_append]
                  show path.length + 1 + k = _
                  omega
                · exact List.nodup_append.mpr ⟨hd, List.nodup_cons.mpr ⟨List.not_mem_nil, List.nodup_nil⟩, fun a ha b hb' => by
                    rw [List.mem_singleton] at hb'
                    subst hb'
                    intro z
                    subst z
                    exact e4 ha⟩
                · intro x hx'
                  rcases List.mem_append.mp hx' with hx' | hx'
                  · exact hb x hx'
                  · rw [List.mem_singleton] at hx'
                    subst hx'
                    exact hs2 l hm
                · refine ⟨_, _, rfl, rfl, by rw [List.length_map, List.length_map, PySem.sizeLine]; omega, ?_⟩
                  walk_at "nil"
                  rw [← List.map_append]
                  exact ⟨_, _, _, rfl⟩
              · have ec : clStep ss k path total l = [] := by
                  unfold clStep
                  rw [if_pos e, if_neg e2, if_neg fun z => z.2 e4]
                rw [ec, List.append_nil]
                walk_at "nil"
                exact ⟨_, _, _, rfl⟩
            · have e3 : ¬ path.headD 0 < l.2.1 := fun z => e3 (by
                show (path.headD 0 : Int) < (l.2.1 : Int)
                omega)
              have ec : clStep ss k path total l = [] := by
                unfold clStep
                rw [if_pos e, if_neg e2, if_neg fun z => e3 z.1]
              rw [if_neg (by decide), ec, List.append_nil]
              walk_at "nil"
              exact ⟨_, _, _, rfl⟩
        · have e : ¬ l.1 = path.getLastD 0 := fun z => e (congrArg Nat.cast z)
          have ec : clStep ss k path total l = [] := by
            unfold clStep
            rw [if_neg e]
          rw [ec, List.append_nil]
          walk_at "nil"
          exact ⟨_, _, _, rfl⟩
      · obtain ⟨s1, s2, s3, rfl⟩ := he
        refine wb_frz (x := "found") (by walk_at "pl") ?_
        walk_at "ret"
        walk_at "X"
        exact q
end
end Cr
namespace Cr
open PySem PySem.Spec L2 Fw
section
variable {P : Program} {w : World} {K : PySem.W.Frag} {mg : Str → Option Value} {base : Heap} {C Cp : Addr} {k : Nat}
theorem ok_least {f : Addr} {fd : FuncData} (D : Df K mg "least_ring" sleast_ring f fd) (T : Tx K mg C Cp) (G1 : Ok P w K mg base k "useful_steps" ["custom", "flags"] (tSteps C)) (G2 : ∀ n, n ≤ 6 → Ok P w K mg base k "closing_rings" ["steps", "path", "total"] (tClosing n n)) : Ok P w K mg base (k + 1) "least_ring" ["custom", "flags"] (tLeast C) := by
  refine ok_def D scleast_ring (fun ds Φ h => ?_) (fun _ _ _ _ _ _ us hl => match us, hl with | [_, _], _ => rfl) fun cdv A outer s F H E hr ds Φ h => ?_
  · obtain ⟨_, _, rfl, _⟩ := h
    rfl
  · obtain ⟨c, fl, rfl, hg, hfl, q⟩ := h
    have nd := scleast_ring.nd
    have n6 : c.n ≤ 6 := hg.n6
    have hss : ∀ l ∈ c.ss fl, l.2.1 < c.n := fun l hl => (hg.lb l (ss_mem.mp hl).1).2.1
    have hout : ∀ t, ((c.ss fl).filter fun l => decide (l.1 = t)).length ≤ 6 := fun t => Nat.le_trans (out_len (ss_nd hg fl) hss t) n6
    dsimp only [mkE]
    refine wb_cons (ws_asg (by walk_at "pl") (we_call G1 hr ?_) nd)
    walk_at "X"
    refine ⟨c, fl, rfl, hg, hfl, ?_⟩
    refine wb_cons (ws_asg (by walk_at "pl") ?_ nd)
    walk_at "X"
    refine wb_cons (ws_for (List.range fl.length) encN (fun pre env1 => ∃ s1 s2 s3 : SD, env1 = ([("custom", .dat (c.dat C)), ("flags", .dat (.lst (fl.map .bl))), ("steps", .dat (.lst ((c.ss fl).map enc3))), ("best", .dat (encBest (leastR (pre.flatMap fun i => closing (c.ss fl) c.n [i] 0)))), ("first", s1), ("ring", s2), ("total", s3)] : Env'))
      (wi_r T.rng (we_len T.len ?_)) ⟨_, _, _, rfl⟩ (fun pre x post env1 hx he => ?_) (fun env1 he => ?_) nd)
    · walk_at "X"
      refine len_l ⟨fl.length, by rw [List.length_map], by omega, rfl⟩
    · obtain ⟨s1, s2, s3, rfl⟩ := he
      have hxn : x < c.n := by
        have : x ∈ List.range fl.length := by
          rw [hx]
          exact List.mem_append_right _ List.mem_cons_self
        rw [← hfl]
        exact List.mem_range.mp this
      refine ⟨_, _, by walk_at "tg", ?_⟩
      refine wb_cons (ws_for (closing (c.ss fl) c.n [x] 0) encRg (fun pre2 env1 => ∃ s2 s3 : SD, env1 = ([("custom", .dat (c.dat C)), ("flags", .dat (.lst (fl.map .bl))), ("steps", .dat (.lst ((c.ss fl).map enc3))), ("best", .dat (encBest (leastR ((pre.flatMap fun i => closing (c.ss fl) c.n [i] 0) ++ pre2)))), ("first", .dat (encN x)), ("ring", s2), ("total", s3)] : Env'))
        (wi_l (we_call (G2 c.n n6) hr ?_)) ⟨_, _, by rw [List.append_nil]⟩ (fun pre2 r post2 env1 hx2 he => ?_) (fun env1 he => ?_) nd)
      · walk_at "X"
        refine ⟨by walk_at "sz", ?_⟩
        walk_at "X"
        refine ⟨c.ss fl, [x], 0, rfl, by rw [List.length_singleton]; omega, by simp, by simp, fun y hy => ?_, hss, ss_nd hg fl, n6, ⟨_, rfl, rfl⟩⟩
        rw [List.mem_singleton] at hy
        rw [hy]
        exact hxn
      · obtain ⟨s2, s3, rfl⟩ := he
        have hrl : r.1.length ≤ 1 + c.n := closing_plen _ _ _ r (by rw [hx2]; exact List.mem_append_right _ List.mem_cons_self)
        have hbest : ∀ b, leastR ((pre.flatMap fun i => closing (c.ss fl) c.n [i] 0) ++ pre2) = some b → b.1.length ≤ 1 + c.n := fun b hb => by
          rcases List.mem_append.mp (leastR_mem hb) with h | h
          · obtain ⟨i, _, h⟩ := List.mem_flatMap.mp h
            exact closing_plen _ _ _ b h
          · exact closing_plen c.n [x] 0 b (by rw [hx2]; exact List.mem_append_left _ h)
        rw [← List.append_assoc, leastR_snoc]
        generalize leastR ((pre.flatMap fun i => closing (c.ss fl) c.n [i] 0) ++ pre2) = b at hbest
        refine ⟨_, _, by walk_at "tg", ?_⟩
        walk_at "if"
        refine wt_ww (ww_or ?_)
        walk_at "t"
        walk_at "X"
        cases b with
        | none =>
          refine ⟨true, rfl, ?_⟩
          rw [if_pos rfl, if_pos rfl]
          refine wb_cons (ws_asg (by walk_at "pl") ?_ nd)
          walk_at "X"
          refine ⟨by walk_at "sz", ?_⟩
          walk_at "nil"
          exact ⟨_, _, rfl⟩
        | some b =>
          have hb6 := hbest b rfl
          refine ⟨false, rfl, ?_⟩
          rw [if_neg Bool.false_ne_true]
          refine ww_or1 ?_
          walk_at "t"
          walk_at "x"
          walk_at "x"
          refine we_len T.len ?_
          walk_at "X"
          refine ixd_t (v := .tup false (b.1.map encN)) rfl (len_t ?_)
          rw [List.length_map]
          refine wo_mul (.inr ⟨by omega, by omega⟩) ?_
          walk_at "X"
          refine ixd_t (v := .int (b.2 : Int)) rfl ?_
          refine we_len T.len ?_
          walk_at "X"
          refine len_t ?_
          rw [List.length_map]
          refine wo_mul (.inr ⟨by omega, by omega⟩) ?_
          refine wo_lt ⟨_, rfl, iteD (fun e => ?_) fun e => ?_⟩
          · refine wb_cons (ws_asg (by walk_at "pl") ?_ nd)
            walk_at "X"
            refine ⟨by walk_at "sz", ?_⟩
            walk_at "nil"
            rw [better_pos e]
            exact ⟨_, _, rfl⟩
          · walk_at "nil"
            rw [better_neg e]
            exact ⟨_, _, rfl⟩
      · obtain ⟨s2, s3, rfl⟩ := he
        walk_at "nil"
        rw [List.flatMap_append, List.flatMap_cons, List.flatMap_nil, List.append_nil]
        exact ⟨_, _, _, rfl⟩
    · obtain ⟨s1, s2, s3, rfl⟩ := he
      walk_at "ret"
      walk_at "X"
      rw [hfl]
      exact q
end
end Cr
namespace Cr
open PySem PySem.Spec L2 Fw
section
variable {P : Program} {w : World} {K : PySem.W.Frag} {mg : Str → Option Value} {base : Heap} {C Cp : Addr} {k : Nat}
theorem ok_pinit {f : Addr} {fd : FuncData} (M : Mk K Cp f) (D : FunD K "__init__" "Pace.__init__" (defArgs iPace) (defBody iPace) (defScope iPace) [] [] f fd) (T : Tx K mg C Cp) : OkI P w K mg base (k + 1) "Pace" Cp ["self", "top", "bottom", "ring", "potentials"] tPaceI := by
  refine ok_init T.gP M D icPace (fun ds Φ h => ?_) (fun _ _ _ _ _ _ us hl => match us, hl with | [_, _, _, _, _], _ => rfl) fun cdv A outer s F H Hn E y hr ds Φ h => ?_
  · obtain ⟨_, _, _, _, rfl, _⟩ := h
    rfl
  · obtain ⟨a, b, r, p, rfl, q⟩ := h
    dsimp only [mkE]
    refine wb_cons (ws_self (x := "self") (by walk_at "pl") T.cP (T.nP _ (by simp)) (by decide) ?_)
    walk_at "X"
    refine wb_cons (ws_self (x := "self") (by walk_at "pl") T.cP (T.nP _ (by simp)) (by exact Nat.le_of_ble_eq_true rfl) ?_)
    walk_at "X"
    refine wb_cons (ws_self (x := "self") (by walk_at "pl") T.cP (T.nP _ (by simp)) (by exact Nat.le_of_ble_eq_true rfl) ?_)
    walk_at "X"
    refine wb_cons (ws_self (x := "self") (by walk_at "pl") T.cP (T.nP _ (by simp)) (by exact Nat.le_of_ble_eq_true rfl) ?_)
    walk_at "X"
    walk_at "nil"
    exact ⟨_, _, rfl, q⟩
theorem ok_known {f : Addr} {fd : FuncData} (D : Df K mg "check_known" scheck_known f fd) (T : Tx K mg C Cp) : Ok P w K mg base (k + 1) "check_known" ["offices", "names"] tChkKn := by
  refine ok_def D sccheck_known (fun ds Φ h => ?_) (fun _ _ _ _ _ _ us hl => match us, hl with | [_, _], _ => rfl) fun cdv A outer s F H E hr ds Φ h => ?_
  · obtain ⟨_, _, _, _, rfl, _⟩ := h
    rfl
  · obtain ⟨offs, xs, a, b, rfl, hx, q⟩ := h
    have nd := sccheck_known.nd
    dsimp only [mkE]
    refine wb_cons (ws_for xs .str (fun pre env1 => ∃ s1 : SD, env1 = ([("offices", .dat (.tup a (offs.map .str))), ("names", .dat (.tup b (xs.map .str))), ("name", s1)] : Env'))
      (wi_t ?_) ⟨_, rfl⟩ (fun pre x post env1 hx2 he => ?_) (fun env1 he => ?_) nd)
    · walk_at "X"
      exact ⟨_, _, rfl, rfl⟩
    · obtain ⟨s1, rfl⟩ := he
      have hm : x ∈ offs := hx x (by rw [hx2]; exact List.mem_append_right _ List.mem_cons_self)
      refine ⟨_, _, by walk_at "tg", ?_⟩
      walk_at "if"
      walk_at "t"
      walk_at "X"
      refine wo_nin .t rfl (flats_str _) ⟨_, rfl, ?_⟩
      rw [inF_str]
      refine iteDn (fun z => (z hm).elim) fun _ => ?_
      walk_at "nil"
      exact ⟨_, rfl⟩
    · obtain ⟨s1, rfl⟩ := he
      walk_at "nil"
      exact q
theorem ok_place {f : Addr} {fd : FuncData} (D : Df K mg "office_place" soffice_place f fd) (T : Tx K mg C Cp) (G : Ok P w K mg base k "check_known" ["offices", "names"] tChkKn) : Ok P w K mg base (k + 1) "office_place" ["custom", "office"] (tPlace C) := by
  refine ok_def D scoffice_place (fun ds Φ h => ?_) (fun _ _ _ _ _ _ us hl => match us, hl with | [_, _], _ => rfl) fun cdv A outer s F H E hr ds Φ h => ?_
  · obtain ⟨_, _, rfl, _⟩ := h
    rfl
  · obtain ⟨c, i, rfl, hg, hi, q⟩ := h
    have nd := scoffice_place.nd
    dsimp only [mkE]
    refine wb_cons (ws_expr (we_call G hr ?_))
    walk_at "x"
    refine we_offices T c c.ord ?_
    walk_at "X"
    refine ⟨rfl, ?_⟩
    walk_at "X"
    refine ⟨by walk_at "sz", ?_⟩
    walk_at "X"
    refine ⟨c.names, [c.nm i], true, false, rfl, fun x hx => ?_, ?_⟩
    · rw [List.mem_singleton] at hx
      rw [hx]
      exact Cu.nm_mem hi
    walk_at "ret"
    refine we_tindex (we_offices T c c.ord ?_)
    walk_at "X"
    refine ⟨rfl, c.names, rfl, ?_⟩
    walk_at "X"
    refine ⟨_, i, rfl, Cu.nm_at hi, fun m hm e => ?_, q⟩
    have h1 : m < c.n := by omega
    have h2 := Cu.nm_at h1
    rw [e] at h2
    have := Cu.nm_inj hg.nd hi h1 (Option.some.inj h2)
    omega
theorem pace_body {f : Addr} (T : Tx K mg C Cp) (G1 : Ok P w K mg base k "office_place" ["custom", "office"] (tPlace C)) (G2 : Ok P w K mg base k "useful_flags" ["custom", "at"] (tUseful C)) (G3 : Ok P w K mg base k "least_ring" ["custom", "flags"] (tLeast C))
    (G4 : Ok P w K mg base k "least_potentials" ["custom", "flags", "top", "bottom"] (tPots C)) (G5 : ∀ j, OkI P w K mg base (j + 1) "Pace" Cp ["self", "top", "bottom", "ring", "potentials"] tPaceI) (hk : 2 ≤ k) : ∀ (cdv : Value) (A : Around) (outer : List Env) (s : Shared) (F H : Hp) (E : XK), Room k (A.deeper (PyProof.Rows.envOfC "pace" (defScope space) s.heap.objs.size f cdv)) → ∀ ds Φ, tPace C Cp ds Φ → WB (bdOf P w K mg base Npace "pace" space f cdv A outer s F H E) (defBody space) (mkE Npace ds) { nx := fun _ => Φ .non, rt := Φ } := fun cdv A outer s F H E hr ds Φ h => by
  obtain ⟨c, i, rfl, hg, hi, q⟩ := h
  have nd := scpace.nd
  have n6 : c.n ≤ 6 := hg.n6
  dsimp only [mkE]
  refine wb_cons (ws_asg (by walk_at "pl") (we_call G2 hr ?_) nd)
  walk_at "X"
  refine we_call G1 hr ?_
  walk_at "X"
  refine ⟨c, i, rfl, hg, hi, ?_⟩
  walk_at "X"
  refine ⟨c, i, rfl, hg, hi, ?_⟩
  refine wb_cons (ws_asg (by walk_at "pl") (we_call G3 hr ?_) nd)
  walk_at "X"
  refine ⟨c, c.flags i, rfl, hg, flags_len c i, ?_⟩
  have hs : ∀ l ∈ c.ss (c.flags i), l.2.1 < c.n := fun l hl => (hg.lb l (ss_mem.mp hl).1).2.1
  have hbest := fun r (h : leastR (ringsP c.n (c.ss (c.flags i))) = some r) => ringsP_in hs (leastR_mem h)
  unfold Cu.told Cu.best at q
  generalize leastR (ringsP c.n (c.ss (c.flags i))) = b at hbest q
  walk_at "if"
  walk_at "t"
  walk_at "X"
  cases b with
  | none =>
    refine ⟨true, rfl, ?_⟩
    rw [if_pos rfl]
    walk_at "ret"
    walk_at "X"
    exact q
  | some r =>
    obtain ⟨hr1, hr2, hr3⟩ := hbest r rfl
    have hpos : 0 < r.1.length := List.length_pos_iff.mpr hr2
    have hgc : 0 < Nat.gcd r.2 r.1.length := Nat.gcd_pos_of_pos_right _ hpos
    have hgl : Nat.gcd r.2 r.1.length ≤ r.1.length := Nat.gcd_le_right _ hpos
    refine ⟨false, rfl, ?_⟩
    rw [if_neg Bool.false_ne_true]
    walk_at "nil"
    refine wb_cons (ws_asgT ?_ nd)
    walk_at "X"
    refine ⟨_, _, by walk_at "tg", ?_⟩
    refine wb_cons (ws_asg (by walk_at "pl") (we_gcd T.gcd ?_) nd)
    walk_at "X"
    refine we_len T.len ?_
    walk_at "X"
    refine len_t ⟨_, _, rfl, rfl, ?_⟩
    rw [List.length_map, Int.natAbs_natCast, Int.natAbs_natCast]
    refine wb_cons (ws_asg (by walk_at "pl") ?_ nd)
    walk_at "X"
    refine wo_fdiv ⟨by omega, by omega⟩ ?_
    rw [← Int.natCast_ediv]
    refine wb_cons (ws_asg (by walk_at "pl") ?_ nd)
    walk_at "x"
    refine we_len T.len ?_
    walk_at "X"
    refine len_t ?_
    rw [List.length_map]
    walk_at "X"
    refine wo_fdiv ⟨by omega, by omega⟩ ?_
    rw [← Int.natCast_ediv]
    refine wb_cons (ws_asg (by walk_at "pl") (we_tuple T.tup (we_wl (wl_lc1 10 r.1 encN (fun _ => true) (fun x => .str (c.nm x)) (by walk_at "pl") (wi_t ?_) (fun l hl s Hh C cl fp => wts_nil rfl) (fun x hx _ s Hh C' cl fp => ?_) (by omega) ?_ nd (blkOk_by (N := Npace) (sc := defScope space) (by decide +kernel))))) nd)
    · walk_at "X"
      exact ⟨_, _, rfl, rfl⟩
    · refine we_ix (we_offices T c c.ord ?_)
      walk_at "X"
      refine ⟨rfl, ?_⟩
      walk_at "X"
      refine ixd_t (atI_nat (v := .str (c.nm x)) ?_) rfl
      rw [List.getElem?_map, Cu.nm_at (hr1 x hx)]
      rfl
    rw [filt_true]
    refine ⟨_, rfl, ?_⟩
    walk_at "ret"
    refine we_make (G5 (k - 2)) (hr.mono (by omega)) ?_
    walk_at "X"
    refine we_call G4 hr ?_
    walk_at "X"
    refine ⟨c, c.flags i, _, _, rfl, hg, flags_len c i, ?_⟩
    walk_at "X"
    refine ⟨_, _, _, _, rfl, ?_⟩
    have e : r.1.map (fun x => Dt.str (c.nm x)) = (r.1.map c.nm).map Dt.str := by rw [List.map_map]; rfl
    rw [e]
    exact q
theorem ok_pace {f : Addr} {fd : FuncData} (D : Df K mg "pace" space f fd) (T : Tx K mg C Cp) (G1 : Ok P w K mg base k "office_place" ["custom", "office"] (tPlace C)) (G2 : Ok P w K mg base k "useful_flags" ["custom", "at"] (tUseful C)) (G3 : Ok P w K mg base k "least_ring" ["custom", "flags"] (tLeast C))
    (G4 : Ok P w K mg base k "least_potentials" ["custom", "flags", "top", "bottom"] (tPots C)) (G5 : ∀ j, OkI P w K mg base (j + 1) "Pace" Cp ["self", "top", "bottom", "ring", "potentials"] tPaceI) (hk : 2 ≤ k) : Ok P w K mg base (k + 1) "pace" ["custom", "office"] (tPace C Cp) :=
  ok_def D scpace (fun ds Φ h => by obtain ⟨_, _, rfl, _⟩ := h; rfl) (fun _ _ _ _ _ _ us hl => match us, hl with | [_, _], _ => rfl) (pace_body T G1 G2 G3 G4 G5 hk)
theorem okK_pace {f : Addr} {fd : FuncData} (D : Df K mg "pace" space f fd) (T : Tx K mg C Cp) (G1 : Ok P w K mg base k "office_place" ["custom", "office"] (tPlace C)) (G2 : Ok P w K mg base k "useful_flags" ["custom", "at"] (tUseful C)) (G3 : Ok P w K mg base k "least_ring" ["custom", "flags"] (tLeast C))
    (G4 : Ok P w K mg base k "least_potentials" ["custom", "flags", "top", "bottom"] (tPots C)) (G5 : ∀ j, OkI P w K mg base (j + 1) "Pace" Cp ["self", "top", "bottom", "ring", "potentials"] tPaceI) (hk : 2 ≤ k) : OkK P w K mg base (k + 1) "pace" ["custom", "office"] (tPace C Cp) :=
  ok_defK D scpace (fun ds Φ h => by obtain ⟨_, _, rfl, _⟩ := h; rfl) (fun _ _ _ _ _ _ us hl => match us, hl with | [_, _], _ => rfl) (pace_body T G1 G2 G3 G4 G5 hk)
end
end Cr
namespace Cr
open PySem PySem.Spec L2 Fw
section
variable {P : Program} {w : World} {K : PySem.W.Frag} {mg : Str → Option Value} {base : Heap} {C Cp : Addr} {k : Nat}
theorem row0_enc {c : Cu} (g : c.Good) : c.names.map (fun x => encO (if x ∈ c.fnd then some 0 else none)) = (row0 c.n c.fo).map encO := by
  unfold row0
  rw [List.map_map]
  conv => lhs; rw [Cu.names_eq c]
  rw [List.map_map]
  apply List.map_congr_left
  intro k hk
  have := Cu.mem_fnd g (List.mem_range.mp hk)
  simp only [Function.comp, this]
theorem ok_row0 {f : Addr} {fd : FuncData} (D : Df K mg "founding_row" sfounding_row f fd) (T : Tx K mg C Cp) : Ok P w K mg base (k + 1) "founding_row" ["custom"] (tRow0 C) := by
  refine ok_def D scfounding_row (fun ds Φ h => ?_) (fun _ _ _ _ _ _ us hl => match us, hl with | [_], _ => rfl) fun cdv A outer s F H E hr ds Φ h => ?_
  · obtain ⟨_, rfl, _⟩ := h
    rfl
  · obtain ⟨c, rfl, hg, q⟩ := h
    have nd := scfounding_row.nd
    have n6 := hg.n6
    dsimp only [mkE]
    walk_at "ret"
    refine we_tuple T.tup (we_wl (wl_lc1 1 c.names .str (fun _ => true) (fun x => encO (if x ∈ c.fnd then some 0 else none)) (by walk_at "pl") (wi_t (we_offices T c c.ord ?_)) (fun l hl s Hh C cl fp => wts_nil rfl) (fun x hx _ s Hh C' cl fp => ?_) (by omega) ?_ nd (blkOk_by (N := Nfounding_row) (sc := defScope sfounding_row) (by decide +kernel))))
    · walk_at "x"
      exact ⟨rfl, _, _, rfl, rfl⟩
    · refine we_ifx ?_
      walk_at "t"
      walk_at "X"
      refine we_founding T c c.ord ?_
      walk_at "X"
      refine ⟨rfl, wo_in .t rfl (flats_str _) ⟨_, rfl, ?_⟩⟩
      rw [inF_str]
      refine iteD (fun h => ?_) fun h => ?_
      · walk_at "X"
        rw [if_pos h]
        rfl
      · walk_at "X"
        rw [if_neg h]
        rfl
    · rw [filt_true, row0_enc hg]
      exact ⟨_, rfl, q⟩
theorem isN_encO (a : Option Nat) : isN (encO a) = a.isNone := by cases a <;> rfl
theorem ok_lesser {f : Addr} {fd : FuncData} (D : Df K mg "lesser_length" slesser_length f fd) (T : Tx K mg C Cp) : Ok P w K mg base (k + 1) "lesser_length" ["one", "two"] tLesser := by
  refine ok_def D sclesser_length (fun ds Φ h => ?_) (fun _ _ _ _ _ _ us hl => match us, hl with | [_, _], _ => rfl) fun cdv A outer s F H E hr ds Φ h => ?_
  · obtain ⟨_, _, rfl, _⟩ := h
    rfl
  · obtain ⟨a, b, rfl, q⟩ := h
    have nd := sclesser_length.nd
    dsimp only [mkE]
    walk_at "if"
    walk_at "t"
    walk_at "X"
    cases a with
    | none =>
      refine ⟨true, rfl, ?_⟩
      rw [if_pos rfl]
      walk_at "ret"
      walk_at "X"
      exact q
    | some x =>
      refine ⟨false, rfl, ?_⟩
      rw [if_neg Bool.false_ne_true]
      walk_at "nil"
      walk_at "if"
      walk_at "t"
      walk_at "X"
      cases b with
      | none =>
        refine ⟨true, rfl, ?_⟩
        rw [if_pos rfl]
        walk_at "ret"
        walk_at "X"
        exact q
      | some y =>
        refine ⟨false, rfl, ?_⟩
        rw [if_neg Bool.false_ne_true]
        walk_at "nil"
        walk_at "ret"
        refine we_min2 T.min rfl ?_
        walk_at "X"
        refine ⟨(x : Int), (y : Int), rfl, rfl, ?_⟩
        have e : encO (lesser (some x) (some y)) = .int (if (y : Int) < (x : Int) then (y : Int) else (x : Int)) := by
          show Dt.int (((if y < x then y else x : Nat)) : Int) = _
          congr 1
          split <;> split <;> first | rfl | omega
        rw [← e]
        exact q
theorem ok_lsum {f : Addr} {fd : FuncData} (D : Df K mg "length_sum" slength_sum f fd) (T : Tx K mg C Cp) : Ok P w K mg base (k + 1) "length_sum" ["one", "two"] tLsum := by
  refine ok_def D sclength_sum (fun ds Φ h => ?_) (fun _ _ _ _ _ _ us hl => match us, hl with | [_, _], _ => rfl) fun cdv A outer s F H E hr ds Φ h => ?_
  · obtain ⟨_, _, rfl, _⟩ := h
    rfl
  · obtain ⟨a, b, rfl, q⟩ := h
    have nd := sclength_sum.nd
    dsimp only [mkE]
    walk_at "if"
    refine wt_ww (ww_or ?_)
    walk_at "t"
    walk_at "X"
    cases a with
    | none =>
      refine ⟨true, rfl, ?_⟩
      rw [if_pos rfl, if_pos rfl]
      walk_at "ret"
      walk_at "X"
      exact q
    | some x =>
      refine ⟨false, rfl, ?_⟩
      rw [if_neg Bool.false_ne_true]
      refine ww_or1 ?_
      walk_at "t"
      walk_at "X"
      cases b with
      | none =>
        refine ⟨true, rfl, ?_⟩
        rw [if_pos rfl]
        walk_at "ret"
        walk_at "X"
        exact q
      | some y =>
        refine ⟨false, rfl, ?_⟩
        rw [if_neg Bool.false_ne_true]
        walk_at "nil"
        walk_at "ret"
        walk_at "X"
        exact q
theorem ok_rowmat {f : Addr} {fd : FuncData} (D : Df K mg "row_by_matrix" srow_by_matrix f fd) (T : Tx K mg C Cp) (G1 : Ok P w K mg base k "lesser_length" ["one", "two"] tLesser) (G2 : Ok P w K mg base k "length_sum" ["one", "two"] tLsum) : Ok P w K mg base (k + 1) "row_by_matrix" ["row", "matrix"] tRowMat := by
  refine ok_def D scrow_by_matrix (fun ds Φ h => ?_) (fun _ _ _ _ _ _ us hl => match us, hl with | [_, _], _ => rfl) fun cdv A outer s F H E hr ds Φ h => ?_
  · obtain ⟨_, _, rfl, _⟩ := h
    rfl
  · obtain ⟨row, m, rfl, hm, hl6, hrow, q⟩ := h
    have nd := scrow_by_matrix.nd
    dsimp only [mkE]
    refine wb_cons (ws_asgL (by walk_at "pl") (wl_lst (wa_nil ⟨Nat.zero_le _, ?_⟩)) nd)
    let g : Nat → Option Nat := fun to => (List.range row.length).foldl (fun best i => lesser best (lsum (row.getD i none) ((m.getD i []).getD to none))) none
    refine wb_cons (ws_for (List.range row.length) encN (fun pre env1 => ∃ s1 s2 s3 : SD, env1 = ([("row", .dat (encRow row)), ("matrix", .dat (.lst (m.map encRow))), ("result", .own ((pre.map g).map encO)), ("to", s1), ("best", s2), ("at", s3)] : Env'))
      (wi_r T.rng (we_len T.len ?_)) ⟨_, _, _, rfl⟩ (fun pre to post env1 hx he => ?_) (fun env1 he => ?_) nd)
    · walk_at "X"
      refine len_l ⟨row.length, by rw [List.length_map], by omega, rfl⟩
    · obtain ⟨s1, s2, s3, rfl⟩ := he
      have hto : to < row.length := by
        have : to ∈ List.range row.length := by
          rw [hx]
          exact List.mem_append_right _ List.mem_cons_self
        exact List.mem_range.mp this
      have hpre : pre.length < row.length := by
        have := congrArg List.length hx
        rw [List.length_append, List.length_cons, List.length_range] at this
        omega
      refine ⟨_, _, by walk_at "tg", ?_⟩
      refine wb_cons (ws_asg (by walk_at "pl") ?_ nd)
      walk_at "X"
      refine wb_cons (ws_for (List.range row.length) encN (fun pre2 env1 => ∃ s3 : SD, env1 = ([("row", .dat (encRow row)), ("matrix", .dat (.lst (m.map encRow))), ("result", .own ((pre.map g).map encO)), ("to", .dat (encN to)), ("best", .dat (encO (pre2.foldl (fun best i => lesser best (lsum (row.getD i none) ((m.getD i []).getD to none))) none))), ("at", s3)] : Env'))
        (wi_r T.rng (we_len T.len ?_)) ⟨_, rfl⟩ (fun pre2 i post2 env1 hx2 he => ?_) (fun env1 he => ?_) nd)
      · walk_at "X"
        refine len_l ⟨row.length, by rw [List.length_map], by omega, rfl⟩
      · obtain ⟨s3, rfl⟩ := he
        have hi : i < row.length := by
          have : i ∈ List.range row.length := by
            rw [hx2]
            exact List.mem_append_right _ List.mem_cons_self
          exact List.mem_range.mp this
        have him : i < m.length := by omega
        have hmi : (m.getD i []).length = row.length := hrow _ (by
          rw [List.getD_eq_getElem?_getD, List.getElem?_eq_getElem him]
          exact List.getElem_mem _)
        refine ⟨_, _, by walk_at "tg", ?_⟩
        refine wb_cons (ws_asg (by walk_at "pl") (we_call G1 hr ?_) nd)
        walk_at "X"
        refine we_call G2 hr ?_
        walk_at "X"
        refine ixd_l (atI_enc (d := none) hi) ?_
        walk_at "X"
        refine ixd_l (atI_enc (d := []) him) ?_
        walk_at "X"
        refine ixd_l (atI_enc (d := none) (by rw [hmi]; exact hto)) ?_
        walk_at "X"
        refine ⟨_, _, rfl, ?_⟩
        walk_at "X"
        refine ⟨_, _, rfl, ?_⟩
        walk_at "nil"
        rw [List.foldl_append]
        exact ⟨_, rfl⟩
      · obtain ⟨s3, rfl⟩ := he
        refine wb_cons (ws_append (by walk_at "pl") ?_ (by rw [List.length_map, List.length_map, PySem.sizeLine]; omega))
        walk_at "X"
        walk_at "nil"
        rw [List.map_append, List.map_append]
        exact ⟨_, _, _, rfl⟩
    · obtain ⟨s1, s2, s3, rfl⟩ := he
      refine wb_frz (x := "result") (by walk_at "pl") ?_
      walk_at "ret"
      walk_at "X"
      exact q
end
end Cr
namespace Cr
open PySem PySem.Spec L2 Fw
section
variable {P : Program} {w : World} {K : PySem.W.Frag} {mg : Str → Option Value} {base : Heap} {C Cp : Addr} {k : Nat}
theorem ok_depth {f : Addr} {fd : FuncData} (D : Df K mg "depth_row" sdepth_row f fd) (T : Tx K mg C Cp) (G1 : Ok P w K mg base k "founding_row" ["custom"] (tRow0 C)) (G2 : Ok P w K mg base k "lesson_matrix" ["custom"] (tMatrix C)) (G3 : Ok P w K mg base k "row_by_matrix" ["row", "matrix"] tRowMat) : Ok P w K mg base (k + 1) "depth_row" ["custom", "generation"] (tDepth C) := by
  refine ok_def D scdepth_row (fun ds Φ h => ?_) (fun _ _ _ _ _ _ us hl => match us, hl with | [_, _], _ => rfl) fun cdv A outer s F H E hr ds Φ h => ?_
  · obtain ⟨_, _, rfl, _⟩ := h
    rfl
  · obtain ⟨c, g, rfl, hg, q⟩ := h
    have nd := scdepth_row.nd
    have n6 : c.n ≤ 6 := hg.n6
    have hM := lessonM_ok (n := c.n) fun l hl => (hg.lb l hl).1
    dsimp only [mkE]
    refine wb_cons (ws_asgL (by walk_at "pl") (wl_list T.lst (we_call G1 hr ?_)) nd)
    walk_at "X"
    refine ⟨c, rfl, hg, _, .t, ?_⟩
    refine wb_frz (x := "row") (by walk_at "pl") ?_
    refine wb_cons (ws_asg (by walk_at "pl") (we_call G2 hr ?_) nd)
    walk_at "X"
    refine ⟨c, rfl, hg, ?_⟩
    refine wb_cons (ws_asg (by walk_at "pl") ?_ nd)
    walk_at "X"
    refine wb_cons (ws_while (fun m env1 => ∃ (fuel rest : Nat) (row : Row) (M : List Row), env1 = ([("custom", .dat (c.dat C)), ("generation", .dat (.int (g : Int))), ("row", .dat (.lst (row.map encO))), ("matrix", .dat (.lst (M.map encRow))), ("rest", .dat (.int (rest : Int))), ("line", .un)] : Env') ∧ rest < fuel ∧ m = rest ∧ row.length = c.n ∧ (M.length = c.n ∧ ∀ r ∈ M, r.length = c.n) ∧ powRow fuel row M rest = depthRow c.n c.les c.fo g) g ⟨g + 1, g, row0 c.n c.fo, lessonM c.n c.les, rfl, by omega, rfl, row0_len _ _, hM, rfl⟩ fun m env1 he => ?_)
    obtain ⟨fuel, rest, row, M, rfl, hf, rfl, hrow, hM, hp⟩ := he
    obtain ⟨fuel, rfl⟩ : ∃ f2, fuel = f2 + 1 := ⟨fuel - 1, by omega⟩
    walk_at "t"
    walk_at "X"
    refine ⟨_, rfl, iteD (fun e => ?_) fun e => ?_⟩
    · have e : 0 < m := by omega
      have ep : powRow (fuel + 1) row M m = powRow fuel (if m % 2 = 1 then rowMat row M else row) (if m / 2 = 0 then M else matSq M) (m / 2) := by
        show (if m = 0 then row else _) = _
        rw [if_neg (by omega)]
      rw [ep] at hp
      -- row = row_by_matrix(row, matrix)
      walk_at "if"
      walk_at "t"
      walk_at "X"
      refine wo_mod (by omega) ?_
      walk_at "X"
      refine ⟨_, rfl, iteD (fun e2 => ?_) fun e2 => ?_⟩
      · rw [if_pos (by omega)] at hp
        refine wb_cons (ws_asg (by walk_at "pl") (we_call G3 hr ?_) nd)
        walk_at "X"
        refine ⟨row, M, rfl, by omega, by omega, fun r h => by rw [hM.2 r h]; omega, ?_⟩
        walk_at "nil"
        have hrow2 : (rowMat row M).length = c.n := by rw [rowMat_len]; exact hrow
        generalize rowMat row M = row2 at hp hrow2
        refine wb_cons (ws_asg (by walk_at "pl") ?_ nd)
        walk_at "X"
        refine wo_fdiv ⟨by omega, by omega⟩ ?_
        walk_at "if"
        walk_at "t"
        walk_at "X"
        refine ⟨_, rfl, iteD (fun e3 => ?_) fun e3 => ?_⟩
        · rw [if_neg (by omega)] at hp
          refine wb_cons (ws_asgL (by walk_at "pl") (wl_lc1 5 M encRow (fun _ => true) (fun r => encRow (rowMat r M)) (by walk_at "pl") (wi_l ?_) (fun l hl s Hh C cl fp => wts_nil rfl) (fun x hx _ s Hh C' cl fp => we_call G3 hr ?_) (by omega) ?_ nd (blkOk_by (N := Ndepth_row) (sc := defScope sdepth_row) (by decide +kernel))) nd)
          · walk_at "X"
            exact ⟨_, rfl, rfl⟩
          · walk_at "X"
            have := hM.2 x hx
            exact ⟨x, M, rfl, by omega, by omega, fun r h => by rw [hM.2 r h]; omega, rfl⟩
          rw [filt_true]
          refine wb_frz (x := "matrix") (by walk_at "pl") ?_
          walk_at "nil"
          refine ⟨m / 2, by omega, fuel, m / 2, row2, matSq M, ?_, by omega, rfl, hrow2, matSq_ok hM, hp⟩
          unfold matSq
          rw [List.map_map]
          rfl
        · rw [if_pos (by omega)] at hp
          walk_at "nil"
          exact ⟨m / 2, by omega, fuel, m / 2, row2, M, rfl, by omega, rfl, hrow2, hM, hp⟩
      · rw [if_neg (by omega)] at hp
        walk_at "nil"
        refine wb_cons (ws_asg (by walk_at "pl") ?_ nd)
        walk_at "X"
        refine wo_fdiv ⟨by omega, by omega⟩ ?_
        walk_at "if"
        walk_at "t"
        walk_at "X"
        refine ⟨_, rfl, iteD (fun e3 => ?_) fun e3 => ?_⟩
        · rw [if_neg (by omega)] at hp
          refine wb_cons (ws_asgL (by walk_at "pl") (wl_lc1 5 M encRow (fun _ => true) (fun r => encRow (rowMat r M)) (by walk_at "pl") (wi_l ?_) (fun l hl s Hh C cl fp => wts_nil rfl) (fun x hx _ s Hh C' cl fp => we_call G3 hr ?_) (by omega) ?_ nd (blkOk_by (N := Ndepth_row) (sc := defScope sdepth_row) (by decide +kernel))) nd)
          · walk_at "X"
            exact ⟨_, rfl, rfl⟩
          · walk_at "X"
            have := hM.2 x hx
            exact ⟨x, M, rfl, by omega, by omega, fun r h => by rw [hM.2 r h]; omega, rfl⟩
          rw [filt_true]
          refine wb_frz (x := "matrix") (by walk_at "pl") ?_
          walk_at "nil"
          refine ⟨m / 2, by omega, fuel, m / 2, row, matSq M, ?_, by omega, rfl, hrow, matSq_ok hM, hp⟩
          unfold matSq
          rw [List.map_map]
          rfl
        · rw [if_pos (by omega)] at hp
          walk_at "nil"
          exact ⟨m / 2, by omega, fuel, m / 2, row, M, rfl, by omega, rfl, hrow, hM, hp⟩
    · have e : m = 0 := by omega
      subst e
      have hp : row = depthRow c.n c.les c.fo g := hp
      walk_at "ret"
      refine we_tuple T.tup ?_
      walk_at "X"
      rw [hp]
      exact ⟨_, rfl, q⟩
end
end Cr
namespace Cr
open PySem PySem.Spec L2 Fw
section
variable {P : Program} {w : World} {K : PySem.W.Frag} {mg : Str → Option Value} {base : Heap} {C Cp : Addr}
theorem ok_frozen {f : Addr} {fd : FuncData} (D : Df K mg "frozen" sfrozen f fd) (T : Tx K mg C Cp) : ∀ k, Ok P w K mg base (k + 1) "frozen" ["value"] (tFrozen k) := by
  have flat : ∀ (k : Nat) (d : Dt), (∃ t, tyD d = some t ∧ (t = "int" ∨ t = "str")) → ∀ (cdv : Value) (A : Around) (outer : List Env) (s : Shared) (F H : Hp) (E : XK) (Φ : PD), Φ d → WB (bdOf P w K mg base Nfrozen "frozen" sfrozen f cdv A outer s F H E) (defBody sfrozen) (mkE Nfrozen [d]) { nx := fun _ => Φ .non, rt := Φ } := by
    intro k d ⟨t, ht, ht2⟩ cdv A outer s F H E Φ q
    have h1 : kitB t "list" = some false := by rcases ht2 with rfl | rfl <;> rfl
    have h2 : kitB t "tuple" = some false := by rcases ht2 with rfl | rfl <;> rfl
    dsimp only [mkE]
    walk_at "if"
    refine wt_ww (ww_or (wt_val (we_isi (n := "list") T.isi T.lst (by decide +kernel) ?_)))
    walk_at "X"
    refine ⟨t, false, ht, h1, false, rfl, ?_⟩
    rw [if_neg Bool.false_ne_true]
    refine ww_or1 (wt_val (we_isi (n := "tuple") T.isi T.tup (by decide +kernel) ?_))
    walk_at "X"
    refine ⟨t, false, ht, h2, false, rfl, ?_⟩
    rw [if_neg Bool.false_ne_true]
    walk_at "nil"
    walk_at "ret"
    walk_at "X"
    exact q
  intro k
  induction k with
  | zero =>
    refine ok_def D scfrozen (fun ds Φ h => ?_) (fun _ _ _ _ _ _ us hl => match us, hl with | [_], _ => rfl) fun cdv A outer s F H E hr ds Φ h => ?_
    · obtain ⟨_, rfl, _⟩ := h
      rfl
    · obtain ⟨d, rfl, hd, q⟩ := h
      have e : frzD 0 d = d := by cases d <;> rfl
      rw [e] at q
      refine flat 0 d ?_ cdv A outer s F H E Φ q
      cases d with
      | int i => exact ⟨_, rfl, .inl rfl⟩
      | str i => exact ⟨_, rfl, .inr rfl⟩
      | lst xs => cases hd
      | tup b xs => cases hd
      | non => cases hd
      | bl _ => cases hd
      | ins _ _ => cases hd
      | dct _ => cases hd
      | scr _ => cases hd
  | succ k G =>
    refine ok_def D scfrozen (fun ds Φ h => ?_) (fun _ _ _ _ _ _ us hl => match us, hl with | [_], _ => rfl) fun cdv A outer s F H E hr ds Φ h => ?_
    · obtain ⟨_, rfl, _⟩ := h
      rfl
    · obtain ⟨d, rfl, hd, q⟩ := h
      have nd := scfrozen.nd
      have seq : ∀ (d : Dt) (xs : List Dt), SeqD d xs → xs.length ≤ 1000 → (∀ x ∈ xs, fzOk k x = true) → Φ (.tup true (xs.map (frzD k))) → WB (bdOf P w K mg base Nfrozen "frozen" sfrozen f cdv A outer s F H E) (defBody sfrozen) (mkE Nfrozen [d]) { nx := fun _ => Φ .non, rt := Φ } := by
        intro d xs hs hl hx q
        have main : ∀ (D : AE), (D.rt = Φ) → WS (bdOf P w K mg base Nfrozen "frozen" sfrozen f cdv A outer s F H E) (match defBody sfrozen with | [.If _ [x] _ _, _] => x | _ => .Pass ⟨0, 0, 0, 0⟩) (mkE Nfrozen [d]) D := by
          intro D hD
          dsimp only [mkE]
          refine ws_ret ?_
          rw [hD]
          have iter : ∀ (Ξ : List Dt → Prop), Ξ xs → ∀ tg p, WIt (bdOf P w K mg base Nfrozen "frozen" sfrozen f cdv A outer s F H E) tg (.Name "value" p) ([("value", .dat d), ("part", .un)] : Env') Ξ := by
            intro Ξ hΞ tg p
            rcases hs with rfl | ⟨nd', rfl⟩
            · refine wi_l ?_
              walk_at "X"
              exact ⟨_, rfl, hΞ⟩
            · refine wi_t ?_
              walk_at "X"
              exact ⟨_, _, rfl, hΞ⟩
          refine we_tuple T.tup (we_wl (wl_lc1 1 xs id (fun _ => true) (frzD k) (by walk_at "pl") (iter (fun ds => ds = xs.map id) (List.map_id _).symm _ _) (fun l hl s Hh C cl fp => wts_nil rfl) (fun x hx' _ s Hh C' cl fp => we_call G hr ?_) (by omega) ?_ nd (blkOk_by (N := Nfrozen) (sc := defScope sfrozen) (by decide +kernel))))
          · walk_at "X"
            exact ⟨x, rfl, hx x hx', rfl⟩
          · rw [filt_true]
            exact ⟨_, rfl, q⟩
        dsimp only [mkE] at main ⊢
        walk_at "if"
        rcases hs with rfl | ⟨nd', rfl⟩
        · refine wt_ww (ww_or (wt_val (we_isi (n := "list") T.isi T.lst (by decide +kernel) ?_)))
          walk_at "X"
          refine ⟨"list", true, rfl, rfl, true, rfl, ?_⟩
          rw [if_pos rfl, if_pos rfl]
          exact wb_cons (main _ rfl)
        · refine wt_ww (ww_or (wt_val (we_isi (n := "list") T.isi T.lst (by decide +kernel) ?_)))
          walk_at "X"
          refine ⟨"tuple", false, rfl, rfl, false, rfl, ?_⟩
          rw [if_neg Bool.false_ne_true]
          refine ww_or1 (wt_val (we_isi (n := "tuple") T.isi T.tup (by decide +kernel) ?_))
          walk_at "X"
          refine ⟨"tuple", true, rfl, rfl, true, rfl, ?_⟩
          rw [if_pos rfl]
          exact wb_cons (main _ rfl)
      cases d with
      | int i => exact flat (k + 1) _ ⟨_, rfl, .inl rfl⟩ cdv A outer s F H E Φ q
      | str i => exact flat (k + 1) _ ⟨_, rfl, .inr rfl⟩ cdv A outer s F H E Φ q
      | lst xs =>
        have hd : (decide (xs.length ≤ 1000) && xs.all (fzOk k)) = true := hd
        rw [Bool.and_eq_true] at hd
        exact seq _ xs .l (of_decide_eq_true hd.1) (fun x hx => List.all_eq_true.mp hd.2 x hx) q
      | tup b xs =>
        have hd : (decide (xs.length ≤ 1000) && xs.all (fzOk k)) = true := hd
        rw [Bool.and_eq_true] at hd
        exact seq _ xs .t (of_decide_eq_true hd.1) (fun x hx => List.all_eq_true.mp hd.2 x hx) q
      | non => cases hd
      | bl _ => cases hd
      | ins _ _ => cases hd
      | dct _ => cases hd
      | scr _ => cases hd
end
end Cr
namespace Cr
open PySem PySem.Spec L2 Fw
section
variable {P : Program} {w : World} {K : PySem.W.Frag} {mg : Str → Option Value} {base : Heap} {C Cp : Addr} {k : Nat}
def abcS : Str := "abcdefghijklmnopqrstuvwxyz"
theorem abcS_list : abcS.cps.toList = letters := by decide +kernel
theorem ok_isoff {f : Addr} {fd : FuncData} (D : Df K mg "is_office" sis_office f fd) (T : Tx K mg C Cp) : Ok P w K mg base (k + 1) "is_office" ["text"] tIsOffice := by
  refine ok_def D scis_office (fun ds Φ h => ?_) (fun _ _ _ _ _ _ us hl => match us, hl with | [_], _ => rfl) fun cdv A outer s F H E hr ds Φ h => ?_
  · obtain ⟨_, rfl, _⟩ := h
    rfl
  · obtain ⟨x, rfl, h1, h4, ha, q⟩ := h
    have nd := scis_office.nd
    obtain ⟨t4, m4⟩ := T.mlet
    obtain ⟨tl, ml⟩ := T.let_
    have hz : x.length ≤ sizeLine := by rw [PySem.sizeLine]; omega
    dsimp only [mkE]
    walk_at "if"
    refine wt_ww (ww_or ?_)
    walk_at "t"
    refine we_len T.len ?_
    walk_at "X"
    refine len_s hz ?_
    walk_at "X"
    refine ⟨_, rfl, iteD (fun e => ?_) fun e => ?_⟩
    · omega
    refine ww_or1 ?_
    walk_at "t"
    refine we_len T.len ?_
    walk_at "X"
    refine len_s hz ?_
    refine we_gint (i := 4) rfl m4 ⟨_, rfl⟩ ?_
    walk_at "X"
    refine ⟨_, rfl, iteD (fun e => ?_) fun e => ?_⟩
    · omega
    walk_at "nil"
    walk_at "ret"
    refine we_all T.all rfl (we_wl (wl_lc1 1 x.cps.toList (fun n => .str ⟨#[n]⟩) (fun _ => true) (fun n => .bl (decide (n ∈ letters))) (by walk_at "pl") (wi_s ?_) (fun l hl s Hh C cl fp => wts_nil rfl) (fun n hn _ s Hh C' cl fp => ?_) (by rw [Array.length_toList]; show x.length ≤ _; omega) ?_ nd (blkOk_by (N := Nis_office) (sc := defScope sis_office) (by decide +kernel))))
    · walk_at "X"
      exact ⟨_, rfl, rfl⟩
    · walk_at "X"
      refine we_gstr (i := abcS) rfl ml ⟨_, rfl⟩ ?_
      refine wo_inC ?_
      rw [abcS_list]
    · rw [filt_true]
      refine ⟨x.cps.toList.map fun n => decide (n ∈ letters), by rw [List.map_map]; rfl, ?_⟩
      have e : (x.cps.toList.map fun n => decide (n ∈ letters)).all id = true := by
        rw [List.all_map]
        exact List.all_eq_true.mpr fun n hn => decide_eq_true (ha n hn)
      rw [e]
      exact q
theorem cutD_take {α : Type} {xs : List α} {i : Nat} (h : i ≤ xs.length) : cutD xs none (some (i : Int)) = xs.take i := by
  unfold cutD
  rw [HT.sIx_nat, HT.sIx_none, Nat.min_eq_left h, Nat.sub_zero, List.drop_zero]
theorem tea_at (c : Cu) (l : Les) : c.tea l = .tup true [.str (c.nm l.1), .str (c.nm l.2.1), .int (l.2.2 : Int)] := rfl
def nmP (c : Cu) (l : Les) : Dt := .tup false [.str (c.nm l.1), .str (c.nm l.2.1)]
theorem nmP_ok (c : Cu) (l : Les) (h : ∀ x ∈ c.names, PyData.strOk x = true) (g : c.Good) (hl : l ∈ c.les) : okD 2 (nmP c l) = true := by
  have hb := g.lb l hl
  show ([Dt.str (c.nm l.1), .str (c.nm l.2.1)].all (okD 1)) = true
  rw [List.all_cons, List.all_cons, List.all_nil]
  have h1 : okD 1 (.str (c.nm l.1)) = true := h _ (Cu.nm_mem hb.1)
  have h2 : okD 1 (.str (c.nm l.2.1)) = true := h _ (Cu.nm_mem hb.2.1)
  rw [h1, h2]
  rfl
theorem ok_chkoff {f : Addr} {fd : FuncData} (D : Df K mg "check_offices" scheck_offices f fd) (T : Tx K mg C Cp) (G : Ok P w K mg base k "is_office" ["text"] tIsOffice) : Ok P w K mg base (k + 1) "check_offices" ["offices"] tChkOff := by
  refine ok_def D sccheck_offices (fun ds Φ h => ?_) (fun _ _ _ _ _ _ us hl => match us, hl with | [_], _ => rfl) fun cdv A outer s F H E hr ds Φ h => ?_
  · obtain ⟨_, rfl, _⟩ := h
    rfl
  · obtain ⟨c, rfl, hg, q⟩ := h
    have nd := sccheck_offices.nd
    have n6 := hg.n6
    dsimp only [mkE]
    refine wb_cons (ws_for (List.range c.n) encN (fun pre env1 => ∃ s1 : SD, env1 = ([("offices", .dat (.tup true (c.names.map .str))), ("index", s1)] : Env'))
      (wi_r T.rng (we_len T.len ?_)) ⟨_, rfl⟩ (fun pre i post env1 hx2 he => ?_) (fun env1 he => ?_) nd)
    · walk_at "X"
      exact len_t ⟨c.n, by rw [List.length_map]; rfl, by show c.names.length < _; omega, rfl⟩
    · obtain ⟨s1, rfl⟩ := he
      have hi : i < c.n := by
        have : i ∈ List.range c.n := by
          rw [hx2]
          exact List.mem_append_right _ List.mem_cons_self
        exact List.mem_range.mp this
      have hm := Cu.nm_mem hi
      have hn : i < c.names.length := hi
      have hat : atI (c.names.map Dt.str) (i : Int) = some (.str (c.nm i)) := by
        apply atI_nat
        rw [List.getElem?_map, Cu.nm_at hi]
        rfl
      refine ⟨_, _, by walk_at "tg", ?_⟩
      walk_at "if"
      refine wt_ww (ww_or (wt_not (wt_val (we_call G hr ?_))))
      walk_at "X"
      refine ixd_t hat ?_
      walk_at "X"
      refine ⟨c.nm i, rfl, (hg.len _ hm).1, (hg.len _ hm).2, hg.abc _ hm, true, rfl, ?_⟩
      rw [if_neg (by decide)]
      refine ww_or1 ?_
      walk_at "t"
      walk_at "X"
      refine ixd_t hat ?_
      refine we_slT ?_
      walk_at "X"
      refine ⟨_, rfl, true, _, rfl, ?_, ?_⟩
      · rw [List.length_map]
        intro z
        have := z.2
        rw [HT.sIx_nat] at this
        omega
      · rw [cutD_map]
        refine wo_in .t rfl (flats_str _) ⟨_, rfl, ?_⟩
        rw [inF_str]
        refine iteD (fun z => ?_) fun _ => ?_
        · rw [cutD_take (by omega)] at z
          obtain ⟨j, hj, e⟩ := List.mem_take_iff_getElem.mp z
          have h1 : j < c.n := by show j < c.names.length; omega
          have h2 := Cu.nm_at h1
          have h3 : c.names[j]? = some (c.nm i) := List.getElem?_eq_some_iff.mpr ⟨_, e⟩
          rw [h3] at h2
          have := Cu.nm_inj hg.nd hi h1 (Option.some.inj h2)
          omega
        · walk_at "nil"
          exact ⟨_, rfl⟩
    · obtain ⟨s1, rfl⟩ := he
      walk_at "nil"
      exact q
theorem str_ok {x : Str} (h : ∀ k ∈ x.cps.toList, k ∈ letters) : PyData.strOk x = true := by
  unfold PyData.strOk
  rw [← Array.all_toList]
  refine List.all_eq_true.mpr fun k hk => decide_eq_true ?_
  have := h k hk
  have : ∀ k ∈ letters, k < 1114112 := by decide
  exact this k (h k hk)
theorem eqP_two {a b x y : Str} : eqP (.tup false [.str a, .str b]) (.tup false [.str x, .str y]) = (decide (a = x) && decide (b = y)) := by
  have e : eqP (.tup false [.str a, .str b]) (.tup false [.str x, .str y]) = (a == x && (b == y && true)) := by
    unfold eqP toPy toPy.go toPy.go toPy.go
    simp [toPy, PyData.eqv, PyData.eqvAll]
  rw [e, Bool.and_true, Bool.beq_eq_decide_eq, Bool.beq_eq_decide_eq]
theorem cutD_enc {α : Type} {enc : α → Dt} {xs : List α} {i : Nat} (h : i ≤ xs.length) : cutD (xs.map enc) none (some (i : Int)) = (xs.take i).map enc := by
  rw [cutD_map, cutD_take h]
theorem ok_chkles {f : Addr} {fd : FuncData} (D : Df K mg "check_lessons" scheck_lessons f fd) (T : Tx K mg C Cp) (G : Ok P w K mg base k "check_known" ["offices", "names"] tChkKn) : Ok P w K mg base (k + 1) "check_lessons" ["offices", "lessons"] tChkLes := by
  refine ok_def D sccheck_lessons (fun ds Φ h => ?_) (fun _ _ _ _ _ _ us hl => match us, hl with | [_, _], _ => rfl) fun cdv A outer s F H E hr ds Φ h => ?_
  · obtain ⟨_, rfl, _⟩ := h
    rfl
  · obtain ⟨c, rfl, hg, q⟩ := h
    have nd := sccheck_lessons.nd
    have n6 := hg.n6
    have h36 := hg.les36
    have hso : ∀ x ∈ c.names, PyData.strOk x = true := fun x hx => str_ok (hg.abc x hx)
    obtain ⟨t99, m99⟩ := T.mbnd
    dsimp only [mkE]
    refine wb_cons (ws_lc1 5 c.les c.tea (fun _ => true) (nmP c) (by walk_at "pl") (by walk_at "pl") (wi_t ?_) (fun l hl s Hh C cl fp => wts_nil rfl) (fun l hl _ s Hh C' cl fp => ?_) (by omega) ?_ nd (blkOk_by (N := Ncheck_lessons) (sc := defScope scheck_lessons) (by decide +kernel)))
    · walk_at "X"
      exact ⟨_, _, rfl, rfl⟩
    · walk_at "X"
      refine ixd_t (v := .str (c.nm l.1)) rfl ?_
      walk_at "X"
      refine ixd_t (v := .str (c.nm l.2.1)) rfl ?_
      walk_at "X"
      exact ⟨by walk_at "sz", rfl⟩
    rw [filt_true]
    refine wb_frz (x := "pairs") (by walk_at "pl") ?_
    refine wb_cons (ws_for (List.range c.les.length) encN (fun pre env1 => ∃ s1 s2 : SD, env1 = ([("offices", .dat (.tup true (c.names.map .str))), ("lessons", .dat (.tup true (c.les.map c.tea))), ("pairs", .dat (.lst (c.les.map (nmP c)))), ("index", s1), ("bound", s2), ("lesson", .un)] : Env'))
      (wi_r T.rng (we_len T.len ?_)) ⟨_, _, rfl⟩ (fun pre i post env1 hx2 he => ?_) (fun env1 he => ?_) nd)
    · walk_at "X"
      exact len_t ⟨c.les.length, by rw [List.length_map], by omega, rfl⟩
    · obtain ⟨s1, s2, rfl⟩ := he
      have hi : i < c.les.length := by
        have : i ∈ List.range c.les.length := by
          rw [hx2]
          exact List.mem_append_right _ List.mem_cons_self
        exact List.mem_range.mp this
      have hl : c.les[i] ∈ c.les := List.getElem_mem hi
      have hb := hg.lb _ hl
      have at_ : ∀ {enc : Les → Dt}, atI (c.les.map enc) (i : Int) = some (enc c.les[i]) := by
        intro enc
        apply atI_nat
        rw [List.getElem?_map, List.getElem?_eq_getElem hi]
        rfl
      refine ⟨_, _, by walk_at "tg", ?_⟩
      refine wb_cons (ws_expr (we_call G hr ?_))
      walk_at "X"
      refine ixd_l at_ ?_
      walk_at "X"
      refine ⟨c.names, [c.nm c.les[i].1, c.nm c.les[i].2.1], true, false, rfl, fun x hx => ?_, ?_⟩
      · rcases List.mem_cons.mp hx with rfl | hx
        · exact Cu.nm_mem hb.1
        · rw [List.mem_singleton] at hx
          rw [hx]
          exact Cu.nm_mem hb.2.1
      refine wb_cons (ws_asg (by walk_at "pl") ?_ nd)
      walk_at "X"
      refine ixd_t at_ ?_
      walk_at "X"
      refine ixd_t (v := .int (c.les[i].2.2 : Int)) rfl ?_
      walk_at "if"
      refine wt_ww (ww_or ?_)
      walk_at "t"
      walk_at "X"
      refine ⟨_, rfl, iteD (fun e => by omega) fun e => ?_⟩
      refine ww_or1 ?_
      walk_at "t"
      walk_at "X"
      refine we_gint (i := 99) rfl m99 ⟨_, rfl⟩ ?_
      walk_at "X"
      refine ⟨_, rfl, iteD (fun e => by omega) fun e => ?_⟩
      walk_at "nil"
      walk_at "if"
      walk_at "t"
      walk_at "X"
      refine ixd_l at_ ?_
      refine we_wl (wl_sl ?_)
      walk_at "X"
      refine ⟨_, rfl, _, rfl, ?_⟩
      rw [cutD_enc (by omega)]
      refine wo_inD (u65 hr) (n := 2) (m := 3) (nmP_ok c _ hso hg hl) ?_ ⟨_, rfl, ?_⟩
      · show ((c.les.take i).map (nmP c)).all (okD 2) = true
        refine List.all_eq_true.mpr fun d hd => ?_
        obtain ⟨l, hl2, rfl⟩ := List.mem_map.mp hd
        exact nmP_ok c l hso hg (List.mem_of_mem_take hl2)
      · refine iteB (fun z => ?_) fun _ => ?_
        · rw [List.any_map] at z
          obtain ⟨l, hl2, e⟩ := List.any_eq_true.mp z
          have e : eqP (nmP c l) (nmP c c.les[i]) = true := e
          unfold nmP at e
          rw [eqP_two, Bool.and_eq_true] at e
          have hlb := hg.lb l (List.mem_of_mem_take hl2)
          have e1 := Cu.nm_inj hg.nd hlb.1 hb.1 (of_decide_eq_true e.1)
          have e2 := Cu.nm_inj hg.nd hlb.2.1 hb.2.1 (of_decide_eq_true e.2)
          obtain ⟨j, hj, e3⟩ := List.mem_take_iff_getElem.mp hl2
          have h1 : (c.les.map fun l => (l.1, l.2.1))[j]? = some (c.les[i].1, c.les[i].2.1) := by
            rw [List.getElem?_map, List.getElem?_eq_some_iff.mpr ⟨_, e3⟩]
            show some (l.1, l.2.1) = _
            rw [e1, e2]
          have h2 : (c.les.map fun l => (l.1, l.2.1))[i]? = some (c.les[i].1, c.les[i].2.1) := by
            rw [List.getElem?_map, List.getElem?_eq_getElem hi]
            rfl
          have := (List.getElem?_inj (by rw [List.length_map]; omega) hg.ln).mp (h1.trans h2.symm)
          omega
        · walk_at "nil"
          exact ⟨_, _, rfl⟩
    · obtain ⟨s1, s2, rfl⟩ := he
      walk_at "nil"
      exact q
end
end Cr
namespace Cr
open PySem PySem.Spec L2 Fw
section
variable {P : Program} {w : World} {K : PySem.W.Frag} {mg : Str → Option Value} {base : Heap} {C Cp : Addr} {k : Nat}
theorem frz_strs (j : Nat) (xs : List Str) : frzD (j + 1) (.lst (xs.map .str)) = .tup true (xs.map .str) := by
  show Dt.tup true ((xs.map .str).map (frzD j)) = _
  rw [List.map_map]
  congr 1
  apply List.map_congr_left
  intro x _
  cases j <;> rfl
theorem fz_str (j : Nat) (x : Str) : fzOk j (.str x) = true := by cases j <;> rfl
theorem fz_strs (j : Nat) {xs : List Str} (h : xs.length ≤ 1000) : fzOk (j + 1) (.lst (xs.map .str)) = true := by
  show (decide ((xs.map Dt.str).length ≤ 1000) && (xs.map Dt.str).all (fzOk j)) = true
  rw [List.length_map, decide_eq_true h, List.all_map, Bool.true_and]
  exact List.all_eq_true.mpr fun x _ => fz_str j x
theorem frz_teas (c : Cu) : frzD 2 (.lst (c.les.map c.tea0)) = .tup true (c.les.map c.tea) := by
  show Dt.tup true ((c.les.map c.tea0).map (frzD 1)) = _
  rw [List.map_map]
  rfl
theorem fz_teas (c : Cu) (h : c.les.length ≤ 1000) : fzOk 2 (.lst (c.les.map c.tea0)) = true := by
  show (decide ((c.les.map c.tea0).length ≤ 1000) && (c.les.map c.tea0).all (fzOk 1)) = true
  rw [List.length_map, decide_eq_true h, List.all_map, Bool.true_and]
  exact List.all_eq_true.mpr fun x _ => rfl
theorem tea_ok {c : Cu} (g : c.Good) {l : Les} (hl : l ∈ c.les) : okD 2 (c.tea l) = true := by
  have hb := g.lb l hl
  have h1 : okD 1 (.str (c.nm l.1)) = true := str_ok (g.abc _ (Cu.nm_mem hb.1))
  have h2 : okD 1 (.str (c.nm l.2.1)) = true := str_ok (g.abc _ (Cu.nm_mem hb.2.1))
  show ([Dt.str (c.nm l.1), .str (c.nm l.2.1), .int (l.2.2 : Int)].all (okD 1)) = true
  rw [List.all_cons, List.all_cons, List.all_cons, List.all_nil, h1, h2]
  rfl
theorem lookup_key {α β : Type} {key : α → Str} {val : α → β} : ∀ {xs : List α} {x : α}, (xs.map key).Nodup → x ∈ xs → (xs.map fun y => (key y, val y)).lookup (key x) = some (val x)
  | [], _, _, h => nomatch h
  | y :: ys, x, nd, h => by
    rw [List.map_cons, List.lookup_cons]
    rw [List.map_cons, List.nodup_cons] at nd
    by_cases e : key x = key y
    · rcases List.mem_cons.mp h with rfl | h
      · simp
      · exact (nd.1 (List.mem_map.mpr ⟨x, h, e⟩)).elim
    · have e2 : (key x == key y) = false := by simpa using e
      simp only [e2]
      rcases List.mem_cons.mp h with rfl | h
      · exact (e rfl).elim
      · exact lookup_key nd.2 h
theorem enum_names (c : Cu) : enumD (c.names.map .str) = (List.range c.n).map fun i => .tup false [.int (i : Int), .str (c.nm i)] := by
  apply List.ext_getElem?
  intro i
  rw [List.getElem?_map]
  by_cases h : i < c.n
  · rw [List.getElem?_range h, enumD_at (d := .str (c.nm i)) (by rw [List.getElem?_map, Cu.nm_at h]; rfl)]
    rfl
  · have h1 : c.names.length ≤ i := by
      have : c.n = c.names.length := rfl
      omega
    rw [List.getElem?_eq_none (by unfold enumD; rw [List.length_mapIdx, List.length_map]; exact h1), List.getElem?_eq_none (by rw [List.length_range]; omega)]
    rfl
theorem nm_nodup {c : Cu} (g : c.Good) : ((List.range c.n).map c.nm).Nodup := by
  rw [← Cu.names_eq]
  exact g.nd
theorem ok_cinit {f : Addr} {fd : FuncData} (M : Mk K C f) (D : FunD K "__init__" "Custom.__init__" (defArgs iCustom) (defBody iCustom) (defScope iCustom) [] [] f fd) (T : Tx K mg C Cp) (G1 : Ok P w K mg base k "frozen" ["value"] (tFrozen 2)) (G2 : Ok P w K mg base k "check_offices" ["offices"] tChkOff)
    (G3 : Ok P w K mg base k "check_lessons" ["offices", "lessons"] tChkLes) (G4 : Ok P w K mg base k "check_known" ["offices", "names"] tChkKn) : OkI P w K mg base (k + 1) "Custom" C ["self", "offices", "teachings", "founding"] tCustomI := by
  refine ok_init T.gC M D icCustom (fun ds Φ h => ?_) (fun _ _ _ _ _ _ us hl => match us, hl with | [_, _, _, _], _ => rfl) fun cdv A outer s F H Hn E y hr ds Φ h => ?_
  · obtain ⟨_, rfl, _⟩ := h
    rfl
  · obtain ⟨c, rfl, hg, q⟩ := h
    have nd := icCustom.nd
    have n6 := hg.n6
    have h36 := hg.les36
    have hfo : c.fo.map (fun k => Dt.str (c.nm k)) = (c.fo.map c.nm).map .str := by rw [List.map_map]; rfl
    have hso : ∀ x ∈ c.names, PyData.strOk x = true := fun x hx => str_ok (hg.abc x hx)
    rw [hfo]
    dsimp only [mkE]
    refine wb_cons (ws_self (x := "self") (by walk_at "pl") T.cC (T.nC _ (by simp)) (by decide) (we_call G1 hr ?_))
    walk_at "X"
    refine ⟨_, rfl, fz_strs 1 (by omega), ?_⟩
    rw [frz_strs]
    refine wb_cons (ws_self (x := "self") (by walk_at "pl") T.cC (T.nC _ (by simp)) (by exact Nat.le_of_ble_eq_true rfl) (we_call G1 hr ?_))
    walk_at "X"
    refine ⟨_, rfl, fz_teas c (by omega), ?_⟩
    rw [frz_teas]
    refine wb_cons (ws_asg (by walk_at "pl") (we_call G1 hr ?_) nd)
    walk_at "X"
    have hfl : c.fo.length ≤ 1000 := Nat.le_trans hg.fl (by omega)
    refine ⟨_, rfl, fz_strs 1 (by rw [List.length_map]; exact hfl), ?_⟩
    rw [frz_strs]
    refine wb_cons (ws_expr (we_call G2 hr ?_))
    walk_at "x"
    refine we_self (x := "self") (by walk_at "pl") T.cC (T.nC _ (by simp)) rfl ?_
    walk_at "X"
    refine ⟨c, rfl, hg, ?_⟩
    refine wb_cons (ws_expr (we_call G3 hr ?_))
    walk_at "x"
    refine we_self (x := "self") (by walk_at "pl") T.cC (T.nC _ (by simp)) rfl ?_
    walk_at "x"
    refine we_self (x := "self") (by walk_at "pl") T.cC (T.nC _ (by simp)) rfl ?_
    walk_at "X"
    refine ⟨c, rfl, hg, ?_⟩
    refine wb_cons (ws_expr (we_call G4 hr ?_))
    walk_at "x"
    refine we_self (x := "self") (by walk_at "pl") T.cC (T.nC _ (by simp)) rfl ?_
    walk_at "X"
    refine ⟨c.names, c.fo.map c.nm, true, true, rfl, fun x hx => ?_, ?_⟩
    · obtain ⟨j, hj, rfl⟩ := List.mem_map.mp hx
      exact Cu.nm_mem (hg.fb j hj)
    -- founding
    refine wb_cons (ws_self (x := "self") (by walk_at "pl") T.cC (T.nC _ (by simp)) (by exact Nat.le_of_ble_eq_true rfl) (we_tuple T.tup (we_wl (wl_lc1 6 c.names .str (fun x => decide (x ∈ c.fo.map c.nm)) .str (by walk_at "pl") (wi_t (we_self (x := "self") (by walk_at "pl") T.cC (T.nC _ (by simp)) rfl ⟨_, _, rfl, rfl⟩)) (fun x hx s Hh C cl fp => wts_one ?_) (fun x hx _ s Hh C' cl fp => ?_) (by omega) ?_ nd (blkOk_by (N := MCustom) (sc := defScope iCustom) (by decide +kernel))))))
    · walk_at "t"
      walk_at "X"
      refine wo_in .t rfl (flats_str _) ⟨_, rfl, ?_⟩
      rw [inF_str]
    · walk_at "X"
      rfl
    refine ⟨_, rfl, ?_⟩
    -- ordered
    refine wb_cons (ws_self (x := "self") (by walk_at "pl") T.cC (T.nC _ (by simp)) (by exact Nat.le_of_ble_eq_true rfl) (we_tuple T.tup (we_wl (wl_sorted c.les c.tea (n := 2) (u65 hr) T.srt (by decide) (fun l hl => tea_ok hg hl) (PySem.W.AllAlike.of fun a b => rfl) (PySem.W.Sortable.tuples fun a => ⟨_, _, rfl⟩) (by omega) (we_wl (wl_lc1 7 c.les c.tea (fun _ => true) c.tea (by walk_at "pl") (wi_t (we_self (x := "self") (by walk_at "pl") T.cC (T.nC _ (by simp)) rfl ⟨_, _, rfl, rfl⟩)) (fun x hx s Hh C cl fp => wts_nil rfl) (fun x hx _ s Hh C' cl fp => ?_) (by omega) ?_ nd (blkOk_by (N := MCustom) (sc := defScope iCustom) (by decide +kernel)))) ?_))))
    · walk_at "X"
      rfl
    · rw [filt_true]
    refine ⟨_, rfl, ?_⟩
    -- places
    refine wb_cons (ws_asg (by walk_at "pl") (we_dc [("at", 8), ("office", 6)] (List.range c.n) (fun i => .tup false [.int (i : Int), .str (c.nm i)]) c.nm (fun i => (i : Int)) (wi_enumT T.enu (we_self (x := "self") (by walk_at "pl") T.cC (T.nC _ (by simp)) rfl ⟨_, _, rfl, enum_names c⟩)) (fun l s Hh C cl fp => by walk_at "tg") (fun x hx s Hh C' cl fp => ?_) (fun x hx s Hh C' cl fp => ?_) (by rw [List.length_range]; show c.names.length ≤ _; omega) (nm_nodup hg) ?_ nd (blkOk_by (N := MCustom) (sc := defScope iCustom) (by decide +kernel)) ⟨rfl, rfl, trivial⟩ (by rfl)) nd)
    · walk_at "X"
      rfl
    · walk_at "X"
      rfl
    -- steps
    refine wb_cons (ws_self (x := "self") (by walk_at "pl") T.cC (T.nC _ (by simp)) (by exact Nat.le_of_ble_eq_true rfl) (we_tuple T.tup (we_wl (wl_lcT [("teacher", 9), ("pupil", 10), ("bound", 11)] c.les c.tea (fun _ => true) enc3 (wi_t (we_self (x := "self") (by walk_at "pl") T.cC (T.nC _ (by simp)) rfl ⟨_, _, rfl, rfl⟩)) (fun l s Hh C cl fp => by walk_at "tg") (fun x hx s Hh C cl fp => wts_nil rfl) (fun l hl _ s Hh C' cl fp => ?_) (by omega) ?_ nd (blkOk_by (N := MCustom) (sc := defScope iCustom) (by decide +kernel)) ⟨rfl, rfl, rfl, trivial⟩ (by rfl)))))
    · have hb := hg.lb l hl
      walk_at "x"
      walk_at "x"
      refine we_dget (u65 hr) ?_
      walk_at "X"
      refine ⟨_, rfl, ?_⟩
      walk_at "X"
      refine ⟨_, (l.1 : Int), rfl, lookup_key (x := l.1) (nm_nodup hg) (List.mem_range.mpr hb.1), ?_⟩
      walk_at "x"
      refine we_dget (u65 hr) ?_
      walk_at "X"
      refine ⟨_, rfl, ?_⟩
      walk_at "X"
      refine ⟨_, (l.2.1 : Int), rfl, lookup_key (x := l.2.1) (nm_nodup hg) (List.mem_range.mpr hb.2.1), ?_⟩
      walk_at "X"
      exact ⟨by walk_at "sz", rfl⟩
    rw [filt_true]
    refine ⟨_, rfl, ?_⟩
    walk_at "nil"
    exact ⟨_, _, rfl, q⟩
end
end Cr
namespace Cr
open PySem PySem.Spec L2 Fw
section
variable {P : Program} {w : World} {K : PySem.W.Frag} {mg : Str → Option Value} {base : Heap} {C Cp : Addr} {k : Nat}
theorem encRows (m : List Row) : m.map encRow = (m.map fun r => r.map encO).map .lst := by
  rw [List.map_map]
  rfl
theorem ok_matrix {f : Addr} {fd : FuncData} (D : Df K mg "lesson_matrix" slesson_matrix f fd) (T : Tx K mg C Cp) : Ok P w K mg base (k + 1) "lesson_matrix" ["custom"] (tMatrix C) := by
  refine ok_def D sclesson_matrix (fun ds Φ h => ?_) (fun _ _ _ _ _ _ us hl => match us, hl with | [_], _ => rfl) fun cdv A outer s F H E hr ds Φ h => ?_
  · obtain ⟨_, rfl, _⟩ := h
    rfl
  · obtain ⟨c, rfl, hg, q⟩ := h
    have nd := sclesson_matrix.nd
    have n6 := hg.n6
    dsimp only [mkE]
    refine .mk fun F1 σ1 H1 A1 => ?_
    refine rb_of (pss_cons ps_re pss_re) ?_
    -- matrix = [[..]]
    refine rs_lcM (i := 3) A1 [("teacher", 1)] c.names .str (fun _ => List.replicate c.n .non) rfl (wi_t (we_offices T c c.ord ?_)) (fun l s Hh C cl fp => by walk_at "tg") (fun x hx s Hh C' cl fp => ?_) (by omega) (fun F2 H2 l as g2 M => ?_) nd (blkOk_by (N := Nlesson_matrix) (sc := defScope slesson_matrix) (by decide +kernel)) ⟨rfl, trivial⟩ (by rfl)
    · walk_at "x"
      exact ⟨rfl, _, _, rfl, rfl⟩
    · refine wl_lc1 2 c.names .str (fun _ => true) (fun _ => .non) (by walk_at "pl") (wi_t (we_offices T c c.ord ?_)) (fun l hl s Hh C cl fp => wts_nil rfl) (fun x hx _ s Hh C' cl fp => ?_) (by omega) ?_ nd (blkOk_by (N := Nlesson_matrix) (sc := relS _ (defScope slesson_matrix)) (by decide +kernel))
      · walk_at "x"
        exact ⟨rfl, _, _, rfl, rfl⟩
      · walk_at "X"
        rfl
      · rw [filt_true, List.map_const']
        rfl
    have A2 : At (bdOf P w K mg base Nlesson_matrix "lesson_matrix" slesson_matrix f cdv A outer s F H E) F2 (σ1.set 3 (some (.ref l))) H2 ([("custom", .dat (c.dat C)), ("teacher", .un), ("pupil", .un), ("matrix", .un), ("bound", .un)] : Env') := (A1.grow g2).putU (i := 3) (o := some (.ref l)) (x := "matrix") (s := .un) rfl
    have M0 : MxL K F2 H H2 l ((matrix0 c.n).map fun r => r.map encO) as := by
      have e : c.names.map (fun _ => List.replicate c.n Dt.non) = (matrix0 c.n).map fun r => r.map encO := by
        unfold matrix0
        rw [List.map_const', List.map_replicate, List.map_replicate]
        rfl
      rw [← e]
      exact ⟨M.hl, M.fl, A1.g.h.none M.h0, M.la, M.nd, M.len, fun i a ds h1 h2 => by
        obtain ⟨x1, x2, x3⟩ := M.row i a ds h1 h2
        exact ⟨x1, A1.g.h.none x2, x3⟩⟩
    have hσ : (σ1.set 3 (some (.ref l)))[3]? = some (some (.ref l)) := by
      rw [List.getElem?_set_self]
      rw [A1.len]
      show 3 < 5
      omega
    have e12 : Ex F1 F2 := g2.f
    generalize σ1.set 3 (some (.ref l)) = σ2 at A2 hσ ⊢
    clear M
    -- for
    refine rb_of (pss_cons ps_re pss_re) ?_
    have hlM := lessonM_ok (n := c.n) fun l hl => (hg.lb l hl).1
    refine rs_of (ps_for (hp := PassesOwn.never) rfl pi_ri pg_rg pss_re (fun _ => rfl)) (ri_mono (wi_t (tg := _) (Ξ := fun ds => ds = c.les.map enc3) (we_steps T c c.ord (we_name (by walk_at "pl") ⟨rfl, _, _, rfl, rfl⟩)) F2 σ2 H2 A2) fun J H3 ⟨F3, ds, g3, W, e⟩ => ?_)
    subst e
    have hlen : (c.les.map enc3).length = c.les.length := List.length_map ..
    let St : List Les → L2.St → Hp → Prop := fun pre σ' H' => ∃ F' s1 s2 s3, At (bdOf P w K mg base Nlesson_matrix "lesson_matrix" slesson_matrix f cdv A outer s F H E) F' σ' H' ([("custom", .dat (c.dat C)), ("teacher", s1), ("pupil", s2), ("matrix", .un), ("bound", s3)] : Env') ∧ (s1.owns = false ∧ s2.owns = false ∧ s3.owns = false) ∧ σ'[3]? = some (some (.ref l)) ∧ MxL K F' H H' l ((pre.foldl putM (matrix0 c.n)).map fun r => r.map encO) as ∧ Ex F3 F'
    refine ⟨fun i m σ' H' => m = c.les.length - i ∧ i ≤ c.les.length ∧ St (c.les.take i) σ' H', ⟨c.les.length, by omega, Nat.zero_le _, F3, _, _, _, A2.grow g3, ⟨rfl, rfl, rfl⟩, hσ, M0.grow g3, .refl _⟩, ?_⟩
    rintro i m σ' H' ⟨rfl, hle, F4, s1, s2, s3, A4, ⟨o1, o2, o3⟩, h3, M4, e4⟩
    by_cases hlt : i < c.les.length
    · have hx : c.les[i]? = some c.les[i] := List.getElem?_eq_getElem hlt
      have hm : c.les[i] ∈ c.les := List.getElem_mem hlt
      have hb := hg.lb _ hm
      obtain ⟨_, htake⟩ := take_at hx
      have es : (c.les.take (i + 1)).foldl putM (matrix0 c.n) = putM ((c.les.take i).foldl putM (matrix0 c.n)) c.les[i] := by
        rw [htake, List.foldl_append]
        rfl
      have hmk := foldM_ok (n := c.n) (c.les.take i) (matrix0 c.n) (matrix0_ok _) fun l hl => (hg.lb l (List.mem_of_mem_take hl)).1
      refine .inr ⟨W.go i H' (e4.trans A4.ex) (by rw [hlen]; exact hlt), St (c.les.take (i + 1)), fun σ5 H5 q5 => ⟨c.les.length - (i + 1), by omega, rfl, hlt, q5⟩, fun x H5 y => ?_⟩
      obtain ⟨F5, d, g5, hd', r⟩ := W.yld i F4 H' x H5 e4 A4.ex (by rw [hlen]; exact hlt) y
      rw [List.getElem?_map, hx] at hd'
      cases hd'
      generalize c.les[i] = les at *
      refine rg_mono (tg_run (B := (bdOf P w K mg base Nlesson_matrix "lesson_matrix" slesson_matrix f cdv A outer s F H E)) nd rfl (env' := ([("custom", .dat (c.dat C)), ("teacher", .dat (.int (les.1 : Int))), ("pupil", .dat (.int (les.2.1 : Int))), ("matrix", .un), ("bound", .dat (.int (les.2.2 : Int)))] : Env')) (by walk_at "tg") (A4.grow g5) r) fun σ6 H6 q6 => ?_
      obtain ⟨e6, A6, _, k6⟩ := q6
      subst e6
      have h6 : σ6[3]? = some (some (.ref l)) := (k6 3 "matrix" rfl (by decide)).trans h3
      have M6 := M4.grow g5
      have e6 := e4.trans g5.f
      refine rb_of (pss_cons ps_re pss_re) ?_
      refine rs_of (ps_asg pe_re (pg_sub pe_re pe_re set_list) rfl rfl rfl) ?_
      refine re_nm (B := (bdOf P w K mg base Nlesson_matrix "lesson_matrix" slesson_matrix f cdv A outer s F H E)) 4 A6 rfl fun v r7 => ?_
      have hrow : ((((c.les.take i).foldl putM (matrix0 c.n)).map fun r => r.map encO))[les.1]? = some ((((c.les.take i).foldl putM (matrix0 c.n)).getD les.1 []).map encO) := by
        rw [List.getElem?_map, getD_at (d := []) (by rw [hmk.1]; exact hb.1)]
        rfl
      obtain ⟨a, ha, fa, ha0, vs, hv, rv⟩ := M6.at hrow
      refine re_of (pe_ix ix_seq (pe_var (i := 3) rfl (by first | exact Or.inl rfl | exact Or.inr (Or.inl rfl) | exact Or.inr (Or.inr rfl))) pe_re (fun _ _ => rfl)) ?_
      refine ⟨_, h6, ?_⟩
      refine re_nm (B := (bdOf P w K mg base Nlesson_matrix "lesson_matrix" slesson_matrix f cdv A outer s F H E)) 1 A6 rfl fun w8 r8 => ?_
      cases r8
      refine .inl ⟨l, _, (les.1 : Int), .ref a, rfl, rfl, SqL.of M6.hl, atI_nat (by rw [List.getElem?_map, ha]; rfl), ?_⟩
      refine re_nm (B := (bdOf P w K mg base Nlesson_matrix "lesson_matrix" slesson_matrix f cdv A outer s F H E)) 2 A6 rfl fun w9 r9 => ?_
      cases r9
      have hlr : ((((c.les.take i).foldl putM (matrix0 c.n)).getD les.1 []).map encO).length = c.n := by
        rw [List.length_map]
        exact hmk.2 _ (List.mem_of_getElem? (getD_at (d := []) (by rw [hmk.1]; exact hb.1)))
      refine ⟨a, vs, (les.2.1 : Int), les.2.1, rfl, rfl, hv, ?_, ?_⟩
      · unfold ixN
        rw [rv.length, hlr, if_pos (by omega), if_pos (by have := hb.2.1; show (les.2.1 : Int) < (c.names.length : Nat); omega)]
        simp
      · refine rb_of pss_nil ⟨F5, _, _, _, A6.wr fa ha0 (fun p hp => by
          rcases List.mem_cons.mp hp with rfl | hp
          · rfl
          rcases List.mem_cons.mp hp with rfl | hp
          · rfl
          rcases List.mem_cons.mp hp with rfl | hp
          · rfl
          rcases List.mem_cons.mp hp with rfl | hp
          · rfl
          rcases List.mem_cons.mp hp with rfl | hp
          · rfl
          · cases hp), ⟨rfl, rfl, rfl⟩, h6, ?_, e6⟩
        have := M6.set ha hrow (RepL.set r7 les.2.1 rv)
        rw [es, putM, List.map_set, List.map_set]
        exact this
    · have e : i = c.les.length := by omega
      subst e
      rw [List.take_length] at M4
      refine .inl ⟨W.stop _ H' (e4.trans A4.ex) (by rw [hlen]; exact Nat.le_refl _), ?_⟩
      refine rb_of (pss_cons ps_re pss_re) (rs_of (ps_ret (pe_var (i := 3) rfl (by first | exact Or.inl rfl | exact Or.inr (Or.inl rfl) | exact Or.inr (Or.inr rfl)))) ⟨_, h3, ?_⟩)
      obtain ⟨F', g', r'⟩ := M4.frz A4.g
      refine ⟨F', _, g', r', ?_⟩
      rw [encRows] at q
      exact q
end
end Cr
namespace Cr
open PySem PySem.Spec L2 Fw
section
variable {P : Program} {w : World} {K : PySem.W.Frag} {mg : Str → Option Value} {base : Heap} {C Cp : Addr} {k : Nat}
theorem ok_whole {f : Addr} {fd : FuncData} (D : Df K mg "_law_whole" s_law_whole f fd) (T : Tx K mg C Cp) : Ok P w K mg base (k + 1) "_law_whole" ["_law_value"] tWhole := by
  refine ok_def D sc_law_whole (fun ds Φ h => ?_) (fun _ _ _ _ _ _ us hl => match us, hl with | [_], _ => rfl) fun cdv A outer s F H E hr ds Φ h => ?_
  · obtain ⟨_, rfl, _⟩ := h
    rfl
  · obtain ⟨o, rfl, q⟩ := h
    dsimp only [mkE]
    walk_at "ret"
    refine we_and (we_isi (n := "int") T.isi T.int (by decide +kernel) ?_)
    walk_at "X"
    cases o with
    | none =>
      refine ⟨"NoneType", false, rfl, rfl, false, rfl, ?_⟩
      rw [if_neg Bool.false_ne_true]
      exact q
    | some i =>
      refine ⟨"int", true, rfl, rfl, true, rfl, ?_⟩
      rw [if_pos rfl]
      refine we_one (we_not (we_isi (n := "bool") T.isi T.bool (by decide +kernel) ?_))
      walk_at "X"
      exact ⟨"int", false, rfl, rfl, false, rfl, q⟩
theorem ok_cell {f : Addr} {fd : FuncData} (D : Df K mg "_law_cell" s_law_cell f fd) (T : Tx K mg C Cp) : Ok P w K mg base (k + 1) "_law_cell" ["_law_script", "_law_k"] tCell := by
  refine ok_def D sc_law_cell (fun ds Φ h => ?_) (fun _ _ _ _ _ _ us hl => match us, hl with | [_, _], _ => rfl) fun cdv A outer s F H E hr ds Φ h => ?_
  · obtain ⟨_, _, rfl, _⟩ := h
    rfl
  · obtain ⟨ns, j, rfl, q⟩ := h
    have nd := sc_law_cell.nd
    dsimp only [mkE]
    walk_at "if"
    walk_at "t"
    walk_at "X"
    refine we_len T.len ?_
    walk_at "X"
    refine len_x ?_
    walk_at "X"
    refine ⟨_, rfl, iteD (fun e => ?_) fun e => ?_⟩
    · have e : j < ns.length := by omega
      walk_at "ret"
      walk_at "X"
      exact ixd_x (atI_nat (List.getElem?_eq_getElem e)) (q _)
    walk_at "nil"
    refine wb_cons (ws_asg (by walk_at "pl") ?_ nd)
    walk_at "X"
    refine wb_cons (ws_for ns .int (fun pre env1 => ∃ (sd : Int) (s1 : SD), 0 ≤ sd ∧ sd < 1000003 ∧ env1 = ([("_law_script", .dat (.scr ns)), ("_law_k", .dat (.int (j : Int))), ("_law_seed", .dat (.int sd)), ("_law_cell_here", s1)] : Env'))
      (wi_x ?_) ⟨17, _, by omega, by omega, rfl⟩ (fun pre x post env1 hx he => ?_) (fun env1 he => ?_) nd)
    · walk_at "X"
      exact ⟨_, rfl, rfl⟩
    · obtain ⟨sd, s1, h0, h1, rfl⟩ := he
      refine ⟨_, _, by walk_at "tg", ?_⟩
      refine wb_cons (ws_asg (by walk_at "pl") ?_ nd)
      walk_at "X"
      refine we_int1 T.int ?_
      walk_at "X"
      refine wo_mul (.inr ⟨by omega, by omega⟩) ?_
      walk_at "X"
      refine we_int1 T.int ?_
      walk_at "X"
      refine ⟨x, rfl, ?_⟩
      walk_at "X"
      refine wo_mod (by omega) ?_
      walk_at "X"
      refine ⟨_, rfl, ?_⟩
      walk_at "X"
      refine wo_mod (by omega) ?_
      walk_at "nil"
      exact ⟨_, _, by omega, by omega, rfl⟩
    · obtain ⟨sd, s1, h0, h1, rfl⟩ := he
      walk_at "ret"
      walk_at "X"
      refine we_int1 T.int ?_
      walk_at "X"
      refine wo_mul (.inl ⟨by omega, by omega⟩) ?_
      walk_at "X"
      refine wo_mul (.inr ⟨by omega, by omega⟩) ?_
      refine ⟨_, rfl, ?_⟩
      walk_at "X"
      refine wo_mod (by omega) ?_
      exact q _
theorem mod_nat (x : Int) {s : Nat} (h : 0 < s) : ∃ d : Nat, x % (s : Int) = (d : Int) ∧ d < s := by
  refine ⟨(x % (s : Int)).toNat, ?_, ?_⟩
  · have := Int.emod_nonneg x (b := (s : Int)) (by omega)
    omega
  · have := Int.emod_nonneg x (b := (s : Int)) (by omega)
    have := Int.emod_lt_of_pos x (b := (s : Int)) (by omega)
    omega
theorem dig_snoc {dig pre : List Nat} {d s : Nat} (h : DigOk dig pre) (hd : d < s) : DigOk (dig ++ [d]) (pre ++ [s]) := by
  refine ⟨by rw [List.length_append, List.length_append, h.1]; rfl, fun i hi => ?_⟩
  rw [List.length_append, List.length_singleton] at hi
  rw [List.getD_eq_getElem?_getD, List.getD_eq_getElem?_getD]
  by_cases e : i < pre.length
  · rw [List.getElem?_append_left (by rw [h.1]; exact e), List.getElem?_append_left e, ← List.getD_eq_getElem?_getD, ← List.getD_eq_getElem?_getD]
    exact h.2 i e
  · have e2 : i = pre.length := by omega
    subst e2
    rw [List.getElem?_append_right (by rw [h.1]; exact Nat.le_refl _), List.getElem?_append_right (Nat.le_refl _), h.1, Nat.sub_self]
    exact hd
theorem ok_digits {f : Addr} {fd : FuncData} (D : Df K mg "_law_digits" s_law_digits f fd) (T : Tx K mg C Cp) : Ok P w K mg base (k + 1) "_law_digits" ["_law_cell_here", "_law_sizes"] tDigits := by
  refine ok_def D sc_law_digits (fun ds Φ h => ?_) (fun _ _ _ _ _ _ us hl => match us, hl with | [_, _], _ => rfl) fun cdv A outer s F H E hr ds Φ h => ?_
  · obtain ⟨_, _, rfl, _⟩ := h
    rfl
  · obtain ⟨x, sizes, rfl, hlen, hs, q⟩ := h
    have nd := sc_law_digits.nd
    dsimp only [mkE]
    refine wb_cons (ws_asgL (by walk_at "pl") (wl_lst (wa_nil ⟨Nat.zero_le _, ?_⟩)) nd)
    refine wb_cons (ws_asg (by walk_at "pl") (we_int1 T.int ?_) nd)
    walk_at "X"
    refine ⟨x, rfl, ?_⟩
    walk_at "if"
    walk_at "t"
    walk_at "X"
    refine wo_pow ⟨by omega, by omega, by decide⟩ ?_
    walk_at "X"
    refine ⟨_, rfl, iteB (fun e => ?_) fun e => ?_⟩
    · refine wb_cons (ws_asg (by walk_at "pl") ?_ nd)
      walk_at "X"
      refine wo_pow ⟨by omega, by omega, by decide⟩ ?_
      walk_at "X"
      refine wb_cons (ws_for sizes encN (fun pre env1 => ∃ (dig : List Nat) (r : Int) (s1 : SD), DigOk dig pre ∧ env1 = ([("_law_cell_here", .dat (.int x)), ("_law_sizes", .dat (.lst (sizes.map encN))), ("_law_row", .own (dig.map encN)), ("_law_rest", .dat (.int r)), ("_law_size", s1), ("_law_seed", .un), ("_law_k", .un), ("_law_twice", .un)] : Env'))
        (wi_l ?_) ⟨[], _, _, ⟨rfl, fun i hi => absurd hi (Nat.not_lt_zero _)⟩, rfl⟩ (fun pre sz post env1 hx he => ?_) (fun env1 he => ?_) nd)
      · walk_at "X"
        exact ⟨_, rfl, rfl⟩
      · obtain ⟨dig, r, s1, hd, rfl⟩ := he
        have hsz := hs sz (by rw [hx]; exact List.mem_append_right _ List.mem_cons_self)
        have hpl : pre.length < sizes.length := by
          rw [hx, List.length_append, List.length_cons]
          omega
        refine ⟨_, _, by walk_at "tg", ?_⟩
        refine wb_cons (ws_append (by walk_at "pl") ?_ (by rw [List.length_map, hd.1, PySem.sizeLine]; omega))
        walk_at "X"
        refine we_int1 T.int ?_
        walk_at "X"
        refine ⟨r, rfl, ?_⟩
        walk_at "X"
        refine wo_mod (by have := hsz.1; omega) ?_
        obtain ⟨d, ed, hds⟩ := mod_nat r hsz.1
        rw [ed]
        refine wb_cons (ws_asg (by walk_at "pl") ?_ nd)
        walk_at "X"
        refine we_int1 T.int ?_
        walk_at "X"
        refine ⟨r, rfl, ?_⟩
        walk_at "X"
        refine wo_fdiv ⟨by have := hsz.1; omega, by have := hsz.2; omega⟩ ?_
        walk_at "nil"
        have em : dig.map encN ++ [Dt.int (d : Int)] = (dig ++ [d]).map encN := by
          rw [List.map_append]
          rfl
        rw [em]
        exact ⟨_, _, _, dig_snoc hd hds, rfl⟩
      · obtain ⟨dig, r, s1, hd, rfl⟩ := he
        refine wb_frz (x := "_law_row") (by walk_at "pl") ?_
        walk_at "ret"
        walk_at "X"
        exact q dig hd
    walk_at "nil"
    refine wb_cons (ws_asg (by walk_at "pl") ?_ nd)
    walk_at "X"
    refine we_int1 T.int ?_
    walk_at "X"
    refine ⟨x, rfl, ?_⟩
    walk_at "X"
    refine wo_mod (by omega) ?_
    refine wb_cons (ws_for (List.range sizes.length) encN (fun pre env1 => ∃ (dig : List Nat) (r : Int) (s1 s2 : SD), 0 ≤ r ∧ r < 4294967296 ∧ DigOk dig (sizes.take pre.length) ∧ env1 = ([("_law_cell_here", .dat (.int x)), ("_law_sizes", .dat (.lst (sizes.map encN))), ("_law_row", .own (dig.map encN)), ("_law_rest", .dat (.int x)), ("_law_size", .un), ("_law_seed", .dat (.int r)), ("_law_k", s1), ("_law_twice", s2)] : Env'))
      (wi_r T.rng (we_len T.len ?_)) ⟨[], _, _, _, by omega, by omega, ⟨rfl, fun i hi => absurd hi (Nat.not_lt_zero _)⟩, rfl⟩ (fun pre i post env1 hx he => ?_) (fun env1 he => ?_) nd)
    · walk_at "X"
      exact len_l ⟨sizes.length, by rw [List.length_map], by omega, rfl⟩
    · obtain ⟨dig, r, s1, s2, h0, h1, hd, rfl⟩ := he
      have hi : i = pre.length := by
        have h := congrArg (fun l => l[pre.length]?) hx
        simp only [List.getElem?_append_right (Nat.le_refl _), Nat.sub_self] at h
        by_cases hp : pre.length < sizes.length
        · rw [List.getElem?_range hp] at h
          simpa using h.symm
        · rw [List.getElem?_eq_none (by rw [List.length_range]; omega)] at h
          simp at h
      have hil : i < sizes.length := by
        have : i ∈ List.range sizes.length := by
          rw [hx]
          exact List.mem_append_right _ List.mem_cons_self
        exact List.mem_range.mp this
      have hsz := hs (sizes.getD i 0) (by rw [List.getD_eq_getElem?_getD, List.getElem?_eq_getElem hil]; exact List.getElem_mem _)
      refine ⟨_, _, by walk_at "tg", ?_⟩
      refine wb_cons (ws_asg (by walk_at "pl") ?_ nd)
      walk_at "X"
      refine we_int1 T.int ?_
      walk_at "X"
      refine wo_mul (.inr ⟨by omega, by omega⟩) ?_
      walk_at "X"
      refine wo_mul (.inl ⟨by omega, by omega⟩) ?_
      walk_at "X"
      refine ⟨_, rfl, ?_⟩
      walk_at "X"
      refine wo_mod (by omega) ?_
      generalize hr2 : (r * 48271 + 974711 * (i : Int) + 12345) % 2147483647 = r2
      have hr20 : 0 ≤ r2 := by rw [← hr2]; exact Int.emod_nonneg _ (by omega)
      have hr21 : r2 < 2147483647 := by rw [← hr2]; exact Int.emod_lt_of_pos _ (by omega)
      refine wb_cons (ws_asg (by walk_at "pl") ?_ nd)
      walk_at "X"
      refine we_int1 T.int ?_
      walk_at "X"
      refine wo_fdiv ⟨by omega, by omega⟩ ?_
      walk_at "X"
      refine wo_mul (.inl ⟨by omega, by omega⟩) ?_
      refine ⟨_, rfl, ?_⟩
      walk_at "X"
      refine wo_mod (by omega) ?_
      refine wb_cons (ws_append (by walk_at "pl") ?_ (by rw [List.length_map, hd.1, List.length_take, PySem.sizeLine]; omega))
      walk_at "X"
      refine wo_fdiv ⟨by omega, by omega⟩ ?_
      walk_at "X"
      refine ixd_l (atI_enc (d := 0) hil) ?_
      refine wo_mod (by have := hsz.1; omega) ?_
      obtain ⟨d, ed, hds⟩ := mod_nat ((r2 * (r2 / 65537 + 3)) % 2147483629 / 19) hsz.1
      rw [ed]
      walk_at "nil"
      have em : dig.map encN ++ [Dt.int (d : Int)] = (dig ++ [d]).map encN := by
        rw [List.map_append]
        rfl
      rw [em]
      refine ⟨_, r2, _, _, hr20, by omega, ?_, rfl⟩
      rw [List.length_append, List.length_singleton, List.take_add_one, ← hi, getD_at (d := 0) hil]
      exact dig_snoc (by rw [hi]; exact hd) hds
    · obtain ⟨dig, r, s1, s2, h0, h1, hd, rfl⟩ := he
      rw [List.length_range, List.take_length] at hd
      refine wb_frz (x := "_law_row") (by walk_at "pl") ?_
      walk_at "ret"
      walk_at "X"
      exact q dig hd
theorem ok_tuples {f : Addr} {fd : FuncData} (D : Df K mg "_law_tuples" s_law_tuples f fd) (T : Tx K mg C Cp) : ∀ k, Ok P w K mg base (k + 1) "_law_tuples" ["_law_value"] (tTuples k) := by
  have flat : ∀ (d : Dt), (∃ t, tyD d = some t ∧ (t = "int" ∨ t = "str" ∨ (t = "NoneType" ∧ d = .non))) → ∀ (cdv : Value) (A : Around) (outer : List Env) (s : Shared) (F H : Hp) (E : XK) (Φ : PD), Φ (.bl true) → WB (bdOf P w K mg base N_law_tuples "_law_tuples" s_law_tuples f cdv A outer s F H E) (defBody s_law_tuples) (mkE N_law_tuples [d]) { nx := fun _ => Φ .non, rt := Φ } := by
    intro d ⟨t, ht, ht2⟩ cdv A outer s F H E Φ q
    have h1 : kitB t "tuple" = some false := by rcases ht2 with rfl | rfl | ⟨rfl, _⟩ <;> rfl
    dsimp only [mkE]
    walk_at "if"
    refine wt_val (we_isi (n := "tuple") T.isi T.tup (by decide +kernel) ?_)
    walk_at "X"
    refine ⟨t, false, ht, h1, false, rfl, ?_⟩
    rw [if_neg Bool.false_ne_true]
    walk_at "nil"
    walk_at "ret"
    rcases ht2 with rfl | rfl | ⟨rfl, rfl⟩
    · refine we_or (we_isi (n := "str") T.isi T.str (by decide +kernel) ?_)
      walk_at "X"
      refine ⟨_, false, ht, rfl, false, rfl, ?_⟩
      rw [if_neg Bool.false_ne_true]
      refine we_or (we_isi (n := "int") T.isi T.int (by decide +kernel) ?_)
      walk_at "X"
      refine ⟨_, true, ht, rfl, true, rfl, ?_⟩
      rw [if_pos rfl]
      exact q
    · refine we_or (we_isi (n := "str") T.isi T.str (by decide +kernel) ?_)
      walk_at "X"
      refine ⟨_, true, ht, rfl, true, rfl, ?_⟩
      rw [if_pos rfl]
      exact q
    · refine we_or (we_isi (n := "str") T.isi T.str (by decide +kernel) ?_)
      walk_at "X"
      refine ⟨_, false, ht, rfl, false, rfl, ?_⟩
      rw [if_neg Bool.false_ne_true]
      refine we_or (we_isi (n := "int") T.isi T.int (by decide +kernel) ?_)
      walk_at "X"
      refine ⟨_, false, ht, rfl, false, rfl, ?_⟩
      rw [if_neg Bool.false_ne_true]
      refine we_one ?_
      walk_at "X"
      exact q
  intro k
  induction k with
  | zero =>
    refine ok_def D sc_law_tuples (fun ds Φ h => ?_) (fun _ _ _ _ _ _ us hl => match us, hl with | [_], _ => rfl) fun cdv A outer s F H E hr ds Φ h => ?_
    · obtain ⟨_, rfl, _⟩ := h
      rfl
    · obtain ⟨d, rfl, hd, q⟩ := h
      refine flat d ?_ cdv A outer s F H E Φ q
      cases d with
      | int i => exact ⟨_, rfl, .inl rfl⟩
      | str i => exact ⟨_, rfl, .inr (.inl rfl)⟩
      | non => exact ⟨_, rfl, .inr (.inr ⟨rfl, rfl⟩)⟩
      | lst xs => cases hd
      | tup b xs => cases hd
      | bl _ => cases hd
      | ins _ _ => cases hd
      | dct _ => cases hd
      | scr _ => cases hd
  | succ k G =>
    refine ok_def D sc_law_tuples (fun ds Φ h => ?_) (fun _ _ _ _ _ _ us hl => match us, hl with | [_], _ => rfl) fun cdv A outer s F H E hr ds Φ h => ?_
    · obtain ⟨_, rfl, _⟩ := h
      rfl
    · obtain ⟨d, rfl, hd, q⟩ := h
      have nd := sc_law_tuples.nd
      cases d with
      | int i => exact flat _ ⟨_, rfl, .inl rfl⟩ cdv A outer s F H E Φ q
      | str i => exact flat _ ⟨_, rfl, .inr (.inl rfl)⟩ cdv A outer s F H E Φ q
      | non => exact flat _ ⟨_, rfl, .inr (.inr ⟨rfl, rfl⟩)⟩ cdv A outer s F H E Φ q
      | lst xs => cases hd
      | tup b xs =>
        have hd : (decide (xs.length ≤ 1000) && xs.all (tpOk k)) = true := hd
        rw [Bool.and_eq_true] at hd
        have hxl := of_decide_eq_true hd.1
        have hxa := fun x hx => List.all_eq_true.mp hd.2 x hx
        dsimp only [mkE]
        walk_at "if"
        refine wt_val (we_isi (n := "tuple") T.isi T.tup (by decide +kernel) ?_)
        walk_at "X"
        refine ⟨_, true, rfl, rfl, true, rfl, ?_⟩
        rw [if_pos rfl]
        walk_at "ret"
        refine we_all T.all rfl (we_wl (wl_lc1 1 xs id (fun _ => true) (fun _ => .bl true) (by walk_at "pl") (wi_t ?_) (fun l hl s Hh C cl fp => wts_nil rfl) (fun x hx _ s Hh C' cl fp => we_call G hr ?_) (by omega) ?_ nd (blkOk_by (N := N_law_tuples) (sc := defScope s_law_tuples) (by decide +kernel))))
        · walk_at "X"
          exact ⟨_, _, rfl, (List.map_id _).symm⟩
        · walk_at "X"
          exact ⟨x, rfl, hxa x hx, rfl⟩
        · rw [filt_true]
          refine ⟨xs.map fun _ => true, by rw [List.map_map]; rfl, ?_⟩
          have e : (xs.map fun _ => true).all id = true := by
            rw [List.all_map]
            exact List.all_eq_true.mpr fun _ _ => rfl
          rw [e]
          exact q
      | bl _ => cases hd
      | ins _ _ => cases hd
      | dct _ => cases hd
      | scr _ => cases hd
end
end Cr
namespace Cr
open PySem PySem.Spec L2 Fw
def wordS (s : List Nat) : Str := ⟨(s.map fun d => letters.getD d 0).toArray⟩
theorem wordS_tl (s : List Nat) : (wordS s).cps.toList = s.map fun d => letters.getD d 0 := by
  unfold wordS
  rfl
theorem joinL_one : ∀ s : List Nat, TL.joinL [] (s.map fun d => [letters.getD d 0]) = s.map fun d => letters.getD d 0
  | [] => rfl
  | [_] => rfl
  | a :: b :: r => by
    have ih := joinL_one (b :: r)
    show [letters.getD a 0] ++ ([] ++ TL.joinL [] ((b :: r).map fun d => [letters.getD d 0])) = _
    rw [ih]
    rfl
theorem join_word (s : List Nat) : Txt.join "" (s.map fun d => (⟨#[letters.getD d 0]⟩ : Str)) = wordS s := by
  apply TL.ext_tl
  rw [TL.join_eq, TL.tl_join, List.map_map]
  exact joinL_one s
theorem letters_inj : ∀ a, a < 26 → ∀ b, b < 26 → letters.getD a 0 = letters.getD b 0 → a = b := by decide +kernel
theorem map_inj26 : ∀ a b : List Nat, (∀ x ∈ a, x < 26) → (∀ x ∈ b, x < 26) → (a.map fun d => letters.getD d 0) = (b.map fun d => letters.getD d 0) → a = b
  | [], [], _, _, _ => rfl
  | [], _ :: _, _, _, h => nomatch h
  | _ :: _, [], _, _, h => nomatch h
  | x :: a, y :: b, ha, hb, h => by
    rw [List.map_cons, List.map_cons, List.cons.injEq] at h
    rw [letters_inj x (ha x List.mem_cons_self) y (hb y List.mem_cons_self) h.1, map_inj26 a b (fun z hz => ha z (List.mem_cons_of_mem _ hz)) (fun z hz => hb z (List.mem_cons_of_mem _ hz)) h.2]
theorem wordS_inj (a b : List Nat) (ha : ∀ x ∈ a, x < 26) (hb : ∀ x ∈ b, x < 26) (h : wordS a = wordS b) : a = b := by
  have e := congrArg (fun x : Str => x.cps.toList) h
  simp only [wordS_tl] at e
  exact map_inj26 a b ha hb e
theorem wordS_len (s : List Nat) : (wordS s).length = s.length := by
  show (wordS s).cps.size = _
  unfold wordS
  rw [List.size_toArray, List.length_map]
theorem letters_len : letters.length = 26 := rfl
theorem wordS_abc {s : List Nat} (h : ∀ x ∈ s, x < 26) : ∀ k ∈ (wordS s).cps.toList, k ∈ letters := by
  rw [wordS_tl]
  intro k hk
  obtain ⟨d, hd, rfl⟩ := List.mem_map.mp hk
  have : d < letters.length := by rw [letters_len]; exact h d hd
  rw [List.getD_eq_getElem?_getD, List.getElem?_eq_getElem this]
  exact List.getElem_mem _
theorem sum_ones (s : List Nat) : ((s.map fun d => (⟨#[letters.getD d 0]⟩ : Str)).map (·.length)).sum = s.length := by
  induction s with
  | nil => rfl
  | cons x s ih =>
    rw [List.map_cons, List.map_cons, List.sum_cons, ih, List.length_cons]
    show 1 + s.length = _
    omega
theorem cutD_len {α : Type} {xs : List α} {i : Nat} (h : i ≤ xs.length) : cutD xs none (some (i : Int)) = xs.take i := by
  unfold cutD
  rw [HT.sIx_nat, HT.sIx_none, Nat.min_eq_left h, Nat.sub_zero, List.drop_zero]
section
variable {P : Program} {w : World} {K : PySem.W.Frag} {mg : Str → Option Value} {base : Heap} {C Cp : Addr} {k : Nat}
/-- letters -/
theorem let_at {d : Nat} (h : d < 26) (Φ : PD) (q : Φ (.str ⟨#[letters.getD d 0]⟩)) : IxD (.str abcS) (.int (d : Int)) Φ := by
  refine ixd_s (by decide +kernel) (c := letters.getD d 0) (atI_nat ?_) q
  rw [abcS_list]
  exact getD_at (by rw [letters_len]; exact h)
/-- the word of the signs -/
theorem ok_offices {f : Addr} {fd : FuncData} (D : Df K mg "_law_offices" s_law_offices f fd) (T : Tx K mg C Cp) (G1 : Ok P w K mg base k "_law_cell" ["_law_script", "_law_k"] tCell) (G2 : Ok P w K mg base k "_law_digits" ["_law_cell_here", "_law_sizes"] tDigits) : Ok P w K mg base (k + 1) "_law_offices" ["_law_script", "_law_at", "_law_many", "_law_style"] tOffices := by
  refine ok_def D sc_law_offices (fun ds Φ h => ?_) (fun _ _ _ _ _ _ us hl => match us, hl with | [_, _, _, _], _ => rfl) fun cdv A outer s F H E hr ds Φ h => ?_
  · obtain ⟨_, _, _, _, rfl, _⟩ := h
    rfl
  · obtain ⟨ns, at_, n, style, rfl, hn, q⟩ := h
    have nd := sc_law_offices.nd
    dsimp only [mkE]
    refine wb_cons (ws_asg (by walk_at "pl") (we_str (x := abcS) ?_) nd)
    refine wb_cons (ws_asg (by walk_at "pl") (we_call G2 hr ?_) nd)
    walk_at "x"
    refine we_call G1 hr ?_
    walk_at "X"
    refine ⟨ns, at_, rfl, fun i0 => ?_⟩
    walk_at "x"
    refine we_wl (wl_lst ?_)
    walk_at "X"
    refine ⟨by walk_at "sz", ?_⟩
    walk_at "X"
    refine ⟨i0, [26, 26, 26, 26, 4, 4], rfl, by decide, by decide, fun bs hbs => ?_⟩
    have bl : bs.length = 6 := hbs.1
    have b0 : bs.getD 0 0 < 26 := hbs.2 0 (by decide)
    have b1 : bs.getD 1 0 < 26 := hbs.2 1 (by decide)
    have b2 : bs.getD 2 0 < 26 := hbs.2 2 (by decide)
    have b3 : bs.getD 3 0 < 26 := hbs.2 3 (by decide)
    have b4 : bs.getD 4 0 < 4 := hbs.2 4 (by decide)
    have b5 : bs.getD 5 0 < 4 := hbs.2 5 (by decide)
    have btk : ∀ m, m ≤ 4 → ∀ x ∈ bs.take m, x < 26 := fun m hm x hx => by
      obtain ⟨i, hi, e⟩ := List.mem_take_iff_getElem.mp hx
      have e2 : bs.getD i 0 = x := by rw [List.getD_eq_getElem?_getD, List.getElem?_eq_some_iff.mpr ⟨_, e⟩]; rfl
      rw [← e2]
      have : i = 0 ∨ i = 1 ∨ i = 2 ∨ i = 3 := by omega
      rcases this with rfl | rfl | rfl | rfl <;> assumption
    refine wb_cons (ws_asgL (by walk_at "pl") (wl_lst (wa_nil ⟨Nat.zero_le _, ?_⟩)) nd)
    refine wb_cons (ws_for (List.range n) encN (fun pre env1 => ∃ s1 s2 s3 s4 s5 : SD, ∃ N : List Str, NamesOk pre.length N ∧ env1 = ([("_law_script", .dat (.scr ns)), ("_law_at", .dat (.int (at_ : Int))), ("_law_many", .dat (.int (n : Int))), ("_law_style", .dat (.int (style : Int))), ("_law_letters", .dat (.str abcS)), ("_law_base", .dat (.lst (bs.map encN))), ("_law_names", .own (N.map .str)), ("_law_k", s1), ("_law_part", s2), ("_law_signs", s3), ("_law_place", s4), ("_law_turn", s5), ("_law_sign", .un)] : Env'))
      (wi_r T.rng ?_) ⟨_, _, _, _, _, [], ⟨rfl, List.nodup_nil, (fun _ h => nomatch h), (fun _ h => nomatch h)⟩, rfl⟩ (fun pre j post env1 hx he => ?_) (fun env1 he => ?_) nd)
    · walk_at "X"
      exact ⟨n, rfl, by omega, rfl⟩
    · obtain ⟨s1, s2, s3, s4, s5, N, hN, rfl⟩ := he
      obtain ⟨hji, hjn⟩ := range_ix hx
      refine ⟨_, _, by walk_at "tg", ?_⟩
      refine wb_cons (ws_asg (by walk_at "pl") (we_call G2 hr ?_) nd)
      walk_at "x"
      refine we_call G1 hr ?_
      walk_at "X"
      refine ⟨ns, at_ + j, rfl, fun i1 => ?_⟩
      walk_at "x"
      refine we_wl (wl_lst ?_)
      walk_at "X"
      refine ⟨by walk_at "sz", ?_⟩
      walk_at "X"
      refine ⟨i1, [26, 26, 26, 26, 4], rfl, by decide, by decide, fun pt hpt => ?_⟩
      have pl : pt.length = 5 := hpt.1
      have p0 : pt.getD 0 0 < 26 := hpt.2 0 (by decide)
      have p1 : pt.getD 1 0 < 26 := hpt.2 1 (by decide)
      have p2 : pt.getD 2 0 < 26 := hpt.2 2 (by decide)
      have p3 : pt.getD 3 0 < 26 := hpt.2 3 (by decide)
      have p4 : pt.getD 4 0 < 4 := hpt.2 4 (by decide)
      have ptk : ∀ m, m ≤ 4 → ∀ x ∈ pt.take m, x < 26 := fun m hm x hx => by
        obtain ⟨i, hi, e⟩ := List.mem_take_iff_getElem.mp hx
        have e2 : pt.getD i 0 = x := by rw [List.getD_eq_getElem?_getD, List.getElem?_eq_some_iff.mpr ⟨_, e⟩]; rfl
        rw [← e2]
        have : i = 0 ∨ i = 1 ∨ i = 2 ∨ i = 3 := by omega
        rcases this with rfl | rfl | rfl | rfl <;> assumption
      refine wb_cons (ws_asgL (by walk_at "pl") (wl_sl ?_) nd)
      walk_at "X"
      refine ixd_l (atI_enc (d := 0) (i := 4) (by omega)) ?_
      walk_at "X"
      refine ⟨_, rfl, _, rfl, ?_⟩
      have ec : cutD (pt.map encN) none (some ((pt.getD 4 0 : Int) + 1)) = (pt.take (pt.getD 4 0 + 1)).map encN := by
        have : ((pt.getD 4 0 : Int) + 1) = ((pt.getD 4 0 + 1 : Nat) : Int) := by omega
        rw [this, cutD_map, cutD_len (by omega)]
      rw [ec]
      refine wb_cons (ws_asg (by walk_at "pl") ?_ nd)
      walk_at "X"
      refine ixd_l (atI_enc (d := 0) (i := 4) (by omega)) ?_
      -- signs and place
      let Sg : Env' → Prop := fun env1 => ∃ (sg : List Nat) (pc : Nat), 1 ≤ sg.length ∧ sg.length ≤ 4 ∧ (∀ x ∈ sg, x < 26) ∧ pc < sg.length ∧ env1 = ([("_law_script", .dat (.scr ns)), ("_law_at", .dat (.int (at_ : Int))), ("_law_many", .dat (.int (n : Int))), ("_law_style", .dat (.int (style : Int))), ("_law_letters", .dat (.str abcS)), ("_law_base", .dat (.lst (bs.map encN))), ("_law_names", .own (N.map .str)), ("_law_k", .dat (encN j)), ("_law_part", .dat (.lst (pt.map encN))), ("_law_signs", .own (sg.map encN)), ("_law_place", .dat (encN pc)), ("_law_turn", s5), ("_law_sign", .un)] : Env')
      refine wb_seq Sg ?_ fun env1 he => ?_
      · refine ws_if ?_
        walk_at "t"
        walk_at "X"
        have hl : (pt.take (pt.getD 4 0 + 1)).length = pt.getD 4 0 + 1 := by rw [List.length_take]; omega
        refine ⟨_, rfl, iteD (fun e => ?_) fun e => ?_⟩
        · refine wb_cons (ws_frz (x := "_law_signs") (by walk_at "pl") (ws_lc1 12 (pt.take (pt.getD 4 0 + 1)) encN (fun _ => true) (fun x => encN (x % 2)) (by walk_at "pl") (by walk_at "pl") (wi_l ?_) (fun l hl s Hh C cl fp => wts_nil rfl) (fun x hx _ s Hh C' cl fp => ?_) (by omega) ?_ nd (blkOk_by (N := N_law_offices) (sc := defScope s_law_offices) (by decide +kernel))))
          · walk_at "X"
            exact ⟨_, rfl, rfl⟩
          · walk_at "X"
            refine we_int1 T.int ?_
            walk_at "X"
            refine ⟨_, rfl, ?_⟩
            walk_at "X"
            refine wo_mod (by omega) ?_
            rfl
          · have e2 : ((pt.take (pt.getD 4 0 + 1)).filter fun _ => true).map (fun x => encN (x % 2)) = ((pt.take (pt.getD 4 0 + 1)).map (· % 2)).map encN := by
              rw [filt_true, List.map_map]
              rfl
            rw [e2]
            walk_at "nil"
            refine ⟨_, pt.getD 4 0, by rw [List.length_map, hl]; omega, by rw [List.length_map, hl]; omega, fun x hx => ?_, by rw [List.length_map, hl]; omega, rfl⟩
            obtain ⟨y, _, rfl⟩ := List.mem_map.mp hx
            omega
        · walk_at "nil"
          exact ⟨_, pt.getD 4 0, by omega, by omega, ptk _ (by omega), by omega, rfl⟩
      obtain ⟨sg, pc, g1, g2, g3, g4, rfl⟩ := he
      refine wb_seq Sg ?_ fun env1 he => ?_
      · refine ws_if ?_
        walk_at "t"
        walk_at "X"
        refine ⟨_, rfl, iteD (fun e => ?_) fun e => ?_⟩
        · have hl : (bs.take (bs.getD 4 0 + 1)).length = bs.getD 4 0 + 1 := by rw [List.length_take]; omega
          refine wb_cons (ws_asgL (by walk_at "pl") (wl_sl ?_) nd)
          walk_at "X"
          refine ixd_l (atI_enc (d := 0) (i := 4) (by omega)) ?_
          walk_at "X"
          refine ⟨_, rfl, _, rfl, ?_⟩
          have ec : cutD (bs.map encN) none (some ((bs.getD 4 0 : Int) + 1)) = (bs.take (bs.getD 4 0 + 1)).map encN := by
            have : ((bs.getD 4 0 : Int) + 1) = ((bs.getD 4 0 + 1 : Nat) : Int) := by omega
            rw [this, cutD_map, cutD_len (by omega)]
          rw [ec]
          refine wb_cons (ws_asg (by walk_at "pl") (we_frz (x := "_law_signs") (by walk_at "pl") ?_) nd)
          walk_at "x"
          refine we_int1 T.int ?_
          walk_at "X"
          refine ixd_l (atI_enc (d := 0) (i := 5) (by omega)) ?_
          refine ⟨_, rfl, ?_⟩
          refine we_len T.len ?_
          walk_at "X"
          refine len_l ?_
          rw [List.length_map, hl]
          refine wo_mod (by omega) ⟨trivial, ?_⟩
          obtain ⟨pc2, ep, hpc⟩ := mod_nat (bs.getD 5 0 : Int) (show 0 < bs.getD 4 0 + 1 by omega)
          have ep : ((bs.getD 5 0 : Nat) : Int) % ((bs.getD 4 0 + 1 : Nat) : Int) = (pc2 : Int) := ep
          rw [ep]
          refine wb_cons (ws_setix (by walk_at "pl") ?_)
          walk_at "X"
          refine ixd_l (atI_enc (d := 0) (i := 0) (by omega)) ?_
          walk_at "X"
          refine ⟨pc2, rfl, by rw [List.length_map, hl]; exact hpc, ?_⟩
          walk_at "nil"
          have em : ((bs.take (bs.getD 4 0 + 1)).map encN).set pc2 (encN (pt.getD 0 0)) = ((bs.take (bs.getD 4 0 + 1)).set pc2 (pt.getD 0 0)).map encN := by rw [List.map_set]
          rw [em]
          refine ⟨_, pc2, by rw [List.length_set, hl]; omega, by rw [List.length_set, hl]; omega, fun x hx => ?_, by rw [List.length_set, hl]; exact hpc, rfl⟩
          rcases List.mem_or_eq_of_mem_set hx with hx | hx
          · exact btk _ (by omega) x hx
          · rw [hx]; exact p0
        · walk_at "nil"
          exact ⟨_, pc, g1, g2, g3, g4, rfl⟩
      obtain ⟨sg, pc, g1, g2, g3, g4, rfl⟩ := he
      -- bumps
      have word : ∀ (Bx : Bd) (sg : List Nat), True := fun _ _ => trivial
      refine wb_cons (ws_for (List.range 8) encN (fun pre2 env1 => ∃ s5 : SD, env1 = ([("_law_script", .dat (.scr ns)), ("_law_at", .dat (.int (at_ : Int))), ("_law_many", .dat (.int (n : Int))), ("_law_style", .dat (.int (style : Int))), ("_law_letters", .dat (.str abcS)), ("_law_base", .dat (.lst (bs.map encN))), ("_law_names", .own (N.map .str)), ("_law_k", .dat (encN j)), ("_law_part", .dat (.lst (pt.map encN))), ("_law_signs", .own ((bumps (fun s => decide (wordS s ∈ N)) pc sg pre2.length).map encN)), ("_law_place", .dat (encN pc)), ("_law_turn", s5), ("_law_sign", .un)] : Env'))
        (wi_r T.rng ?_) ⟨_, rfl⟩ (fun pre2 t post2 env1 hx2 he => ?_) (fun env1 he => ?_) nd)
      · walk_at "X"
        exact ⟨8, rfl, by omega, rfl⟩
      · obtain ⟨s5, rfl⟩ := he
        have el : (pre2 ++ [t]).length = pre2.length + 1 := by rw [List.length_append, List.length_singleton]
        rw [el]
        obtain ⟨k1, k2⟩ := bumps_ok (bad := fun s => decide (wordS s ∈ N)) (place := pc) g3 pre2.length
        show ∃ env2 ns, _ ∧ WB _ _ env2 _
        have eb : bumps (fun s => decide (wordS s ∈ N)) pc sg (pre2.length + 1) = bump (fun s => decide (wordS s ∈ N)) pc (bumps (fun s => decide (wordS s ∈ N)) pc sg pre2.length) := rfl
        rw [eb]
        generalize bumps (fun s => decide (wordS s ∈ N)) pc sg pre2.length = sb at k1 k2
        refine ⟨_, _, by walk_at "tg", ?_⟩
        walk_at "if"
        refine wt_frz (x := "_law_names") (by walk_at "pl") (wt_frz (x := "_law_signs") (by walk_at "pl") ?_)
        walk_at "t"
        refine we_join ?_
        walk_at "X"
        refine ⟨_, rfl, we_wl (wl_lc1 12 sb encN (fun _ => true) (fun d => .str ⟨#[letters.getD d 0]⟩) (by walk_at "pl") (wi_l ?_) (fun l hl s Hh C cl fp => wts_nil rfl) (fun x hx _ s Hh C' cl fp => ?_) (by omega) ?_ nd (blkOk_by (N := N_law_offices) (sc := defScope s_law_offices) (by decide +kernel)))⟩
        · walk_at "X"
          exact ⟨_, rfl, rfl⟩
        · walk_at "X"
          exact let_at (k2 x hx) _ rfl
        rw [filt_true]
        refine ⟨sb.map fun d => ⟨#[letters.getD d 0]⟩, by rw [List.map_map]; rfl, ?_, ?_⟩
        · rw [sum_ones, List.length_map]
          show sb.length + sb.length * 0 ≤ _
          omega
        rw [join_word]
        walk_at "X"
        refine wo_in .l rfl (flats_str _) ⟨_, rfl, ?_⟩
        rw [inF_str]
        refine iteB (fun hb => ?_) fun hb => ?_
        · have ebp : bump (fun s => decide (wordS s ∈ N)) pc sb = sb.set pc ((sb.getD pc 0 + 1) % 26) := if_pos hb
          rw [ebp]
          refine wb_cons (ws_setix (by walk_at "pl") (we_frz (x := "_law_signs") (by walk_at "pl") ?_))
          walk_at "x"
          refine we_int1 T.int ?_
          walk_at "X"
          refine ixd_l (atI_enc (d := 0) (by rw [k1]; exact g4)) ?_
          walk_at "X"
          refine ⟨_, rfl, ?_⟩
          walk_at "X"
          refine wo_mod (by omega) ⟨trivial, ?_⟩
          walk_at "X"
          refine ⟨pc, rfl, by rw [List.length_map, k1]; exact g4, ?_⟩
          walk_at "nil"
          rw [List.map_set]
          exact ⟨_, rfl⟩
        · have ebp : bump (fun s => decide (wordS s ∈ N)) pc sb = sb := if_neg (show ¬ decide (wordS sb ∈ N) = true by rw [hb]; exact Bool.false_ne_true)
          rw [ebp]
          walk_at "nil"
          exact ⟨_, rfl⟩
      · obtain ⟨s5, rfl⟩ := he
        rw [List.length_range]
        obtain ⟨k1, k2⟩ := bumps_ok (bad := fun s => decide (wordS s ∈ N)) (place := pc) g3 8
        have hfree := bumps_free wordS_inj (N := N) (by rw [hN.1]; omega) g4 g3
        generalize bumps (fun s => decide (wordS s ∈ N)) pc sg 8 = sb at k1 k2 hfree
        refine wb_frz (x := "_law_signs") (by walk_at "pl") ?_
        refine wb_cons (ws_append (by walk_at "pl") (we_join ?_) (by rw [List.length_map, hN.1, PySem.sizeLine]; omega))
        walk_at "X"
        refine ⟨_, rfl, we_wl (wl_lc1 12 sb encN (fun _ => true) (fun d => .str ⟨#[letters.getD d 0]⟩) (by walk_at "pl") (wi_l ?_) (fun l hl s Hh C cl fp => wts_nil rfl) (fun x hx _ s Hh C' cl fp => ?_) (by omega) ?_ nd (blkOk_by (N := N_law_offices) (sc := defScope s_law_offices) (by decide +kernel)))⟩
        · walk_at "X"
          exact ⟨_, rfl, rfl⟩
        · walk_at "X"
          exact let_at (k2 x hx) _ rfl
        rw [filt_true]
        refine ⟨sb.map fun d => ⟨#[letters.getD d 0]⟩, by rw [List.map_map]; rfl, ?_, ?_⟩
        · rw [sum_ones, List.length_map]
          show sb.length + sb.length * 0 ≤ _
          omega
        rw [join_word]
        walk_at "nil"
        have em : N.map Dt.str ++ [Dt.str (wordS sb)] = (N ++ [wordS sb]).map Dt.str := by
          rw [List.map_append]
          rfl
        rw [em]
        refine ⟨_, _, _, _, _, _, ⟨by rw [List.length_append, List.length_append, hN.1]; rfl, ?_, ?_, ?_⟩, rfl⟩
        · exact List.nodup_append.mpr ⟨hN.2.1, List.nodup_cons.mpr ⟨List.not_mem_nil, List.nodup_nil⟩, fun a ha b hb => by
            rw [List.mem_singleton] at hb
            subst hb
            intro z
            subst z
            exact hfree ha⟩
        · intro x hx
          rcases List.mem_append.mp hx with hx | hx
          · exact hN.2.2.1 x hx
          · rw [List.mem_singleton] at hx
            rw [hx, wordS_len, k1]
            exact ⟨g1, g2⟩
        · intro x hx
          rcases List.mem_append.mp hx with hx | hx
          · exact hN.2.2.2 x hx
          · rw [List.mem_singleton] at hx
            rw [hx]
            exact wordS_abc k2
    · obtain ⟨s1, s2, s3, s4, s5, N, hN, rfl⟩ := he
      rw [List.length_range] at hN
      refine wb_frz (x := "_law_names") (by walk_at "pl") ?_
      walk_at "ret"
      walk_at "X"
      exact q N hN
end
end Cr
namespace Cr
open PySem PySem.Spec L2 Fw
def prD (p : Nat × Nat) : Dt := .lst [.int (p.1 : Int), .int (p.2 : Int)]
theorem eqP_pr {a b : Nat × Nat} : eqP (prD a) (prD b) = decide (a = b) := by
  have e : eqP (prD a) (prD b) = ((a.1 : Int) == (b.1 : Int) && ((a.2 : Int) == (b.2 : Int) && true)) := by
    unfold eqP prD
    simp [toPy, toPy.go, PyData.eqv, PyData.eqvAll]
  rw [e, Bool.and_true]
  rw [show ((a.1 : Int) == (b.1 : Int)) = decide (a.1 = b.1) by rw [Bool.beq_eq_decide_eq]; exact decide_eq_decide.mpr Int.ofNat_inj, show ((a.2 : Int) == (b.2 : Int)) = decide (a.2 = b.2) by rw [Bool.beq_eq_decide_eq]; exact decide_eq_decide.mpr Int.ofNat_inj]
  obtain ⟨a1, a2⟩ := a
  obtain ⟨b1, b2⟩ := b
  by_cases h1 : a1 = b1 <;> by_cases h2 : a2 = b2 <;> simp [h1, h2]
theorem any_pr (p : Nat × Nat) : ∀ ls : List Les, ((ls.map fun l => prD (l.1, l.2.1)).any fun z => eqP z (prD p)) = decide (p ∈ ls.map fun l => (l.1, l.2.1))
  | [] => rfl
  | l :: ls => by
    rw [List.map_cons, List.any_cons, any_pr p ls, eqP_pr, List.map_cons]
    by_cases h : (l.1, l.2.1) = p
    · simp [h]
    · have h2 : ¬ p = (l.1, l.2.1) := fun z => h z.symm
      simp [h, h2]
theorem okD_pr (p : Nat × Nat) : okD 1 (prD p) = true := rfl
theorem okD_prs (ls : List Les) : okD 2 (.lst (ls.map fun l => prD (l.1, l.2.1))) = true := by
  show ((ls.map fun l => prD (l.1, l.2.1)).all (okD 1)) = true
  rw [List.all_map]
  exact List.all_eq_true.mpr fun _ _ => rfl
theorem getD_le {L : List Nat} {m : Nat} (h : ∀ x ∈ L, x ≤ m) (i : Nat) : L.getD i 0 ≤ m := by
  rw [List.getD_eq_getElem?_getD]
  cases e : L[i]? with
  | none => exact Nat.zero_le _
  | some x => exact h x (List.mem_of_getElem? e)
theorem lesOk_perm {n : Nat} {ls ls' : List Les} (h : LesOk n ls) (p : ls'.Perm ls) : LesOk n ls' := ⟨by rw [p.length_eq]; exact h.1, fun l hl => h.2.1 l (p.mem_iff.mp hl), ((p.map _).nodup_iff).mpr h.2.2⟩
theorem lesOk_snoc {n : Nat} {ls : List Les} {a b c m : Nat} (h : ls.length ≤ m ∧ (∀ l ∈ ls, l.1 < n ∧ l.2.1 < n ∧ l.2.2 ≤ 99) ∧ (ls.map fun l => (l.1, l.2.1)).Nodup) (ha : a < n) (hb : b < n) (hc : c ≤ 99) (hn : (a, b) ∉ ls.map fun l => (l.1, l.2.1)) :
    (ls ++ [(a, b, c)]).length ≤ m + 1 ∧ (∀ l ∈ ls ++ [(a, b, c)], l.1 < n ∧ l.2.1 < n ∧ l.2.2 ≤ 99) ∧ ((ls ++ [(a, b, c)]).map fun l => (l.1, l.2.1)).Nodup := by
  refine ⟨by rw [List.length_append, List.length_singleton]; have := h.1; omega, fun l hl => ?_, ?_⟩
  · rcases List.mem_append.mp hl with hl | hl
    · exact h.2.1 l hl
    · rw [List.mem_singleton] at hl
      rw [hl]
      exact ⟨ha, hb, hc⟩
  · rw [List.map_append]
    exact List.nodup_append.mpr ⟨h.2.2, List.nodup_cons.mpr ⟨List.not_mem_nil, List.nodup_nil⟩, fun x hx y hy => by
      have hy : y ∈ [(a, b)] := hy
      rw [List.mem_singleton] at hy
      subst hy
      intro z
      subst z
      exact hn hx⟩
theorem cutD_mid {xs : List Nat} {i : Nat} (h : i + 2 ≤ xs.length) : cutD (xs.map encN) (some (i : Int)) (some ((i : Int) + 2)) = [.int (xs.getD i 0 : Int), .int (xs.getD (i + 1) 0 : Int)] := by
  have e : ((i : Int) + 2) = ((i + 2 : Nat) : Int) := by omega
  rw [e, cutD_map]
  unfold cutD
  rw [HT.sIx_nat, HT.sIx_nat, Nat.min_eq_left h, Nat.min_eq_left (show i ≤ xs.length by omega), show i + 2 - i = 2 by omega]
  have h1 : xs.drop i = xs.getD i 0 :: xs.drop (i + 1) := by
    rw [List.drop_eq_getElem_cons (by omega), List.getD_eq_getElem?_getD, List.getElem?_eq_getElem (by omega)]
    rfl
  have h2 : xs.drop (i + 1) = xs.getD (i + 1) 0 :: xs.drop (i + 2) := by
    rw [List.drop_eq_getElem_cons (by omega), List.getD_eq_getElem?_getD, List.getElem?_eq_getElem (by omega)]
    rfl
  rw [h1, h2]
  rfl
theorem cutD_two (l : Les) : cutD [Dt.int (l.1 : Int), .int (l.2.1 : Int), .int (l.2.2 : Int)] none (some 2) = [.int (l.1 : Int), .int (l.2.1 : Int)] := rfl
theorem min99 (p : Nat) : (if (p : Int) < 99 then (p : Int) else 99) = ((if p < 99 then p else 99 : Nat) : Int) := by
  split <;> split <;> omega
abbrev tBody : List Stmt := match defBody s_law_taught with
  | [_, _, _, _, .For _ _ b _ _, _, _, _, _, _] => b
  | _ => []
abbrev tSt (i : Nat) : Stmt := tBody.getD i (.Pass ⟨0, 0, 0, 0⟩)
abbrev tIn (i : Nat) : Stmt := match tSt 3 with
  | .If _ b _ _ => b.getD i (.Pass ⟨0, 0, 0, 0⟩)
  | _ => .Pass ⟨0, 0, 0, 0⟩
abbrev tSm : List Stmt := match tIn 4 with
  | .If _ b _ _ => b
  | _ => []
section
variable {P : Program} {w : World} {K : PySem.W.Frag} {mg : Str → Option Value} {base : Heap} {C Cp : Addr} {k : Nat}
theorem we_minN {B : Bd} {env : Env'} {a b : Expr} {p pos : Pos} {Φ : PD} (hm : B.X.mg "min" = none) (hc : B.X.calm = true) (h : WE B a env fun x => WE B b env fun y => ∃ i j : Nat, x = .int (i : Int) ∧ y = .int (j : Int) ∧ Φ (.int ((if j < i then j else i : Nat) : Int))) (hg : Gl B.X "min" := by rfl) (hs : starEach [a, b] B.X.env = (false, eval a B.X.env) :: starEach [b] B.X.env := by rfl)
    (hs2 : starEach [b] B.X.env = [(false, eval b B.X.env)] := by rfl) (hpl : (backTo pos (starEach [b] B.X.env)).any (·.1) = false := by rfl) : WE B (.Call (.Name "min" p) [a, b] [] pos) env Φ :=
  we_min2 hm hc (h.imp fun x q => q.imp fun y ⟨i, j, e1, e2, q⟩ => ⟨_, _, e1, e2, by
    have e : (if (j : Int) < (i : Int) then (j : Int) else (i : Int)) = ((if j < i then j else i : Nat) : Int) := by split <;> split <;> omega
    rw [e]
    exact q⟩) hg hs hs2 hpl
theorem min99_le (p : Nat) : (if p < 99 then p else 99 : Nat) ≤ 99 := by split <;> omega
theorem le_menu {m : Nat} {L : List Nat} (hL : L.all (fun x => decide (x ≤ 99)) = true) (hm : m ≤ 99) : ∀ x ∈ L ++ [m], x ≤ 99 := fun x hx => by
  rcases List.mem_append.mp hx with hx | hx
  · exact of_decide_eq_true (List.all_eq_true.mp hL x hx)
  · rw [List.mem_singleton] at hx
    rw [hx]
    exact hm
theorem menu1 {m : Nat} (hm : m ≤ 99) : ∀ x ∈ [0, 1, 1, 2, 0, 3, 1, 5, 2, 0, 1, m], x ≤ 99 := le_menu (L := [0, 1, 1, 2, 0, 3, 1, 5, 2, 0, 1]) (by decide) hm
theorem menu2 {m : Nat} (hm : m ≤ 99) : ∀ x ∈ [0, 0, 0, 1, 0, 0, 0, 2, 0, 0, 0, m], x ≤ 99 := le_menu (L := [0, 0, 0, 1, 0, 0, 0, 2, 0, 0, 0]) (by decide) hm
/-- [.., min(99, part[i])][part[j]] -/
theorem menu_ix {L : List Nat} {j : Nat} (hj : j < L.length) (hL : ∀ x ∈ L, x ≤ 99) {Φ : PD} (q : ∀ b : Nat, b ≤ 99 → Φ (.int (b : Int))) : IxD (.lst (L.map encN)) (.int (j : Int)) Φ := ixd_l (atI_enc (d := 0) hj) (q _ (getD_le hL j))
section
variable {f : Addr} {cdv : Value} {A : Around} {outer : List Env} {s : Shared} {F H : Hp} {E : XK} {ns : List Int} {at_ n plan extra turn tr kk : Nat} {ls : List Les} {pt : List Nat} {s5 s6 : SD} {nx bk ct : Env' → Prop} {rt : PD}
def PbT (ns : List Int) (at_ n plan extra turn tr kk : Nat) (ls : List Les) (pt : List Nat) (s6 : SD) (env1 : Env') : Prop := ∃ (x y b : Nat) (s5 : SD), x < n ∧ y < n ∧ b ≤ 99 ∧ env1 = ([("_law_script", .dat (.scr ns)), ("_law_at", .dat (.int (at_ : Int))), ("_law_many", .dat (.int (n : Int))), ("_law_plan", .dat (.int (plan : Int))), ("_law_extra", .dat (.int (extra : Int))), ("_law_turn", .dat (.int (turn : Int))), ("_law_lessons", .own (ls.map lst3)), ("_law_tries", .dat (.int (tr : Int))), ("_law_k", .dat (encN kk)), ("_law_part", .dat (.lst (pt.map encN))), ("_law_pair", .dat (prD (x, y))), ("_law_bound", .dat (.int (b : Int))), ("_law_half", s5), ("_law_j", s6), ("_law_start_here", .un), ("_law_lesson", .un)] : Env')
abbrev PB := PbT
theorem tk_6 (T : Tx K mg C Cp) (hn1 : 1 ≤ n) (e1 : kk < n) {x y b : Nat} (hx1 : x < n) (hy1 : y < n) (hb : b ≤ 99) : WS (bdOf P w K mg base N_law_taught "_law_taught" s_law_taught f cdv A outer s F H E) (tIn 1) ([("_law_script", .dat (.scr ns)), ("_law_at", .dat (.int (at_ : Int))), ("_law_many", .dat (.int (n : Int))), ("_law_plan", .dat (.int (plan : Int))), ("_law_extra", .dat (.int (extra : Int))), ("_law_turn", .dat (.int (turn : Int))), ("_law_lessons", .own (ls.map lst3)), ("_law_tries", .dat (.int (tr : Int))), ("_law_k", .dat (encN kk)), ("_law_part", .dat (.lst (pt.map encN))), ("_law_pair", .dat (prD (x, y))), ("_law_bound", .dat (.int (b : Int))), ("_law_half", s5), ("_law_j", s6), ("_law_start_here", .un), ("_law_lesson", .un)] : Env') ⟨(PbT ns at_ n plan extra turn tr kk ls pt s6), rt, bk, ct⟩ := by
  have nd := sc_law_taught.nd
  show WS _ (.If _ _ _ _) _ _
  refine ws_if ?_
  walk_at "t"
  walk_at "X"
  refine ⟨_, rfl, iteD (fun e3 => ?_) fun e3 => ?_⟩
  rotate_left
  · walk_at "nil"
    exact ⟨x, y, b, _, hx1, hy1, hb, rfl⟩
  refine wb_cons (ws_asg (by walk_at "pl") ?_ nd)
  walk_at "X"
  refine wo_fdiv ⟨by omega, by omega⟩ ?_
  have hh : ((n : Int) + 1) / 2 = (((n + 1) / 2 : Nat) : Int) := by omega
  rw [hh]
  have h1 : 1 ≤ (n + 1) / 2 := by omega
  have h2 : (n + 1) / 2 ≤ n := by omega
  generalize (n + 1) / 2 = half at h1 h2
  refine wb_cons (ws_asg (by walk_at "pl") (we_wl (wl_lst ?_)) nd)
  walk_at "X"
  refine we_int1 T.int ?_
  walk_at "X"
  refine ⟨_, rfl, ?_⟩
  walk_at "X"
  refine wo_mod (by omega) ?_
  walk_at "X"
  refine ⟨by walk_at "sz", ?_⟩
  obtain ⟨y1, hy1, hyn1⟩ := mod_nat ((kk : Int) + 1) (show 0 < half by omega)
  rw [hy1]
  walk_at "if"
  walk_at "t"
  walk_at "X"
  refine ⟨_, rfl, iteD (fun e4 => ?_) fun e4 => ?_⟩
  rotate_left
  · walk_at "nil"
    exact ⟨kk, y1, b, _, e1, by omega, hb, rfl⟩
  have e4 : half ≤ kk := by
    have : (half : Int) ≤ (kk : Int) := e4
    omega
  refine wb_cons (ws_asg (by walk_at "pl") (we_wl (wl_lst ?_)) nd)
  walk_at "X"
  refine we_int1 T.int ?_
  walk_at "X"
  refine ⟨_, rfl, ?_⟩
  walk_at "X"
  refine wo_mod (by omega) ?_
  walk_at "X"
  refine ⟨by walk_at "sz", ?_⟩
  obtain ⟨y2, hy2, hyn2⟩ := mod_nat ((kk : Int) + 1 - (half : Int)) (show 0 < n - half by omega)
  have e5 : ((n - half : Nat) : Int) = (n : Int) - (half : Int) := by omega
  rw [e5] at hy2
  rw [hy2]
  walk_at "nil"
  exact ⟨kk, half + y2, b, _, e1, by omega, hb, rfl⟩
theorem tk_7 (T : Tx K mg C Cp) (pl : pt.length = 12) (d0 : pt.getD 0 0 < n) {x y b : Nat} (hx1 : x < n) (hy1 : y < n) (hb : b ≤ 99) : WS (bdOf P w K mg base N_law_taught "_law_taught" s_law_taught f cdv A outer s F H E) (tIn 2) ([("_law_script", .dat (.scr ns)), ("_law_at", .dat (.int (at_ : Int))), ("_law_many", .dat (.int (n : Int))), ("_law_plan", .dat (.int (plan : Int))), ("_law_extra", .dat (.int (extra : Int))), ("_law_turn", .dat (.int (turn : Int))), ("_law_lessons", .own (ls.map lst3)), ("_law_tries", .dat (.int (tr : Int))), ("_law_k", .dat (encN kk)), ("_law_part", .dat (.lst (pt.map encN))), ("_law_pair", .dat (prD (x, y))), ("_law_bound", .dat (.int (b : Int))), ("_law_half", s5), ("_law_j", s6), ("_law_start_here", .un), ("_law_lesson", .un)] : Env') ⟨(PbT ns at_ n plan extra turn tr kk ls pt s6), rt, bk, ct⟩ := by
  have nd := sc_law_taught.nd
  show WS _ (.If _ _ _ _) _ _
  refine ws_if ?_
  refine wt_ww (ww_and ?_)
  walk_at "t"
  walk_at "X"
  refine ⟨_, rfl, iteD (fun e3 => ?_) fun e3 => ?_⟩
  rotate_left
  · rw [if_neg Bool.false_ne_true]
    walk_at "nil"
    exact ⟨x, y, b, _, hx1, hy1, hb, rfl⟩
  refine ww_and1 ?_
  walk_at "t"
  walk_at "X"
  refine ⟨_, rfl, iteD (fun e4 => ?_) fun e4 => ?_⟩
  rotate_left
  · walk_at "nil"
    exact ⟨x, y, b, _, hx1, hy1, hb, rfl⟩
  refine wb_cons (ws_asg (by walk_at "pl") (we_wl (wl_lst ?_)) nd)
  walk_at "X"
  refine ixd_l (atI_enc (d := 0) (i := 0) (by omega)) ?_
  walk_at "X"
  refine ⟨by walk_at "sz", ?_⟩
  have e5 : (n : Int) - 1 = ((n - 1 : Nat) : Int) := by omega
  rw [e5]
  walk_at "nil"
  exact ⟨_, n - 1, b, _, d0, by omega, hb, rfl⟩
theorem tk_t (T : Tx K mg C Cp)  {x y b : Nat} (hx1 : x < n) (hy1 : y < n) (hb : b ≤ 99) : WS (bdOf P w K mg base N_law_taught "_law_taught" s_law_taught f cdv A outer s F H E) (tIn 3) ([("_law_script", .dat (.scr ns)), ("_law_at", .dat (.int (at_ : Int))), ("_law_many", .dat (.int (n : Int))), ("_law_plan", .dat (.int (plan : Int))), ("_law_extra", .dat (.int (extra : Int))), ("_law_turn", .dat (.int (turn : Int))), ("_law_lessons", .own (ls.map lst3)), ("_law_tries", .dat (.int (tr : Int))), ("_law_k", .dat (encN kk)), ("_law_part", .dat (.lst (pt.map encN))), ("_law_pair", .dat (prD (x, y))), ("_law_bound", .dat (.int (b : Int))), ("_law_half", s5), ("_law_j", s6), ("_law_start_here", .un), ("_law_lesson", .un)] : Env') ⟨(PbT ns at_ n plan extra turn tr kk ls pt s6), rt, bk, ct⟩ := by
  have nd := sc_law_taught.nd
  show WS _ (.If _ _ _ _) _ _
  refine ws_if ?_
  walk_at "t"
  walk_at "x"
  refine we_int1 T.int ?_
  walk_at "X"
  refine wo_fdiv ⟨by omega, by omega⟩ ⟨_, rfl, ?_⟩
  walk_at "X"
  refine wo_mod (by omega) ?_
  walk_at "X"
  refine ⟨_, rfl, iteD (fun e3 => ?_) fun e3 => ?_⟩
  rotate_left
  · walk_at "nil"
    exact ⟨x, y, b, _, hx1, hy1, hb, rfl⟩
  refine wb_cons (ws_asg (by walk_at "pl") (we_wl (wl_lst ?_)) nd)
  walk_at "X"
  refine ixd_l (v := .int (y : Int)) rfl ?_
  walk_at "X"
  refine ixd_l (v := .int (x : Int)) rfl ?_
  walk_at "X"
  refine ⟨by walk_at "sz", ?_⟩
  walk_at "nil"
  exact ⟨y, x, b, _, hy1, hx1, hb, rfl⟩
theorem tk_5 (T : Tx K mg C Cp)  {x y b : Nat} (hx1 : x < n) (hy1 : y < n) (hb : b ≤ 99) : WS (bdOf P w K mg base N_law_taught "_law_taught" s_law_taught f cdv A outer s F H E) (tIn 5) ([("_law_script", .dat (.scr ns)), ("_law_at", .dat (.int (at_ : Int))), ("_law_many", .dat (.int (n : Int))), ("_law_plan", .dat (.int (plan : Int))), ("_law_extra", .dat (.int (extra : Int))), ("_law_turn", .dat (.int (turn : Int))), ("_law_lessons", .own (ls.map lst3)), ("_law_tries", .dat (.int (tr : Int))), ("_law_k", .dat (encN kk)), ("_law_part", .dat (.lst (pt.map encN))), ("_law_pair", .dat (prD (x, y))), ("_law_bound", .dat (.int (b : Int))), ("_law_half", s5), ("_law_j", s6), ("_law_start_here", .un), ("_law_lesson", .un)] : Env') ⟨(PbT ns at_ n plan extra turn tr kk ls pt s6), rt, bk, ct⟩ := by
  have nd := sc_law_taught.nd
  show WS _ (.If _ _ _ _) _ _
  refine ws_if ?_
  refine wt_ww (ww_and ?_)
  walk_at "t"
  walk_at "X"
  refine ⟨_, rfl, iteD (fun e3 => ?_) fun e3 => ?_⟩
  rotate_left
  · rw [if_neg Bool.false_ne_true]
    walk_at "nil"
    exact ⟨x, y, b, _, hx1, hy1, hb, rfl⟩
  refine ww_and1 ?_
  walk_at "t"
  walk_at "x"
  refine we_int1 T.int ?_
  walk_at "X"
  refine ⟨_, rfl, ?_⟩
  walk_at "X"
  refine wo_mod (by omega) ?_
  walk_at "X"
  refine ⟨_, rfl, iteD (fun e4 => ?_) fun e4 => ?_⟩
  rotate_left
  · walk_at "nil"
    exact ⟨x, y, b, _, hx1, hy1, hb, rfl⟩
  refine wb_cons (ws_asg (by walk_at "pl") (we_int1 T.int ?_) nd)
  walk_at "X"
  refine ⟨_, rfl, ?_⟩
  walk_at "nil"
  refine ⟨x, y, if kk = 0 then 1 else 0, s5, hx1, hy1, by split <;> omega, ?_⟩
  have e6 : (if decide ((kk : Int) = 0) = true then (1 : Int) else 0) = ((if kk = 0 then 1 else 0 : Nat) : Int) := by
    by_cases h : kk = 0
    · simp [h]
    · simp [h]
  rw [← e6]
theorem tk_small (T : Tx K mg C Cp) (pl : pt.length = 12) (d2 : pt.getD 2 0 < 12) {x y b : Nat} (hx1 : x < n) (hy1 : y < n) : WB (bdOf P w K mg base N_law_taught "_law_taught" s_law_taught f cdv A outer s F H E) tSm ([("_law_script", .dat (.scr ns)), ("_law_at", .dat (.int (at_ : Int))), ("_law_many", .dat (.int (n : Int))), ("_law_plan", .dat (.int (plan : Int))), ("_law_extra", .dat (.int (extra : Int))), ("_law_turn", .dat (.int (turn : Int))), ("_law_lessons", .own (ls.map lst3)), ("_law_tries", .dat (.int (tr : Int))), ("_law_k", .dat (encN kk)), ("_law_part", .dat (.lst (pt.map encN))), ("_law_pair", .dat (prD (x, y))), ("_law_bound", .dat (.int (b : Int))), ("_law_half", s5), ("_law_j", s6), ("_law_start_here", .un), ("_law_lesson", .un)] : Env') ⟨(PbT ns at_ n plan extra turn tr kk ls pt s6), rt, bk, ct⟩ := by
  have nd := sc_law_taught.nd
  show WB _ [.Assign _ _ _] _ _
  refine wb_cons ?_
  have hp : Pl ([("_law_script", .dat (.scr ns)), ("_law_at", .dat (.int (at_ : Int))), ("_law_many", .dat (.int (n : Int))), ("_law_plan", .dat (.int (plan : Int))), ("_law_extra", .dat (.int (extra : Int))), ("_law_turn", .dat (.int (turn : Int))), ("_law_lessons", .own (ls.map lst3)), ("_law_tries", .dat (.int (tr : Int))), ("_law_k", .dat (encN kk)), ("_law_part", .dat (.lst (pt.map encN))), ("_law_pair", .dat (prD (x, y))), ("_law_bound", (.dat (.int (b : Int)))), ("_law_half", s5), ("_law_j", s6), ("_law_start_here", .un), ("_law_lesson", .un)] : Env') "_law_bound" (.dat (.int (b : Int))) (fun t => ([("_law_script", .dat (.scr ns)), ("_law_at", .dat (.int (at_ : Int))), ("_law_many", .dat (.int (n : Int))), ("_law_plan", .dat (.int (plan : Int))), ("_law_extra", .dat (.int (extra : Int))), ("_law_turn", .dat (.int (turn : Int))), ("_law_lessons", .own (ls.map lst3)), ("_law_tries", .dat (.int (tr : Int))), ("_law_k", .dat (encN kk)), ("_law_part", .dat (.lst (pt.map encN))), ("_law_pair", .dat (prD (x, y))), ("_law_bound", t), ("_law_half", s5), ("_law_j", s6), ("_law_start_here", .un), ("_law_lesson", .un)] : Env')) := by walk_at "pl"
  have z := fun e pos' pos D h hs => ws_asg (B := (bdOf P w K mg base N_law_taught "_law_taught" s_law_taught f cdv A outer s F H E)) (e := e) (pos := pos) (pos' := pos') (D := D) hp h nd (hs := hs)
  refine z _ _ _ _ ?_ ?_
  rotate_left
  · rfl
  walk_at "x"
  walk_at "lst"
  walk_at "X"
  refine we_minN T.min rfl ?_
  walk_at "X"
  refine ixd_l (atI_enc (d := 0) (i := 3) (by omega)) ⟨99, _, rfl, rfl, ?_⟩
  walk_at "X"
  refine ⟨by walk_at "sz", ?_⟩
  walk_at "X"
  refine ixd_l (atI_enc (d := 0) (i := 2) (by omega)) ?_
  refine menu_ix (L := [0, 0, 0, 1, 0, 0, 0, 2, 0, 0, 0, if pt.getD 3 0 < 99 then pt.getD 3 0 else 99]) (show pt.getD 2 0 < 12 by omega) (menu2 (min99_le _)) fun b2 hb2 => ?_
  walk_at "nil"
  exact ⟨x, y, b2, _, hx1, hy1, hb2, rfl⟩

theorem tk_s (T : Tx K mg C Cp) (pl : pt.length = 12) (d2 : pt.getD 2 0 < 12) {x y b : Nat} (hx1 : x < n) (hy1 : y < n) (hb : b ≤ 99) : WS (bdOf P w K mg base N_law_taught "_law_taught" s_law_taught f cdv A outer s F H E) (tIn 4) ([("_law_script", .dat (.scr ns)), ("_law_at", .dat (.int (at_ : Int))), ("_law_many", .dat (.int (n : Int))), ("_law_plan", .dat (.int (plan : Int))), ("_law_extra", .dat (.int (extra : Int))), ("_law_turn", .dat (.int (turn : Int))), ("_law_lessons", .own (ls.map lst3)), ("_law_tries", .dat (.int (tr : Int))), ("_law_k", .dat (encN kk)), ("_law_part", .dat (.lst (pt.map encN))), ("_law_pair", .dat (prD (x, y))), ("_law_bound", .dat (.int (b : Int))), ("_law_half", s5), ("_law_j", s6), ("_law_start_here", .un), ("_law_lesson", .un)] : Env') ⟨(PbT ns at_ n plan extra turn tr kk ls pt s6), rt, bk, ct⟩ := by
  have nd := sc_law_taught.nd
  show WS _ (.If _ _ _ _) _ _
  refine ws_if ?_
  refine wt_ww (ww_or ?_)
  walk_at "t"
  walk_at "X"
  refine ⟨_, rfl, iteD (fun e3 => ?_) fun e3 => ?_⟩
  · rw [if_pos rfl]
    exact tk_small T pl d2 hx1 hy1
  refine ww_or1 (wt_ww (ww_and ?_))
  walk_at "t"
  walk_at "X"
  refine ⟨_, rfl, iteD (fun e4 => ?_) fun e4 => ?_⟩
  rotate_left
  · rw [if_neg Bool.false_ne_true]
    walk_at "nil"
    exact ⟨x, y, b, _, hx1, hy1, hb, rfl⟩
  refine ww_and1 ?_
  walk_at "t"
  walk_at "x"
  refine we_int1 T.int ?_
  walk_at "X"
  refine ⟨_, rfl, ?_⟩
  walk_at "X"
  refine wo_mod (by omega) ?_
  walk_at "X"
  refine ⟨_, rfl, iteD (fun e5 => ?_) fun e5 => ?_⟩
  · exact tk_small T pl d2 hx1 hy1
  · walk_at "nil"
    exact ⟨x, y, b, _, hx1, hy1, hb, rfl⟩

/-- the bound -/
theorem tk_b (T : Tx K mg C Cp) (pl : pt.length = 12) (d2 : pt.getD 2 0 < 12) {x y : Nat} {s4 : SD} (hx1 : x < n) (hy1 : y < n) : WS (bdOf P w K mg base N_law_taught "_law_taught" s_law_taught f cdv A outer s F H E) (tSt 2) ([("_law_script", .dat (.scr ns)), ("_law_at", .dat (.int (at_ : Int))), ("_law_many", .dat (.int (n : Int))), ("_law_plan", .dat (.int (plan : Int))), ("_law_extra", .dat (.int (extra : Int))), ("_law_turn", .dat (.int (turn : Int))), ("_law_lessons", .own (ls.map lst3)), ("_law_tries", .dat (.int (tr : Int))), ("_law_k", .dat (encN kk)), ("_law_part", .dat (.lst (pt.map encN))), ("_law_pair", .dat (prD (x, y))), ("_law_bound", s4), ("_law_half", s5), ("_law_j", s6), ("_law_start_here", .un), ("_law_lesson", .un)] : Env') ⟨(PbT ns at_ n plan extra turn tr kk ls pt s6), rt, bk, ct⟩ := by
  have nd := sc_law_taught.nd
  show WS _ (.Assign _ _ _) _ _
  have hp : Pl ([("_law_script", .dat (.scr ns)), ("_law_at", .dat (.int (at_ : Int))), ("_law_many", .dat (.int (n : Int))), ("_law_plan", .dat (.int (plan : Int))), ("_law_extra", .dat (.int (extra : Int))), ("_law_turn", .dat (.int (turn : Int))), ("_law_lessons", .own (ls.map lst3)), ("_law_tries", .dat (.int (tr : Int))), ("_law_k", .dat (encN kk)), ("_law_part", .dat (.lst (pt.map encN))), ("_law_pair", .dat (prD (x, y))), ("_law_bound", s4), ("_law_half", s5), ("_law_j", s6), ("_law_start_here", .un), ("_law_lesson", .un)] : Env') "_law_bound" s4 (fun t => ([("_law_script", .dat (.scr ns)), ("_law_at", .dat (.int (at_ : Int))), ("_law_many", .dat (.int (n : Int))), ("_law_plan", .dat (.int (plan : Int))), ("_law_extra", .dat (.int (extra : Int))), ("_law_turn", .dat (.int (turn : Int))), ("_law_lessons", .own (ls.map lst3)), ("_law_tries", .dat (.int (tr : Int))), ("_law_k", .dat (encN kk)), ("_law_part", .dat (.lst (pt.map encN))), ("_law_pair", .dat (prD (x, y))), ("_law_bound", t), ("_law_half", s5), ("_law_j", s6), ("_law_start_here", .un), ("_law_lesson", .un)] : Env')) := by walk_at "pl"
  have z := fun e pos' pos D h hs => ws_asg (B := (bdOf P w K mg base N_law_taught "_law_taught" s_law_taught f cdv A outer s F H E)) (e := e) (pos := pos) (pos' := pos') (D := D) hp h nd (hs := hs)
  refine z _ _ _ _ ?_ ?_
  rotate_left
  · rfl
  walk_at "x"
  walk_at "lst"
  walk_at "X"
  refine we_minN T.min rfl ?_
  walk_at "X"
  refine ixd_l (atI_enc (d := 0) (i := 3) (by omega)) ⟨99, _, rfl, rfl, ?_⟩
  walk_at "X"
  refine ⟨by walk_at "sz", ?_⟩
  walk_at "X"
  refine ixd_l (atI_enc (d := 0) (i := 2) (by omega)) ?_
  refine menu_ix (L := [0, 1, 1, 2, 0, 3, 1, 5, 2, 0, 1, if pt.getD 3 0 < 99 then pt.getD 3 0 else 99]) (show pt.getD 2 0 < 12 by omega) (menu1 (min99_le _)) fun b hb => ?_
  exact ⟨x, y, b, _, hx1, hy1, hb, rfl⟩

def LP (n m : Nat) (ls : List Les) : Prop := ls.length ≤ m ∧ (∀ l ∈ ls, l.1 < n ∧ l.2.1 < n ∧ l.2.2 ≤ 99) ∧ (ls.map fun l => (l.1, l.2.1)).Nodup
/-- behind an adding -/
def QmT (m : Nat) (ns : List Int) (at_ n plan extra turn tr kk : Nat) (pt : List Nat) (s3 s4 s5 s6 : SD) (env1 : Env') : Prop := ∃ ls : List Les, LP n m ls ∧ env1 = ([("_law_script", .dat (.scr ns)), ("_law_at", .dat (.int (at_ : Int))), ("_law_many", .dat (.int (n : Int))), ("_law_plan", .dat (.int (plan : Int))), ("_law_extra", .dat (.int (extra : Int))), ("_law_turn", .dat (.int (turn : Int))), ("_law_lessons", .own (ls.map lst3)), ("_law_tries", .dat (.int (tr : Int))), ("_law_k", .dat (encN kk)), ("_law_part", .dat (.lst (pt.map encN))), ("_law_pair", s3), ("_law_bound", s4), ("_law_half", s5), ("_law_j", s6), ("_law_start_here", .un), ("_law_lesson", .un)] : Env')
theorem sz36 {m : Nat} (h : m ≤ 36) : m < sizeLine := Nat.lt_of_le_of_lt h (by decide)
theorem qm_in {m : Nat} {x y b : Nat} {s3 s4 : SD} (hls : LP n m ls) (hx1 : x < n) (hy1 : y < n) (hb : b ≤ 99) (hn : (x, y) ∉ ls.map fun l => (l.1, l.2.1)) : QmT (m + 1) ns at_ n plan extra turn tr kk pt s3 s4 s5 s6 ([("_law_script", .dat (.scr ns)), ("_law_at", .dat (.int (at_ : Int))), ("_law_many", .dat (.int (n : Int))), ("_law_plan", .dat (.int (plan : Int))), ("_law_extra", .dat (.int (extra : Int))), ("_law_turn", .dat (.int (turn : Int))), ("_law_lessons", .own (ls.map lst3 ++ [.lst ([.int (x : Int), .int (y : Int)] ++ [.int (b : Int)])])), ("_law_tries", .dat (.int (tr : Int))), ("_law_k", .dat (encN kk)), ("_law_part", .dat (.lst (pt.map encN))), ("_law_pair", s3), ("_law_bound", s4), ("_law_half", s5), ("_law_j", s6), ("_law_start_here", .un), ("_law_lesson", .un)] : Env') := by
  have em : ls.map lst3 ++ [.lst ([.int (x : Int), .int (y : Int)] ++ [.int (b : Int)])] = (ls ++ [(x, y, b)]).map lst3 := by
    rw [List.map_append]
    rfl
  rw [em]
  exact ⟨_, lesOk_snoc hls hx1 hy1 hb hn, rfl⟩
theorem tk_m (hu : (bdOf P w K mg base N_law_taught "_law_taught" s_law_taught f cdv A outer s F H E).X.A.units + 65 < cLine) {m : Nat} {x y b : Nat} (hls : LP n m ls) (hm : m + 1 ≤ 36) (hx1 : x < n) (hy1 : y < n) (hb : b ≤ 99) : WS (bdOf P w K mg base N_law_taught "_law_taught" s_law_taught f cdv A outer s F H E) (tSt 4) ([("_law_script", .dat (.scr ns)), ("_law_at", .dat (.int (at_ : Int))), ("_law_many", .dat (.int (n : Int))), ("_law_plan", .dat (.int (plan : Int))), ("_law_extra", .dat (.int (extra : Int))), ("_law_turn", .dat (.int (turn : Int))), ("_law_lessons", .own (ls.map lst3)), ("_law_tries", .dat (.int (tr : Int))), ("_law_k", .dat (encN kk)), ("_law_part", .dat (.lst (pt.map encN))), ("_law_pair", .dat (prD (x, y))), ("_law_bound", .dat (.int (b : Int))), ("_law_half", s5), ("_law_j", s6), ("_law_start_here", .un), ("_law_lesson", .un)] : Env') ⟨QmT (m + 1) ns at_ n plan extra turn tr kk pt (.dat (prD (x, y))) (.dat (.int (b : Int))) s5 s6, rt, bk, ct⟩ := by
  have nd := sc_law_taught.nd
  have hl36 : ls.length ≤ 36 := by have := hls.1; omega
  show WS _ (.If _ _ _ _) _ _
  refine ws_if ?_
  refine wt_frz (x := "_law_lessons") (by walk_at "pl") ?_
  walk_at "t"
  walk_at "X"
  refine we_wl (wl_lc1 15 ls lst3 (fun _ => true) (fun l => prD (l.1, l.2.1)) (by walk_at "pl") (wi_l ?_) (fun l hl s Hh C cl fp => wts_nil rfl) (fun l hl _ s Hh C' cl fp => ?_) (by omega) ?_ nd (blkOk_by (N := N_law_taught) (sc := defScope s_law_taught) (by decide +kernel)))
  · walk_at "X"
    exact ⟨_, rfl, rfl⟩
  · refine we_wl (wl_sl ?_)
    walk_at "X"
    exact ⟨_, rfl, ⟨_, rfl, rfl⟩⟩
  rw [filt_true]
  refine wo_ninD (n := 1) (m := 2) hu (okD_pr _) (okD_prs _) ?_
  rw [any_pr]
  refine ⟨_, rfl, iteDn (fun hnin => ?_) fun hin => ?_⟩
  · refine wb_cons (ws_append (by walk_at "pl") (we_wl (wl_cat ?_)) (by rw [List.length_map]; exact sz36 hl36))
    walk_at "X"
    walk_at "lst"
    walk_at "X"
    refine ⟨by walk_at "sz", _, _, rfl, rfl, by walk_at "sz", ?_⟩
    walk_at "nil"
    exact qm_in hls hx1 hy1 hb hnin
  · walk_at "nil"
    exact ⟨ls, ⟨by have := hls.1; omega, hls.2⟩, rfl⟩

theorem atI_add {xs : List Nat} (j c : Nat) (h : j + c < xs.length) : atI (xs.map encN) ((j : Int) + (c : Int)) = some (encN (xs.getD (j + c) 0)) := by
  rw [← Int.natCast_add]
  exact atI_enc (d := 0) h
def QjT (m : Nat) (ns : List Int) (at_ n plan extra turn tr kk : Nat) (pt : List Nat) (s3 s5 : SD) (env1 : Env') : Prop := ∃ (ls : List Les) (s4 s6 : SD), LP n m ls ∧ env1 = ([("_law_script", .dat (.scr ns)), ("_law_at", .dat (.int (at_ : Int))), ("_law_many", .dat (.int (n : Int))), ("_law_plan", .dat (.int (plan : Int))), ("_law_extra", .dat (.int (extra : Int))), ("_law_turn", .dat (.int (turn : Int))), ("_law_lessons", .own (ls.map lst3)), ("_law_tries", .dat (.int (tr : Int))), ("_law_k", .dat (encN kk)), ("_law_part", .dat (.lst (pt.map encN))), ("_law_pair", s3), ("_law_bound", s4), ("_law_half", s5), ("_law_j", s6), ("_law_start_here", .un), ("_law_lesson", .un)] : Env')
theorem tk_j (T : Tx K mg C Cp) (hu : (bdOf P w K mg base N_law_taught "_law_taught" s_law_taught f cdv A outer s F H E).X.A.units + 65 < cLine) (pl : pt.length = 12) (d4 : pt.getD 4 0 < n) (d5 : pt.getD 5 0 < n) (d6 : pt.getD 6 0 < 12) (d8 : pt.getD 8 0 < n) (d9 : pt.getD 9 0 < n) (d10 : pt.getD 10 0 < 12) {m : Nat} {s3 s4 : SD} (hls : LP n m ls) (hm : m + 2 ≤ 36) : WS (bdOf P w K mg base N_law_taught "_law_taught" s_law_taught f cdv A outer s F H E) (tSt 5) ([("_law_script", .dat (.scr ns)), ("_law_at", .dat (.int (at_ : Int))), ("_law_many", .dat (.int (n : Int))), ("_law_plan", .dat (.int (plan : Int))), ("_law_extra", .dat (.int (extra : Int))), ("_law_turn", .dat (.int (turn : Int))), ("_law_lessons", .own (ls.map lst3)), ("_law_tries", .dat (.int (tr : Int))), ("_law_k", .dat (encN kk)), ("_law_part", .dat (.lst (pt.map encN))), ("_law_pair", s3), ("_law_bound", s4), ("_law_half", s5), ("_law_j", s6), ("_law_start_here", .un), ("_law_lesson", .un)] : Env') ⟨QjT (m + 2) ns at_ n plan extra turn tr kk pt s3 s5, rt, bk, ct⟩ := by
  have nd := sc_law_taught.nd
  show WS _ (.For _ _ _ _ _) _ _
  have hj2 : ∀ pre j post, (if plan = 3 then [4, 8] else [] : List Nat) = pre ++ j :: post → pre.length ≤ 1 ∧ j + 3 < 12 ∧ pt.getD j 0 < n ∧ pt.getD (j + 1) 0 < n ∧ pt.getD (j + 2) 0 < 12 := by
    intro pre j post e
    split at e
    · have h1 : j ∈ [4, 8] := by rw [e]; exact List.mem_append_right _ List.mem_cons_self
      have h2 := congrArg List.length e
      rw [List.length_append, List.length_cons] at h2
      have h2 : 2 = pre.length + (post.length + 1) := h2
      simp only [List.mem_cons, List.not_mem_nil, or_false] at h1
      rcases h1 with rfl | rfl
      · exact ⟨by omega, by omega, d4, d5, d6⟩
      · exact ⟨by omega, by omega, d8, d9, d10⟩
    · exact absurd e.symm (by simp)
  refine ws_for (if plan = 3 then [4, 8] else [] : List Nat) encN (fun pre env1 => QjT (m + pre.length) ns at_ n plan extra turn tr kk pt s3 s5 env1) (wi_l ?_) ⟨ls, s4, s6, hls, rfl⟩ (fun pre j post env1 hx he => ?_) (fun env1 he => ?_) nd
  · walk_at "x"
    walk_at "lst"
    walk_at "x"
    walk_at "lst"
    walk_at "x"
    refine ⟨by walk_at "sz", ?_⟩
    walk_at "x"
    walk_at "lst"
    walk_at "X"
    refine ⟨by walk_at "sz", ?_⟩
    walk_at "X"
    refine ⟨by walk_at "sz", ?_⟩
    refine we_int1 T.int ?_
    walk_at "X"
    refine ⟨_, rfl, ?_⟩
    by_cases h3 : plan = 3
    · rw [if_pos h3, if_pos (decide_eq_true (by omega))]
      exact ixd_l (v := .lst [.int 4, .int 8]) rfl ⟨_, rfl, rfl⟩
    · rw [if_neg h3, if_neg (by simp; omega)]
      exact ixd_l (v := .lst []) rfl ⟨_, rfl, rfl⟩
  · obtain ⟨ls, s4, s6, hls, rfl⟩ := he
    obtain ⟨hpl, hj3, e0, e1, e2⟩ := hj2 _ _ _ hx
    rw [List.length_append, List.length_singleton, ← Nat.add_assoc]
    have hl36 : ls.length ≤ 36 := by have := hls.1; omega
    generalize m + pre.length = m1 at hls
    refine ⟨_, _, by walk_at "tg", ?_⟩
    refine wb_cons (ws_asg (by walk_at "pl") ?_ nd)
    walk_at "x"
    walk_at "lst"
    walk_at "X"
    refine we_minN T.min rfl ?_
    walk_at "X"
    refine ixd_l (atI_add j 3 (by omega)) ⟨99, _, rfl, rfl, ?_⟩
    walk_at "X"
    refine ⟨by walk_at "sz", ?_⟩
    walk_at "X"
    refine ixd_l (atI_add j 2 (by omega)) ?_
    refine menu_ix (L := [0, 1, 1, 2, 0, 3, 1, 5, 2, 0, 1, if pt.getD (j + 3) 0 < 99 then pt.getD (j + 3) 0 else 99]) (show pt.getD (j + 2) 0 < 12 by omega) (menu1 (min99_le _)) fun b hb => ?_
    walk_at "if"
    refine wt_frz (x := "_law_lessons") (by walk_at "pl") ?_
    walk_at "t"
    refine we_wl (wl_sl ?_)
    walk_at "X"
    refine ⟨_, rfl, ?_⟩
    walk_at "X"
    refine ⟨_, rfl, _, rfl, ?_⟩
    rw [cutD_mid (by omega)]
    refine we_wl (wl_lc1 15 ls lst3 (fun _ => true) (fun l => prD (l.1, l.2.1)) (by walk_at "pl") (wi_l ?_) (fun l hl s Hh C cl fp => wts_nil rfl) (fun l hl _ s Hh C' cl fp => ?_) (by omega) ?_ nd (blkOk_by (N := N_law_taught) (sc := defScope s_law_taught) (by decide +kernel)))
    · walk_at "X"
      exact ⟨_, rfl, rfl⟩
    · refine we_wl (wl_sl ?_)
      walk_at "X"
      exact ⟨_, rfl, ⟨_, rfl, rfl⟩⟩
    rw [filt_true]
    show WO _ _ (prD (pt.getD j 0, pt.getD (j + 1) 0)) _ _
    refine wo_ninD (n := 1) (m := 2) hu (okD_pr _) (okD_prs _) ?_
    rw [any_pr]
    refine ⟨_, rfl, iteDn (fun hnin => ?_) fun hin => ?_⟩
    · refine wb_cons (ws_append (by walk_at "pl") (we_wl (wl_cat ?_)) (by rw [List.length_map]; exact sz36 hl36))
      refine we_wl (wl_sl ?_)
      walk_at "X"
      refine ⟨_, rfl, ?_⟩
      walk_at "X"
      refine ⟨_, rfl, _, rfl, ?_⟩
      rw [cutD_mid (by omega)]
      walk_at "lst"
      walk_at "X"
      refine ⟨by walk_at "sz", _, _, rfl, rfl, by walk_at "sz", ?_⟩
      walk_at "nil"
      obtain ⟨ls2, h1, h2⟩ := qm_in (ns := ns) (at_ := at_) (plan := plan) (extra := extra) (turn := turn) (tr := tr) (kk := kk) (pt := pt) (s5 := s5) (s6 := .dat (encN j)) (s3 := s3) (s4 := .dat (.int (b : Int))) hls e0 e1 hb hnin
      exact ⟨ls2, _, _, h1, h2⟩
    · walk_at "nil"
      exact ⟨ls, _, _, ⟨by have := hls.1; omega, hls.2⟩, rfl⟩
  · obtain ⟨ls, s4, s6, hls, rfl⟩ := he
    have h2 : (if plan = 3 then [4, 8] else [] : List Nat).length ≤ 2 := by split <;> simp
    exact ⟨ls, s4, s6, ⟨by have := hls.1; omega, hls.2⟩, rfl⟩
end
end
end Cr
namespace Cr
open PySem PySem.Spec L2 Fw
section
variable {P : Program} {w : World} {K : PySem.W.Frag} {mg : Str → Option Value} {base : Heap} {C Cp : Addr} {k : Nat}
theorem ok_taught {f : Addr} {fd : FuncData} (D : Df K mg "_law_taught" s_law_taught f fd) (T : Tx K mg C Cp) (G1 : Ok P w K mg base k "_law_cell" ["_law_script", "_law_k"] tCell) (G2 : Ok P w K mg base k "_law_digits" ["_law_cell_here", "_law_sizes"] tDigits) : Ok P w K mg base (k + 1) "_law_taught" ["_law_script", "_law_at", "_law_many", "_law_plan", "_law_extra", "_law_turn"] tTaught := by
  refine ok_def D sc_law_taught (fun ds Φ h => ?_) (fun _ _ _ _ _ _ us hl => match us, hl with | [_, _, _, _, _, _], _ => rfl) fun cdv A outer s F H E hr ds Φ h => ?_
  · obtain ⟨_, _, _, _, _, _, rfl, _⟩ := h
    rfl
  · obtain ⟨ns, at_, n, plan, extra, turn, rfl, hn1, hn6, _, q⟩ := h
    have nd := sc_law_taught.nd
    dsimp only [mkE]
    refine wb_cons (ws_asgL (by walk_at "pl") (wl_lst (wa_nil ⟨Nat.zero_le _, ?_⟩)) nd)
    refine wb_cons (ws_asg (by walk_at "pl") ?_ nd)
    walk_at "X"
    refine we_int1 T.int ?_
    walk_at "X"
    refine ⟨_, rfl, ?_⟩
    walk_at "X"
    refine wo_mod (by omega) ?_
    walk_at "X"
    obtain ⟨e0, he0, _⟩ := mod_nat (extra : Int) (show 0 < n + 2 by omega)
    have he0 : (extra : Int) % ((n : Int) + 2) = (e0 : Int) := he0
    rw [he0]
    let Sg : Env' → Prop := fun env1 => ∃ tr : Nat, env1 = ([("_law_script", .dat (.scr ns)), ("_law_at", .dat (.int (at_ : Int))), ("_law_many", .dat (.int (n : Int))), ("_law_plan", .dat (.int (plan : Int))), ("_law_extra", .dat (.int (extra : Int))), ("_law_turn", .dat (.int (turn : Int))), ("_law_lessons", .own []), ("_law_tries", .dat (.int (tr : Int))), ("_law_k", .un), ("_law_part", .un), ("_law_pair", .un), ("_law_bound", .un), ("_law_half", .un), ("_law_j", .un), ("_law_start_here", .un), ("_law_lesson", .un)] : Env')
    refine wb_seq Sg ?_ fun env1 he => ?_
    · refine ws_if ?_
      walk_at "t"
      walk_at "X"
      refine ⟨_, rfl, iteD (fun e => ?_) fun e => ?_⟩
      · refine wb_cons (ws_asg (by walk_at "pl") ?_ nd)
        walk_at "X"
        refine we_int1 T.int ?_
        walk_at "X"
        refine ⟨_, rfl, ?_⟩
        walk_at "X"
        refine wo_mod (by omega) ?_
        walk_at "X"
        obtain ⟨e1, he1, _⟩ := mod_nat (extra : Int) (show 0 < 3 by omega)
        have he1 : (extra : Int) % 3 = (e1 : Int) := he1
        rw [he1]
        walk_at "nil"
        exact ⟨n + e1, rfl⟩
      · walk_at "nil"
        exact ⟨n + e0, rfl⟩
    obtain ⟨tr, rfl⟩ := he
    refine wb_seq Sg ?_ fun env1 he => ?_
    · refine ws_if ?_
      refine wt_ww (ww_and ?_)
      walk_at "t"
      walk_at "X"
      refine ⟨_, rfl, iteD (fun e => ?_) fun e => ?_⟩
      · refine ww_and1 ?_
        walk_at "t"
        walk_at "x"
        refine we_int1 T.int ?_
        walk_at "X"
        refine ⟨_, rfl, ?_⟩
        walk_at "X"
        refine wo_mod (by omega) ?_
        walk_at "X"
        refine ⟨_, rfl, iteD (fun e => ?_) fun e => ?_⟩
        · refine wb_cons (ws_asg (by walk_at "pl") ?_ nd)
          walk_at "X"
          walk_at "nil"
          exact ⟨0, rfl⟩
        · walk_at "nil"
          exact ⟨tr, rfl⟩
      · rw [if_neg Bool.false_ne_true]
        walk_at "nil"
        exact ⟨tr, rfl⟩
    obtain ⟨tr, rfl⟩ := he
    have emin : (if (12 : Int) < (tr : Int) then (12 : Int) else (tr : Int)) = ((if 12 < tr then 12 else tr : Nat) : Int) := by split <;> split <;> omega
    have hm12 : (if 12 < tr then 12 else tr : Nat) ≤ 12 := by split <;> omega
    generalize (if 12 < tr then 12 else tr : Nat) = mn at emin hm12
    refine wb_cons (ws_for (List.range mn) encN (fun pre env1 => ∃ s1 s2 s3 s4 s5 s6 : SD, ∃ ls : List Les, LP n (pre.length * 3) ls ∧ env1 = ([("_law_script", .dat (.scr ns)), ("_law_at", .dat (.int (at_ : Int))), ("_law_many", .dat (.int (n : Int))), ("_law_plan", .dat (.int (plan : Int))), ("_law_extra", .dat (.int (extra : Int))), ("_law_turn", .dat (.int (turn : Int))), ("_law_lessons", .own (ls.map lst3)), ("_law_tries", .dat (.int (tr : Int))), ("_law_k", s1), ("_law_part", s2), ("_law_pair", s3), ("_law_bound", s4), ("_law_half", s5), ("_law_j", s6), ("_law_start_here", .un), ("_law_lesson", .un)] : Env'))
      (wi_r T.rng (we_min2 T.min rfl ?_)) ⟨_, _, _, _, _, _, [], ⟨Nat.zero_le _, (fun _ h => nomatch h), List.nodup_nil⟩, rfl⟩ (fun pre kk post env1 hx he => ?_) (fun env1 he => ?_) nd)
    · walk_at "X"
      refine ⟨_, _, rfl, rfl, ?_⟩
      rw [emin]
      exact ⟨mn, rfl, by omega, rfl⟩
    · obtain ⟨s1, s2, s3, s4, s5, s6, ls, hls, rfl⟩ := he
      obtain ⟨hki, hkn⟩ := range_ix hx
      have el : (pre ++ [kk]).length = pre.length + 1 := by rw [List.length_append, List.length_singleton]
      rw [el]
      refine ⟨_, _, by walk_at "tg", ?_⟩
      refine wb_cons (ws_asg (by walk_at "pl") (we_call G2 hr ?_) nd)
      walk_at "x"
      refine we_call G1 hr ?_
      walk_at "X"
      refine ⟨ns, at_ + kk, rfl, fun i0 => ?_⟩
      walk_at "x"
      refine we_wl (wl_rep (we_wl (wl_lst ?_)))
      walk_at "X"
      refine ⟨by walk_at "sz", ?_⟩
      walk_at "X"
      refine ⟨_, 3, rfl, rfl, by walk_at "sz", by omega, ?_⟩
      walk_at "X"
      refine ⟨i0, [n, n, 12, 110, n, n, 12, 110, n, n, 12, 110], rfl, by walk_at "sz", fun s hs => ?_, fun pt hpt => ?_⟩
      · simp only [List.mem_cons, List.not_mem_nil, or_false] at hs
        omega
      have pl : pt.length = 12 := hpt.1
      have d0 : pt.getD 0 0 < n := hpt.2 0 (by walk_at "sz")
      have d1 : pt.getD 1 0 < n := hpt.2 1 (by walk_at "sz")
      have d2 : pt.getD 2 0 < 12 := hpt.2 2 (by walk_at "sz")
      have d4 : pt.getD 4 0 < n := hpt.2 4 (by walk_at "sz")
      have d5 : pt.getD 5 0 < n := hpt.2 5 (by walk_at "sz")
      have d6 : pt.getD 6 0 < 12 := hpt.2 6 (by walk_at "sz")
      have d8 : pt.getD 8 0 < n := hpt.2 8 (by walk_at "sz")
      have d9 : pt.getD 9 0 < n := hpt.2 9 (by walk_at "sz")
      have d10 : pt.getD 10 0 < 12 := hpt.2 10 (by walk_at "sz")
      refine wb_cons (ws_asg (by walk_at "pl") (we_wl (wl_lst ?_)) nd)
      walk_at "X"
      refine ixd_l (atI_enc (d := 0) (i := 0) (by omega)) ?_
      walk_at "X"
      refine ixd_l (atI_enc (d := 0) (i := 1) (by omega)) ?_
      walk_at "X"
      refine ⟨by walk_at "sz", ?_⟩
      have hm1 : pre.length * 3 + 3 ≤ 36 := by omega
      refine wb_seq (PbT ns at_ n plan extra turn tr kk ls pt s6) (tk_b T pl d2 d0 d1) fun env1 he => ?_
      obtain ⟨x, y, b, s5, hx1, hy1, hb, rfl⟩ := he
      refine wb_seq (PbT ns at_ n plan extra turn tr kk ls pt s6) ?_ fun env1 he => ?_
      · refine ws_if ?_
        refine wt_ww (ww_and ?_)
        walk_at "t"
        walk_at "X"
        refine ⟨_, rfl, iteD (fun e1 => ?_) fun e1 => ?_⟩
        rotate_left
        · rw [if_neg Bool.false_ne_true]
          walk_at "nil"
          exact ⟨_, _, b, _, hx1, hy1, hb, rfl⟩
        have e1 : kk < n := by
          have : (kk : Int) < (n : Int) := e1
          omega
        refine ww_and1 ?_
        walk_at "t"
        walk_at "X"
        refine ⟨_, rfl, iteD (fun e2 => ?_) fun e2 => ?_⟩
        rotate_left
        · walk_at "nil"
          exact ⟨_, _, b, _, hx1, hy1, hb, rfl⟩
        refine wb_cons (ws_asg (by walk_at "pl") (we_wl (wl_lst ?_)) nd)
        walk_at "X"
        refine we_int1 T.int ?_
        walk_at "X"
        refine ⟨_, rfl, ?_⟩
        walk_at "X"
        refine wo_mod (by omega) ?_
        walk_at "X"
        refine ⟨by walk_at "sz", ?_⟩
        obtain ⟨y0, hy0, hyn⟩ := mod_nat ((kk : Int) + 1) (show 0 < n by omega)
        rw [hy0]
        refine wb_seq (PbT ns at_ n plan extra turn tr kk ls pt s6) (tk_6 (x := kk) (y := y0) T hn1 e1 e1 hyn hb) fun env1 he => ?_
        obtain ⟨x, y, b, s5, hx1, hy1, hb, rfl⟩ := he
        refine wb_seq (PbT ns at_ n plan extra turn tr kk ls pt s6) (tk_7 T pl d0 hx1 hy1 hb) fun env1 he => ?_
        obtain ⟨x, y, b, s5, hx1, hy1, hb, rfl⟩ := he
        refine wb_seq (PbT ns at_ n plan extra turn tr kk ls pt s6) (tk_t T hx1 hy1 hb) fun env1 he => ?_
        obtain ⟨x, y, b, s5, hx1, hy1, hb, rfl⟩ := he
        refine wb_seq (PbT ns at_ n plan extra turn tr kk ls pt s6) (tk_s T pl d2 hx1 hy1 hb) fun env1 he => ?_
        obtain ⟨x, y, b, s5, hx1, hy1, hb, rfl⟩ := he
        refine wb_seq (PbT ns at_ n plan extra turn tr kk ls pt s6) (tk_5 T hx1 hy1 hb) fun env1 he => ?_
        exact wb_nil he
      obtain ⟨x, y, b, s5, hx1, hy1, hb, rfl⟩ := he
      refine wb_seq (QmT (pre.length * 3 + 1) ns at_ n plan extra turn tr kk pt (.dat (prD (x, y))) (.dat (.int (b : Int))) s5 s6) (tk_m (u65 hr) hls (by omega) hx1 hy1 hb) fun env1 he => ?_
      obtain ⟨ls, hls, rfl⟩ := he
      refine wb_seq (QjT (pre.length * 3 + 1 + 2) ns at_ n plan extra turn tr kk pt (.dat (prD (x, y))) s5) (tk_j T (u65 hr) pl d4 d5 d6 d8 d9 d10 hls (by omega)) fun env1 he => ?_
      obtain ⟨ls, s4, s6, hls, rfl⟩ := he
      walk_at "nil"
      exact ⟨_, _, _, _, _, _, ls, ⟨by have := hls.1; omega, hls.2⟩, rfl⟩
    · obtain ⟨s1, s2, s3, s4, s5, s6, ls, hls, rfl⟩ := he
      rw [List.length_range] at hls
      have hl36 : ls.length ≤ 36 := by have := hls.1; omega
      have hok : LesOk n ls := ⟨hl36, hls.2⟩
      refine wb_frz (x := "_law_lessons") (by walk_at "pl") ?_
      walk_at "if"
      walk_at "t"
      refine we_len T.len ?_
      walk_at "X"
      refine len_l ?_
      rw [List.length_map]
      walk_at "X"
      refine ⟨_, rfl, iteD (fun e => ?_) fun e => ?_⟩
      · walk_at "ret"
        walk_at "X"
        exact q ls hok
      walk_at "nil"
      have hl0 : 0 < ls.length := by omega
      refine wb_cons (ws_asg (by walk_at "pl") ?_ nd)
      walk_at "x"
      refine we_int1 T.int ?_
      walk_at "X"
      refine wo_fdiv ⟨by omega, by omega⟩ ⟨_, rfl, ?_⟩
      refine we_len T.len ?_
      walk_at "X"
      refine len_l ?_
      rw [List.length_map]
      refine wo_mod (by omega) ?_
      obtain ⟨z, hz, hzn⟩ := mod_nat ((turn : Int) / 2) hl0
      rw [hz]
      refine wb_cons (ws_asgL (by walk_at "pl") (wl_cat ?_) nd)
      refine we_wl (wl_sl ?_)
      walk_at "X"
      refine ⟨_, rfl, ?_⟩
      walk_at "X"
      refine ⟨_, rfl, ?_⟩
      refine we_wl (wl_sl ?_)
      walk_at "X"
      refine ⟨_, rfl, _, rfl, ?_⟩
      have c1 : cutD (ls.map lst3) (some (z : Int)) none = (ls.drop z).map lst3 := by
        rw [cutD_map]
        congr 1
        unfold cutD
        rw [HT.sIx_nat, Nat.min_eq_left (Nat.le_of_lt hzn)]
        exact List.take_of_length_le (by rw [List.length_drop]; exact Nat.le_refl _)
      have c2 : cutD (ls.map lst3) none (some (z : Int)) = (ls.take z).map lst3 := by
        rw [cutD_map]
        congr 1
        unfold cutD
        rw [HT.sIx_nat, Nat.min_eq_left (Nat.le_of_lt hzn)]
        rfl
      rw [c1, c2]
      refine ⟨_, _, rfl, rfl, ?_, ?_⟩
      · rw [List.length_map, List.length_map, List.length_drop, List.length_take]
        exact Nat.le_of_lt (sz36 (by omega))
      rw [← List.map_append]
      have hp : (ls.drop z ++ ls.take z).Perm ls := by
        have := List.perm_append_comm (l₁ := ls.drop z) (l₂ := ls.take z)
        rw [List.take_append_drop] at this
        exact this
      have hok2 := lesOk_perm hok hp
      generalize ls.drop z ++ ls.take z = ls2 at hok2
      walk_at "if"
      walk_at "t"
      walk_at "x"
      refine we_int1 T.int ?_
      walk_at "X"
      refine ⟨_, rfl, ?_⟩
      walk_at "X"
      refine wo_mod (by omega) ?_
      walk_at "X"
      refine ⟨_, rfl, iteD (fun e => ?_) fun e => ?_⟩
      · refine wb_cons (ws_reverse (by walk_at "pl") ?_)
        walk_at "nil"
        refine wb_frz (x := "_law_lessons") (by walk_at "pl") ?_
        walk_at "ret"
        walk_at "X"
        rw [← List.map_reverse]
        exact q _ (lesOk_perm hok2 (List.reverse_perm _))
      · walk_at "nil"
        refine wb_frz (x := "_law_lessons") (by walk_at "pl") ?_
        walk_at "ret"
        walk_at "X"
        exact q _ hok2
end
end Cr
namespace Cr
open PySem PySem.Spec L2 Fw
section
variable {P : Program} {w : World} {K : PySem.W.Frag} {mg : Str → Option Value} {base : Heap} {C Cp : Addr} {k : Nat}
theorem ok_start {f : Addr} {fd : FuncData} (D : Df K mg "_law_start" s_law_start f fd) (T : Tx K mg C Cp) : Ok P w K mg base (k + 1) "_law_start" ["_law_many", "_law_founded_here"] tStart := by
  refine ok_def D sc_law_start (fun ds Φ h => ?_) (fun _ _ _ _ _ _ us hl => match us, hl with | [_, _], _ => rfl) fun cdv A outer s F H E hr ds Φ h => ?_
  · obtain ⟨_, _, rfl, _⟩ := h
    rfl
  · obtain ⟨n, fo, rfl, hn, hfo, q⟩ := h
    have nd := sc_law_start.nd
    dsimp only [mkE]
    refine wb_cons (ws_lc1 2 (List.range n) encN (fun _ => true) (fun _ => encO none) (by walk_at "pl") (by walk_at "pl") (wi_r T.rng ?_) (fun l hl s Hh C cl fp => wts_nil rfl) (fun x hx _ s Hh C' cl fp => ?_) (by rw [List.length_range]; omega) ?_ nd (blkOk_by (N := N_law_start) (sc := defScope s_law_start) (by decide +kernel)))
    · walk_at "X"
      exact ⟨n, rfl, by omega, rfl⟩
    · walk_at "X"
      rfl
    have e0 : ((List.range n).filter fun _ => true).map (fun _ => encO none) = (row0 n []).map encO := by
      rw [filt_true]
      unfold row0
      rw [List.map_map]
      rfl
    rw [e0]
    refine wb_cons (ws_for fo encN (fun pre env1 => ∃ s1 : SD, env1 = ([("_law_many", .dat (.int (n : Int))), ("_law_founded_here", .dat (.lst (fo.map encN))), ("_law_k", s1), ("_law_row", .own ((row0 n pre).map encO))] : Env'))
      (wi_l ?_) ⟨_, rfl⟩ (fun pre x post env1 hx he => ?_) (fun env1 he => ?_) nd)
    · walk_at "X"
      exact ⟨_, rfl, rfl⟩
    · obtain ⟨s1, rfl⟩ := he
      have hxn := hfo x (by rw [hx]; exact List.mem_append_right _ List.mem_cons_self)
      refine ⟨_, _, by walk_at "tg", ?_⟩
      refine wb_cons (ws_setix (by walk_at "pl") ?_)
      walk_at "X"
      refine ⟨x, rfl, by rw [List.length_map, row0_len]; exact hxn, ?_⟩
      walk_at "nil"
      rw [row0_snoc, List.map_set]
      exact ⟨_, rfl⟩
    · obtain ⟨s1, rfl⟩ := he
      refine wb_frz (x := "_law_row") (by walk_at "pl") ?_
      walk_at "ret"
      walk_at "X"
      exact q
theorem lst3_0 (l : Les) (Φ : PD) (q : Φ (.int (l.1 : Int))) : IxD (lst3 l) (.int 0) Φ := ixd_l (v := .int (l.1 : Int)) rfl q
theorem lst3_1 (l : Les) (Φ : PD) (q : Φ (.int (l.2.1 : Int))) : IxD (lst3 l) (.int 1) Φ := ixd_l (v := .int (l.2.1 : Int)) rfl q
theorem lst3_2 (l : Les) (Φ : PD) (q : Φ (.int (l.2.2 : Int))) : IxD (lst3 l) (.int 2) Φ := ixd_l (v := .int (l.2.2 : Int)) rfl q
theorem ok_after {f : Addr} {fd : FuncData} (D : Df K mg "_law_after" s_law_after f fd) (T : Tx K mg C Cp) : Ok P w K mg base (k + 1) "_law_after" ["_law_lessons", "_law_row", "_law_cap"] tAfter := by
  refine ok_def D sc_law_after (fun ds Φ h => ?_) (fun _ _ _ _ _ _ us hl => match us, hl with | [_, _, _], _ => rfl) fun cdv A outer s F H E hr ds Φ h => ?_
  · obtain ⟨_, _, rfl, _⟩ := h
    rfl
  · obtain ⟨ls, row, rfl, hn, hls, q⟩ := h
    have nd := sc_law_after.nd
    dsimp only [mkE]
    refine wb_cons (ws_lc1 3 row encO (fun _ => true) (fun _ => encO none) (by walk_at "pl") (by walk_at "pl") (wi_l ?_) (fun l hl s Hh C cl fp => wts_nil rfl) (fun x hx _ s Hh C' cl fp => ?_) (by omega) ?_ nd (blkOk_by (N := N_law_after) (sc := defScope s_law_after) (by decide +kernel)))
    · walk_at "X"
      exact ⟨_, rfl, rfl⟩
    · walk_at "X"
      rfl
    have e0 : (row.filter fun _ => true).map (fun _ => encO none) = (row.map fun _ => (none : Option Nat)).map encO := by
      rw [filt_true, List.map_map]
      rfl
    rw [e0]
    refine wb_cons (ws_for ls lst3 (fun pre env1 => ∃ s1 s2 : SD, env1 = ([("_law_lessons", .dat (.lst (ls.map lst3))), ("_law_row", .dat (.lst (row.map encO))), ("_law_cap", .dat .non), ("_law_number", s1), ("_law_after_here", .own ((pre.foldl (afterStep row) (row.map fun _ => none)).map encO)), ("_law_lesson", s2)] : Env'))
      (wi_l ?_) ⟨_, _, rfl⟩ (fun pre l post env1 hx he => ?_) (fun env1 he => ?_) nd)
    · walk_at "X"
      exact ⟨_, rfl, rfl⟩
    · obtain ⟨s1, s2, rfl⟩ := he
      have hb := hls l (by rw [hx]; exact List.mem_append_right _ List.mem_cons_self)
      have es : (pre ++ [l]).foldl (afterStep row) (row.map fun _ => none) = afterStep row (pre.foldl (afterStep row) (row.map fun _ => none)) l := by
        rw [List.foldl_append]
        rfl
      rw [es]
      have hal : (pre.foldl (afterStep row) (row.map fun _ => none)).length = row.length := by rw [foldA_len, List.length_map]
      generalize pre.foldl (afterStep row) (row.map fun _ => none) = acc at hal
      refine ⟨_, _, by walk_at "tg", ?_⟩
      walk_at "if"
      walk_at "t"
      walk_at "X"
      refine lst3_0 l _ (ixd_l (atI_enc (d := none) hb.1) ?_)
      walk_at "X"
      rw [isN_encO]
      cases hd : row.getD l.1 none with
      | none =>
        refine ⟨false, rfl, ?_⟩
        rw [if_neg Bool.false_ne_true]
        walk_at "nil"
        have ea : afterStep row acc l = acc := by
          unfold afterStep
          rw [hd]
        rw [ea]
        exact ⟨_, _, rfl⟩
      | some d =>
        refine ⟨true, rfl, ?_⟩
        rw [if_pos rfl]
        refine wb_cons (ws_asg (by walk_at "pl") ?_ nd)
        walk_at "X"
        refine lst3_0 l _ (ixd_l (atI_enc (d := none) hb.1) ?_)
        rw [hd]
        walk_at "X"
        refine lst3_2 l _ ?_
        refine wo_add ?_
        walk_at "if"
        walk_at "t"
        walk_at "X"
        refine ⟨false, rfl, ?_⟩
        rw [if_neg Bool.false_ne_true]
        walk_at "nil"
        walk_at "if"
        refine wt_frz (x := "_law_after_here") (by walk_at "pl") ?_
        refine wt_ww (ww_or ?_)
        walk_at "t"
        walk_at "X"
        refine lst3_1 l _ (ixd_l (atI_enc (d := none) (by rw [hal]; exact hb.2)) ?_)
        walk_at "X"
        rw [isN_encO]
        cases he : acc.getD l.2.1 none with
        | none =>
          refine ⟨true, rfl, ?_⟩
          rw [if_pos rfl, if_pos rfl]
          refine wb_cons (ws_setix (by walk_at "pl") ?_)
          walk_at "X"
          refine lst3_1 l _ ⟨l.2.1, rfl, by rw [List.length_map, hal]; exact hb.2, ?_⟩
          walk_at "nil"
          have ea : afterStep row acc l = acc.set l.2.1 (some (d + l.2.2)) := by
            unfold afterStep
            rw [hd, he]
          rw [ea, List.map_set]
          exact ⟨_, _, rfl⟩
        | some e =>
          refine ⟨false, rfl, ?_⟩
          rw [if_neg Bool.false_ne_true]
          refine ww_or1 ?_
          walk_at "t"
          walk_at "X"
          refine lst3_1 l _ (ixd_l (atI_enc (d := none) (by rw [hal]; exact hb.2)) ?_)
          rw [he]
          refine wo_lt ⟨_, rfl, iteD (fun hlt => ?_) fun hlt => ?_⟩
          · refine wb_cons (ws_setix (by walk_at "pl") ?_)
            walk_at "X"
            refine lst3_1 l _ ⟨l.2.1, rfl, by rw [List.length_map, hal]; exact hb.2, ?_⟩
            walk_at "nil"
            have ea : afterStep row acc l = acc.set l.2.1 (some (d + l.2.2)) := by
              unfold afterStep
              rw [hd, he]
              show (if d + l.2.2 < e then _ else _) = _
              rw [if_pos (by omega)]
            rw [ea, List.map_set]
            exact ⟨_, _, rfl⟩
          · walk_at "nil"
            have ea : afterStep row acc l = acc := by
              unfold afterStep
              rw [hd, he]
              show (if d + l.2.2 < e then _ else _) = _
              rw [if_neg (by omega)]
            rw [ea]
            exact ⟨_, _, rfl⟩
    · obtain ⟨s1, s2, rfl⟩ := he
      refine wb_frz (x := "_law_after_here") (by walk_at "pl") ?_
      walk_at "ret"
      walk_at "X"
      exact q
theorem nm_at {c : Cu} {i : Nat} (h : i < c.n) : atI (c.names.map Dt.str) (i : Int) = some (.str (c.nm i)) := by
  apply atI_nat
  rw [List.getElem?_map, Cu.nm_at h]
  rfl
theorem ok_make {f : Addr} {fd : FuncData} (D : Df K mg "_law_make" s_law_make f fd) (T : Tx K mg C Cp) (G : OkI P w K mg base (k + 1) "Custom" C ["self", "offices", "teachings", "founding"] tCustomI) : Ok P w K mg base (k + 3) "_law_make" ["_law_names", "_law_lessons", "_law_founded_here"] (tMake C) := by
  refine ok_def D sc_law_make (fun ds Φ h => ?_) (fun _ _ _ _ _ _ us hl => match us, hl with | [_, _, _], _ => rfl) fun cdv A outer s F H E hr ds Φ h => ?_
  · obtain ⟨_, rfl, _⟩ := h
    rfl
  · obtain ⟨c, rfl, hg, q⟩ := h
    have nd := sc_law_make.nd
    have h36 := hg.les36
    have hfl := hg.fl
    dsimp only [mkE]
    refine wb_cons (ws_lc1 4 c.les lst3 (fun _ => true) c.tea0 (by walk_at "pl") (by walk_at "pl") (wi_l ?_) (fun l hl s Hh C cl fp => wts_nil rfl) (fun l hl _ s Hh C' cl fp => ?_) (by omega) ?_ nd (blkOk_by (N := N_law_make) (sc := defScope s_law_make) (by decide +kernel)))
    · walk_at "X"
      exact ⟨_, rfl, rfl⟩
    · have hb := hg.lb l hl
      walk_at "X"
      refine lst3_0 l _ (ixd_l (nm_at hb.1) ?_)
      walk_at "X"
      refine lst3_1 l _ (ixd_l (nm_at hb.2.1) ?_)
      walk_at "X"
      refine lst3_2 l _ ?_
      walk_at "X"
      exact ⟨by walk_at "sz", rfl⟩
    rw [filt_true]
    refine wb_frz (x := "_law_taught_here") (by walk_at "pl") ?_
    walk_at "ret"
    refine we_make G hr ?_
    walk_at "X"
    refine we_wl (wl_lc1 5 c.fo encN (fun _ => true) (fun k => .str (c.nm k)) (by walk_at "pl") (wi_l ?_) (fun l hl s Hh C cl fp => wts_nil rfl) (fun x hx _ s Hh C' cl fp => ?_) (by omega) ?_ nd (blkOk_by (N := N_law_make) (sc := defScope s_law_make) (by decide +kernel)))
    · walk_at "X"
      exact ⟨_, rfl, rfl⟩
    · walk_at "X"
      exact ixd_l (nm_at (hg.fb x hx)) rfl
    rw [filt_true]
    walk_at "X"
    exact ⟨c, rfl, hg, q⟩
theorem b2D_eq (b : Bool) : decide (b2i b = 1) = b := by cases b <;> rfl
theorem ok_inner {f : Addr} {fd : FuncData} (D : Df K mg "_law_inner" s_law_inner f fd) (T : Tx K mg C Cp) : Ok P w K mg base (k + 1) "_law_inner" ["_law_lessons", "_law_useful_here"] tInner := by
  refine ok_def D sc_law_inner (fun ds Φ h => ?_) (fun _ _ _ _ _ _ us hl => match us, hl with | [_, _], _ => rfl) fun cdv A outer s F H E hr ds Φ h => ?_
  · obtain ⟨_, _, rfl, _⟩ := h
    rfl
  · obtain ⟨ls, fl, rfl, hl36, hls, q⟩ := h
    have nd := sc_law_inner.nd
    dsimp only [mkE]
    walk_at "ret"
    refine we_wl (wl_lc1 2 ls lst3 (fun l => fl.getD l.1 false && fl.getD l.2.1 false) lst3 (by walk_at "pl") (wi_l ?_) (fun l hl s Hh C cl fp => wts_one ?_) (fun x hx _ s Hh C' cl fp => ?_) (by omega) ?_ nd (blkOk_by (N := N_law_inner) (sc := defScope s_law_inner) (by decide +kernel)))
    · walk_at "X"
      exact ⟨_, rfl, rfl⟩
    · have hb := hls l hl
      refine wt_ww (ww_and ?_)
      walk_at "t"
      walk_at "X"
      refine lst3_0 l _ (ixd_l (atI_enc (d := false) hb.1) ?_)
      walk_at "X"
      refine ⟨_, rfl, ?_⟩
      rw [b2D_eq]
      refine iteB (fun h => ?_) fun h => ?_
      · refine ww_and1 ?_
        walk_at "t"
        walk_at "X"
        refine lst3_1 l _ (ixd_l (atI_enc (d := false) hb.2) ?_)
        walk_at "X"
        refine ⟨_, rfl, ?_⟩
        rw [b2D_eq, h, Bool.true_and]
      · rw [h, Bool.false_and]
    · walk_at "X"
      rfl
    · exact q
theorem ok_leastL {f : Addr} {fd : FuncData} (D : Df K mg "_law_least" s_law_least f fd) (T : Tx K mg C Cp) : Ok P w K mg base (k + 1) "_law_least" ["_law_rings_here"] tLeastL := by
  refine ok_def D sc_law_least (fun ds Φ h => ?_) (fun _ _ _ _ _ _ us hl => match us, hl with | [_], _ => rfl) fun cdv A outer s F H E hr ds Φ h => ?_
  · obtain ⟨_, rfl, _⟩ := h
    rfl
  · obtain ⟨rs, rfl, hrs, q⟩ := h
    have nd := sc_law_least.nd
    dsimp only [mkE]
    refine wb_cons (ws_asg (by walk_at "pl") ?_ nd)
    walk_at "X"
    refine wb_cons (ws_for rs encRgL (fun pre env1 => ∃ s1 : SD, env1 = ([("_law_rings_here", .dat (.lst (rs.map encRgL))), ("_law_best", .dat (encBestL (leastR pre))), ("_law_ring", s1)] : Env'))
      (wi_l ?_) ⟨_, rfl⟩ (fun pre r post env1 hx he => ?_) (fun env1 he => ?_) nd)
    · walk_at "X"
      exact ⟨_, rfl, rfl⟩
    · obtain ⟨s1, rfl⟩ := he
      have hrl := hrs r (by rw [hx]; exact List.mem_append_right _ List.mem_cons_self)
      have hbest : ∀ b, leastR pre = some b → b.1.length ≤ 1000 := fun b hb => hrs b (by rw [hx]; exact List.mem_append_left _ (leastR_mem hb))
      rw [leastR_snoc]
      generalize leastR pre = b at hbest
      refine ⟨_, _, by walk_at "tg", ?_⟩
      walk_at "if"
      refine wt_ww (ww_or ?_)
      walk_at "t"
      walk_at "X"
      cases b with
      | none =>
        refine ⟨true, rfl, ?_⟩
        rw [if_pos rfl, if_pos rfl]
        refine wb_cons (ws_asg (by walk_at "pl") ?_ nd)
        walk_at "X"
        walk_at "nil"
        exact ⟨_, rfl⟩
      | some b =>
        have hb6 := hbest b rfl
        refine ⟨false, rfl, ?_⟩
        rw [if_neg Bool.false_ne_true]
        refine ww_or1 ?_
        walk_at "t"
        walk_at "X"
        refine ixd_l (v := .int (r.2 : Int)) rfl ?_
        refine we_len T.len ?_
        walk_at "X"
        refine ixd_l (v := .lst (b.1.map encN)) rfl (len_l ?_)
        rw [List.length_map]
        refine wo_mul (.inr ⟨by omega, by omega⟩) ?_
        walk_at "X"
        refine ixd_l (v := .int (b.2 : Int)) rfl ?_
        refine we_len T.len ?_
        walk_at "X"
        refine ixd_l (v := .lst (r.1.map encN)) rfl (len_l ?_)
        rw [List.length_map]
        refine wo_mul (.inr ⟨by omega, by omega⟩) ?_
        refine wo_lt ⟨_, rfl, iteD (fun e => ?_) fun e => ?_⟩
        · refine wb_cons (ws_asg (by walk_at "pl") ?_ nd)
          walk_at "X"
          walk_at "nil"
          rw [better_pos e]
          exact ⟨_, rfl⟩
        · walk_at "nil"
          rw [better_neg e]
          exact ⟨_, rfl⟩
    · obtain ⟨s1, rfl⟩ := he
      walk_at "ret"
      walk_at "X"
      exact q
theorem ok_divisor {f : Addr} {fd : FuncData} (D : Df K mg "_law_divisor" s_law_divisor f fd) (T : Tx K mg C Cp) : Ok P w K mg base (k + 1) "_law_divisor" ["_law_one", "_law_two"] tDivisor := by
  refine ok_def D sc_law_divisor (fun ds Φ h => ?_) (fun _ _ _ _ _ _ us hl => match us, hl with | [_, _], _ => rfl) fun cdv A outer s F H E hr ds Φ h => ?_
  · obtain ⟨_, _, rfl, _⟩ := h
    rfl
  · obtain ⟨a, b, rfl, hb, q⟩ := h
    have nd := sc_law_divisor.nd
    dsimp only [mkE]
    refine wb_cons (ws_asg (by walk_at "pl") ?_ nd)
    walk_at "X"
    refine wb_cons (ws_asg (by walk_at "pl") ?_ nd)
    walk_at "X"
    refine wb_cons (ws_for (List.range 4000) encN (fun pre env1 => ∃ (x y : Nat) (s1 s2 : SD), Nat.gcd x y = Nat.gcd a b ∧ y + pre.length ≤ b ∧ env1 = ([("_law_one", .dat (.int (a : Int))), ("_law_two", .dat (.int (b : Int))), ("_law_first", .dat (.int (x : Int))), ("_law_second", .dat (.int (y : Int))), ("_law_turn", s1), ("_law_third", s2)] : Env'))
      (wi_r T.rng ?_) ⟨a, b, _, _, rfl, Nat.le_refl _, rfl⟩ (fun pre i post env1 hx he => ?_) (fun env1 he => ?_) nd)
    · walk_at "X"
      exact ⟨4000, rfl, by omega, rfl⟩
    · obtain ⟨x, y, s1, s2, hgc, hy, rfl⟩ := he
      refine ⟨_, _, by walk_at "tg", ?_⟩
      walk_at "if"
      walk_at "t"
      walk_at "X"
      refine ⟨_, rfl, iteD (fun e => ?_) fun e => ?_⟩
      · have e : y = 0 := by omega
        subst e
        walk_at "ret"
        walk_at "X"
        rw [Nat.gcd_zero_right] at hgc
        rw [hgc]
        exact q
      · have e : 0 < y := by omega
        walk_at "nil"
        refine wb_cons (ws_asg (by walk_at "pl") ?_ nd)
        walk_at "X"
        refine we_int1 T.int ?_
        walk_at "X"
        refine ⟨_, rfl, ?_⟩
        walk_at "X"
        refine wo_mod (by omega) ?_
        rw [← Int.natCast_emod]
        refine wb_cons (ws_asg (by walk_at "pl") ?_ nd)
        walk_at "X"
        refine wb_cons (ws_asg (by walk_at "pl") ?_ nd)
        walk_at "X"
        walk_at "nil"
        have hlt := Nat.mod_lt x e
        refine ⟨y, x % y, _, _, ?_, by rw [List.length_append, List.length_singleton]; omega, rfl⟩
        rw [← hgc, Nat.gcd_comm, ← Nat.gcd_rec, Nat.gcd_comm]
    · obtain ⟨x, y, s1, s2, hgc, hy, rfl⟩ := he
      rw [List.length_range] at hy
      omega
theorem ok_founded {f : Addr} {fd : FuncData} (D : Df K mg "_law_founded" s_law_founded f fd) (T : Tx K mg C Cp) (G1 : Ok P w K mg base k "_law_cell" ["_law_script", "_law_k"] tCell) (G2 : Ok P w K mg base k "_law_digits" ["_law_cell_here", "_law_sizes"] tDigits) : Ok P w K mg base (k + 1) "_law_founded" ["_law_script", "_law_at", "_law_many"] tFounded := by
  refine ok_def D sc_law_founded (fun ds Φ h => ?_) (fun _ _ _ _ _ _ us hl => match us, hl with | [_, _, _], _ => rfl) fun cdv A outer s F H E hr ds Φ h => ?_
  · obtain ⟨_, _, _, rfl, _⟩ := h
    rfl
  · obtain ⟨ns, at_, n, rfl, hn1, hn6, q⟩ := h
    have nd := sc_law_founded.nd
    dsimp only [mkE]
    refine wb_cons (ws_asg (by walk_at "pl") (we_call G2 hr ?_) nd)
    walk_at "x"
    refine we_call G1 hr ?_
    walk_at "X"
    refine ⟨ns, at_, rfl, fun i => ?_⟩
    walk_at "x"
    refine we_wl (wl_lst ?_)
    walk_at "X"
    refine ⟨by walk_at "sz", ?_⟩
    walk_at "X"
    refine ⟨i, [16, n, n, 2, 2, 2, 2, 2, 2], rfl, by walk_at "sz", fun s hs => ?_, fun dig hd => ?_⟩
    · simp only [List.mem_cons, List.not_mem_nil, or_false] at hs
      omega
    have h0 := hd.2 0 (by walk_at "sz")
    have h1 := hd.2 1 (by walk_at "sz")
    have h2 := hd.2 2 (by walk_at "sz")
    have hl : dig.length = 9 := hd.1
    have e1 : dig.getD 1 0 < n := h1
    have e2 : dig.getD 2 0 < n := h2
    walk_at "if"
    walk_at "t"
    walk_at "X"
    refine ixd_l (atI_enc (d := 0) (i := 0) (by omega)) ?_
    walk_at "X"
    refine ⟨_, rfl, iteD (fun e => ?_) fun e => ?_⟩
    · walk_at "ret"
      refine we_wl (wl_lst (wa_nil ⟨Nat.zero_le _, ?_⟩))
      exact q [] ⟨Nat.zero_le _, fun _ h => nomatch h⟩
    walk_at "nil"
    walk_at "if"
    walk_at "t"
    walk_at "X"
    refine ixd_l (atI_enc (d := 0) (i := 0) (by omega)) ?_
    walk_at "X"
    refine ⟨_, rfl, iteD (fun e => ?_) fun e => ?_⟩
    · walk_at "ret"
      refine we_wl (wl_lst ?_)
      walk_at "X"
      refine ixd_l (atI_enc (d := 0) (i := 1) (by omega)) ?_
      walk_at "X"
      refine ⟨by walk_at "sz", ?_⟩
      exact q [dig.getD 1 0] ⟨by walk_at "sz", fun k h => by rw [List.mem_singleton] at h; omega⟩
    walk_at "nil"
    walk_at "if"
    walk_at "t"
    walk_at "X"
    refine ixd_l (atI_enc (d := 0) (i := 0) (by omega)) ?_
    walk_at "X"
    refine ⟨_, rfl, iteD (fun e => ?_) fun e => ?_⟩
    · walk_at "ret"
      refine we_wl (wl_lst ?_)
      walk_at "X"
      refine ixd_l (atI_enc (d := 0) (i := 1) (by omega)) ?_
      walk_at "X"
      refine ixd_l (atI_enc (d := 0) (i := 2) (by omega)) ?_
      walk_at "X"
      refine ⟨by walk_at "sz", ?_⟩
      exact q [dig.getD 1 0, dig.getD 2 0] ⟨by walk_at "sz", fun k h => by simp only [List.mem_cons, List.not_mem_nil, or_false] at h; omega⟩
    walk_at "nil"
    walk_at "if"
    walk_at "t"
    walk_at "X"
    refine ixd_l (atI_enc (d := 0) (i := 0) (by omega)) ?_
    walk_at "X"
    refine ⟨_, rfl, iteD (fun e => ?_) fun e => ?_⟩
    · walk_at "ret"
      refine we_wl (wl_lst ?_)
      walk_at "X"
      refine ixd_l (atI_enc (d := 0) (i := 1) (by omega)) ?_
      walk_at "X"
      refine ixd_l (atI_enc (d := 0) (i := 2) (by omega)) ?_
      walk_at "X"
      refine ixd_l (atI_enc (d := 0) (i := 1) (by omega)) ?_
      walk_at "X"
      refine ⟨by walk_at "sz", ?_⟩
      exact q [dig.getD 1 0, dig.getD 2 0, dig.getD 1 0] ⟨by walk_at "sz", fun k h => by simp only [List.mem_cons, List.not_mem_nil, or_false] at h; omega⟩
    walk_at "nil"
    walk_at "ret"
    refine we_wl (wl_lc1 4 (List.range n) encN (fun j => decide ((dig.getD (3 + j) 0 : Int) = 1)) (fun j => encN (n - 1 - j)) (by walk_at "pl") (wi_r T.rng ?_) (fun j hj s Hh C cl fp => wts_one ?_) (fun j hj _ s Hh C' cl fp => ?_) (by rw [List.length_range]; omega) ?_ nd (blkOk_by (N := N_law_founded) (sc := defScope s_law_founded) (by decide +kernel)))
    · walk_at "X"
      exact ⟨n, rfl, by omega, rfl⟩
    · have hj := List.mem_range.mp hj
      walk_at "t"
      walk_at "X"
      refine ixd_l (v := encN (dig.getD (3 + j) 0)) ?_ ?_
      · have e3 : (3 : Int) + (j : Int) = ((3 + j : Nat) : Int) := by omega
        rw [e3]
        exact atI_enc (d := 0) (by omega)
      walk_at "X"
      exact ⟨_, rfl, rfl⟩
    · have hj := List.mem_range.mp hj
      walk_at "X"
      show Dt.int _ = Dt.int _
      congr 1
      omega
    · have e3 : ((List.range n).filter fun j => decide ((dig.getD (3 + j) 0 : Int) = 1)).map (fun j => encN (n - 1 - j)) = (((List.range n).filter fun j => decide ((dig.getD (3 + j) 0 : Int) = 1)).map fun j => n - 1 - j).map encN := by
        rw [List.map_map]
        rfl
      rw [e3]
      refine q _ ⟨?_, fun k hk => ?_⟩
      · rw [List.length_map]
        refine Nat.le_trans (List.length_filter_le _ _) ?_
        rw [List.length_range]
        omega
      · obtain ⟨j, hj, rfl⟩ := List.mem_map.mp hk
        have := List.mem_range.mp (List.mem_filter.mp hj).1
        omega
end
end Cr
namespace Cr
open PySem PySem.Spec L2 Fw
section
variable {P : Program} {w : World} {K : PySem.W.Frag} {mg : Str → Option Value} {base : Heap} {C Cp : Addr} {k : Nat}
theorem b2i_max (x y : Bool) : (if b2i y > b2i x then b2i y else b2i x) = b2i (x || y) := by cases x <;> cases y <;> rfl
theorem b2i_mul (x y : Bool) : b2i x * b2i y = b2i (x && y) := by cases x <;> cases y <;> rfl
theorem b2D_set {f : List Bool} {a b : Nat} (hb : b < f.length) : (f.map b2D).set b (.int (b2i (f.getD b false || f.getD a false))) = (stepF f (a, b)).map b2D := by
  show (f.map b2D).set b (b2D (f.getD b false || f.getD a false)) = _
  rw [← List.map_set]
  congr 1
  unfold stepF
  show f.set b _ = if f.getD a false = true then f.set b true else f
  split
  · rename_i h
    rw [h, Bool.or_true]
  · rename_i h
    have h : f.getD a false = false := by simpa using h
    rw [h, Bool.or_false, List.getD_eq_getElem?_getD, List.getElem?_eq_getElem hb]
    exact List.set_getElem_self hb
theorem ok_usefulL {f : Addr} {fd : FuncData} (D : Df K mg "_law_useful" s_law_useful f fd) (T : Tx K mg C Cp) : Ok P w K mg base (k + 1) "_law_useful" ["_law_many", "_law_lessons", "_law_founded_here", "_law_place"] tUsefulL := by
  refine ok_def D sc_law_useful (fun ds Φ h => ?_) (fun _ _ _ _ _ _ us hl => match us, hl with | [_, _, _, _], _ => rfl) fun cdv A outer s F H E hr ds Φ h => ?_
  · obtain ⟨_, _, _, _, rfl, _⟩ := h
    rfl
  · obtain ⟨n, ls, fo, i, rfl, hn, hls, q⟩ := h
    have nd := sc_law_useful.nd
    dsimp only [mkE]
    refine wb_cons (ws_asgL (by walk_at "pl") (wl_lc1 8 (List.range n) encN (fun _ => true) (fun j => b2D (decide (j ∈ fo))) (by walk_at "pl") (wi_r T.rng ?_) (fun l hl s Hh C cl fp => wts_nil rfl) (fun x hx _ s Hh C' cl fp => ?_) (by rw [List.length_range]; omega) ?_ nd (blkOk_by (N := N_law_useful) (sc := defScope s_law_useful) (by decide +kernel))) nd)
    · walk_at "X"
      exact ⟨n, rfl, by omega, rfl⟩
    · refine we_int1 T.int ?_
      walk_at "X"
      refine wo_in .l rfl (flats_nat _) ?_
      rw [show inF (encN x) (fo.map encN) = _ from inF_nat]
      exact ⟨_, rfl, rfl⟩
    have e0 : ((List.range n).filter fun _ => true).map (fun j => b2D (decide (j ∈ fo))) = (filled0 n fo).map b2D := by
      rw [filt_true]
      unfold filled0
      rw [List.map_map]
      rfl
    rw [e0]
    refine wb_cons (ws_asgL (by walk_at "pl") (wl_lc1 8 (List.range n) encN (fun _ => true) (fun j => b2D (decide (j = i))) (by walk_at "pl") (wi_r T.rng ?_) (fun l hl s Hh C cl fp => wts_nil rfl) (fun x hx _ s Hh C' cl fp => ?_) (by rw [List.length_range]; omega) ?_ nd (blkOk_by (N := N_law_useful) (sc := defScope s_law_useful) (by decide +kernel))) nd)
    · walk_at "X"
      exact ⟨n, rfl, by omega, rfl⟩
    · refine we_int1 T.int ?_
      walk_at "X"
      refine ⟨_, rfl, ?_⟩
      show Dt.int _ = Dt.int (b2i _)
      rw [decide_eq_decide.mpr (Int.ofNat_inj (m := x) (n := i))]
      rfl
    have e1 : ((List.range n).filter fun _ => true).map (fun j => b2D (decide (j = i))) = (lead0 n i).map b2D := by
      rw [filt_true]
      unfold lead0
      rw [List.map_map]
      rfl
    rw [e1]
    have lf0 : (filled0 n fo).length = n := by unfold filled0; rw [List.length_map, List.length_range]
    have ll0 : (lead0 n i).length = n := by unfold lead0; rw [List.length_map, List.length_range]
    refine wb_cons (ws_for (List.range n) encN (fun pre env1 => ∃ s1 s2 : SD, env1 = ([("_law_many", .dat (.int (n : Int))), ("_law_lessons", .dat (.lst (ls.map lst3))), ("_law_founded_here", .dat (.lst (fo.map encN))), ("_law_place", .dat (.int (i : Int))), ("_law_filled", .own ((roundsF (fwd ls) (filled0 n fo) pre.length).map b2D)), ("_law_leading", .own ((roundsF (bwd ls) (lead0 n i) pre.length).map b2D)), ("_law_turn", s1), ("_law_lesson", s2), ("_law_k", .un)] : Env'))
      (wi_r T.rng ?_) ⟨_, _, rfl⟩ (fun pre x post env1 hx he => ?_) (fun env1 he => ?_) nd)
    · walk_at "X"
      exact ⟨n, rfl, by omega, rfl⟩
    · obtain ⟨s1, s2, rfl⟩ := he
      refine ⟨_, _, by walk_at "tg", ?_⟩
      refine wb_cons (ws_for ls lst3 (fun pre2 env1 => ∃ s1 s2 : SD, env1 = ([("_law_many", .dat (.int (n : Int))), ("_law_lessons", .dat (.lst (ls.map lst3))), ("_law_founded_here", .dat (.lst (fo.map encN))), ("_law_place", .dat (.int (i : Int))), ("_law_filled", .own (((fwd pre2).foldl stepF (roundsF (fwd ls) (filled0 n fo) pre.length)).map b2D)), ("_law_leading", .own (((bwd pre2).foldl stepF (roundsF (bwd ls) (lead0 n i) pre.length)).map b2D)), ("_law_turn", s1), ("_law_lesson", s2), ("_law_k", .un)] : Env'))
        (wi_l ?_) ⟨_, _, rfl⟩ (fun pre2 l post2 env1 hx2 he => ?_) (fun env1 he => ?_) nd)
      · walk_at "X"
        exact ⟨_, rfl, rfl⟩
      · obtain ⟨s1, s2, rfl⟩ := he
        have hb := hls l (by rw [hx2]; exact List.mem_append_right _ List.mem_cons_self)
        have ef : (fwd (pre2 ++ [l])).foldl stepF (roundsF (fwd ls) (filled0 n fo) pre.length) = stepF ((fwd pre2).foldl stepF (roundsF (fwd ls) (filled0 n fo) pre.length)) (l.1, l.2.1) := by
          unfold fwd
          rw [List.map_append, List.foldl_append]
          rfl
        have eb : (bwd (pre2 ++ [l])).foldl stepF (roundsF (bwd ls) (lead0 n i) pre.length) = stepF ((bwd pre2).foldl stepF (roundsF (bwd ls) (lead0 n i) pre.length)) (l.2.1, l.1) := by
          unfold bwd
          rw [List.map_append, List.foldl_append]
          rfl
        rw [ef, eb]
        have lf : ((fwd pre2).foldl stepF (roundsF (fwd ls) (filled0 n fo) pre.length)).length = n := by rw [foldF_len, roundsF_len, lf0]
        have ll : ((bwd pre2).foldl stepF (roundsF (bwd ls) (lead0 n i) pre.length)).length = n := by rw [foldF_len, roundsF_len, ll0]
        generalize (fwd pre2).foldl stepF (roundsF (fwd ls) (filled0 n fo) pre.length) = ff at lf
        generalize (bwd pre2).foldl stepF (roundsF (bwd ls) (lead0 n i) pre.length) = fb at ll
        refine ⟨_, _, by walk_at "tg", ?_⟩
        refine wb_cons (ws_setix (by walk_at "pl") (we_frz (x := "_law_filled") (by walk_at "pl") (we_max2 T.max rfl ?_)))
        walk_at "X"
        refine lst3_1 l _ (ixd_l (atI_enc (d := false) (by rw [lf]; exact hb.2)) ?_)
        walk_at "X"
        refine lst3_0 l _ (ixd_l (atI_enc (d := false) (by rw [lf]; exact hb.1)) ⟨_, _, rfl, rfl, trivial, ?_⟩)
        walk_at "X"
        refine lst3_1 l _ ⟨l.2.1, rfl, by rw [List.length_map, lf]; exact hb.2, ?_⟩
        rw [b2i_max, b2D_set (by rw [lf]; exact hb.2)]
        refine wb_cons (ws_setix (by walk_at "pl") (we_frz (x := "_law_leading") (by walk_at "pl") (we_max2 T.max rfl ?_)))
        walk_at "X"
        refine lst3_0 l _ (ixd_l (atI_enc (d := false) (by rw [ll]; exact hb.1)) ?_)
        walk_at "X"
        refine lst3_1 l _ (ixd_l (atI_enc (d := false) (by rw [ll]; exact hb.2)) ⟨_, _, rfl, rfl, trivial, ?_⟩)
        walk_at "X"
        refine lst3_0 l _ ⟨l.1, rfl, by rw [List.length_map, ll]; exact hb.1, ?_⟩
        rw [b2i_max, b2D_set (by rw [ll]; exact hb.1)]
        walk_at "nil"
        exact ⟨_, _, rfl⟩
      · obtain ⟨s1, s2, rfl⟩ := he
        walk_at "nil"
        rw [List.length_append]
        exact ⟨_, _, rfl⟩
    · obtain ⟨s1, s2, rfl⟩ := he
      rw [List.length_range]
      refine wb_frz (x := "_law_filled") (by walk_at "pl") ?_
      refine wb_frz (x := "_law_leading") (by walk_at "pl") ?_
      have rf : roundsF (fwd ls) (filled0 n fo) n = reached (fwd ls) (filled0 n fo) := by unfold reached; rw [lf0]
      have rb : roundsF (bwd ls) (lead0 n i) n = reached (bwd ls) (lead0 n i) := by unfold reached; rw [ll0]
      rw [rf, rb]
      have hl1 : (reached (fwd ls) (filled0 n fo)).length = n := by rw [reached_len, lf0]
      have hl2 : (reached (bwd ls) (lead0 n i)).length = n := by rw [reached_len, ll0]
      walk_at "ret"
      refine we_wl (wl_lc1 8 (List.range n) encN (fun _ => true) (fun x => b2D ((reached (fwd ls) (filled0 n fo)).getD x false && (reached (bwd ls) (lead0 n i)).getD x false)) (by walk_at "pl") (wi_r T.rng ?_) (fun l hl s Hh C cl fp => wts_nil rfl) (fun x hx _ s Hh C' cl fp => ?_) (by rw [List.length_range]; omega) ?_ nd (blkOk_by (N := N_law_useful) (sc := defScope s_law_useful) (by decide +kernel)))
      · walk_at "X"
        exact ⟨n, rfl, by omega, rfl⟩
      · have hx := List.mem_range.mp hx
        walk_at "X"
        refine ixd_l (atI_enc (d := false) (by rw [hl1]; exact hx)) ?_
        walk_at "X"
        refine ixd_l (atI_enc (d := false) (by rw [hl2]; exact hx)) ?_
        refine wo_mul (.inl ?_) ?_
        · unfold b2i
          split <;> exact ⟨by omega, by omega⟩
        · rw [b2i_mul]
          rfl
      · rw [filt_true]
        have e : (List.range n).map (fun x => b2D ((reached (fwd ls) (filled0 n fo)).getD x false && (reached (bwd ls) (lead0 n i)).getD x false)) = (useful n ls fo i).map b2D := by
          unfold useful
          rw [List.map_map]
          rfl
        rw [e]
        exact q
theorem ok_ringsL {f : Addr} {fd : FuncData} (D : Df K mg "_law_rings" s_law_rings f fd) (T : Tx K mg C Cp) : Ok P w K mg base (k + 1) "_law_rings" ["_law_many", "_law_lessons"] tRingsL := by
  refine ok_def D sc_law_rings (fun ds Φ h => ?_) (fun _ _ _ _ _ _ us hl => match us, hl with | [_, _], _ => rfl) fun cdv A outer s F H E hr ds Φ h => ?_
  · obtain ⟨_, _, rfl, _⟩ := h
    rfl
  · obtain ⟨n, ls, rfl, hn, hnd, hls, h36, q⟩ := h
    have nd := sc_law_rings.nd
    have hout : ∀ t, (ls.filter fun l => decide (l.1 = t)).length ≤ 6 := fun t => Nat.le_trans (out_len hnd hls t) hn
    dsimp only [mkE]
    refine wb_cons (ws_asgL (by walk_at "pl") (wl_lst (wa_nil ⟨Nat.zero_le _, ?_⟩)) nd)
    refine wb_cons (ws_for (List.range n) encN (fun pre env1 => ∃ s1 s2 s3 s4 s5 s6 : SD, ∃ R : List Ring, R = (pre.flatMap fun f => (List.range n).flatMap fun k => closed ls f (pathsL ls f k)) ∧ R.length ≤ pre.length * 279936 ∧ env1 = ([("_law_many", .dat (.int (n : Int))), ("_law_lessons", .dat (.lst (ls.map lst3))), ("_law_rings_here", .own (R.map encRgL)), ("_law_first", s1), ("_law_paths", s2), ("_law_turn", s3), ("_law_longer", s4), ("_law_path", s5), ("_law_lesson", s6), ("_law_other", .un)] : Env'))
      (wi_r T.rng ?_) ⟨_, _, _, _, _, _, [], rfl, Nat.zero_le _, rfl⟩ (fun pre f post env1 hx he => ?_) (fun env1 he => ?_) nd)
    · walk_at "X"
      exact ⟨n, rfl, by omega, rfl⟩
    · obtain ⟨s1, s2, s3, s4, s5, s6, R, hR, hRl, rfl⟩ := he
      obtain ⟨hfi, hfn⟩ := range_ix hx
      have hpl : pre.length < 6 := by omega
      refine ⟨_, _, by walk_at "tg", ?_⟩
      refine wb_cons (ws_asgL (by walk_at "pl") (wl_lst ?_) nd)
      walk_at "x"
      refine we_wl (wl_lst ?_)
      walk_at "x"
      refine we_wl (wl_lst ?_)
      walk_at "X"
      refine ⟨by walk_at "sz", ?_⟩
      walk_at "X"
      refine ⟨by walk_at "sz", ?_⟩
      walk_at "X"
      refine ⟨by walk_at "sz", ?_⟩
      refine wb_frz (x := "_law_paths") (by walk_at "pl") ?_
      refine wb_cons (ws_for (List.range n) encN (fun pre2 env1 => ∃ s3 s4 s5 s6 : SD, ∃ R2 : List Ring, R2 = R ++ (pre2.flatMap fun k => closed ls f (pathsL ls f k)) ∧ R2.length ≤ pre.length * 279936 + pre2.length * 46656 ∧ env1 = ([("_law_many", .dat (.int (n : Int))), ("_law_lessons", .dat (.lst (ls.map lst3))), ("_law_rings_here", .own (R2.map encRgL)), ("_law_first", .dat (encN f)), ("_law_paths", .dat (.lst ((pathsL ls f pre2.length).map encRgL))), ("_law_turn", s3), ("_law_longer", s4), ("_law_path", s5), ("_law_lesson", s6), ("_law_other", .un)] : Env'))
        (wi_r T.rng ?_) ⟨_, _, _, _, R, by rw [List.flatMap_nil, List.append_nil], by rw [List.length_nil, Nat.zero_mul, Nat.add_zero]; exact hRl, rfl⟩ (fun pre2 t post2 env1 hx2 he => ?_) (fun env1 he => ?_) nd)
      · walk_at "X"
        exact ⟨n, rfl, by omega, rfl⟩
      · obtain ⟨s3, s4, s5, s6, R2, hR2, hR2l, rfl⟩ := he
        obtain ⟨hti, htn⟩ := range_ix hx2
        have hp2 : pre2.length < 6 := by omega
        rw [← hti]
        refine ⟨_, _, by walk_at "tg", ?_⟩
        refine wb_cons (ws_asgL (by walk_at "pl") (wl_lst (wa_nil ⟨Nat.zero_le _, ?_⟩)) nd)
        have hpt := pathsL_len hout f t
        have hp6 : 6 ^ t ≤ 6 ^ 5 := Nat.pow_le_pow_right (by omega) (by omega)
        have hp5 : (6 : Nat) ^ 5 = 7776 := rfl
        refine wb_cons (ws_for (pathsL ls f t) encRgL (fun pre3 env1 => ∃ s5 s6 : SD, ∃ R3 L3 : List Ring, R3 = R2 ++ closed ls f pre3 ∧ L3 = extend ls f pre3 ∧ R3.length ≤ R2.length + pre3.length * 6 ∧ L3.length ≤ pre3.length * 6 ∧ env1 = ([("_law_many", .dat (.int (n : Int))), ("_law_lessons", .dat (.lst (ls.map lst3))), ("_law_rings_here", .own (R3.map encRgL)), ("_law_first", .dat (encN f)), ("_law_paths", .dat (.lst ((pathsL ls f t).map encRgL))), ("_law_turn", .dat (encN t)), ("_law_longer", .own (L3.map encRgL)), ("_law_path", s5), ("_law_lesson", s6), ("_law_other", .un)] : Env'))
          (wi_l ?_) ⟨_, _, R2, [], by rw [closed_eq, List.flatMap_nil, List.append_nil], rfl, by omega, Nat.zero_le _, rfl⟩ (fun pre3 p post3 env1 hx3 he => ?_) (fun env1 he => ?_) nd)
        · walk_at "X"
          exact ⟨_, rfl, rfl⟩
        · obtain ⟨s5, s6, R3, L3, hR3, hL3, hR3l, hL3l, rfl⟩ := he
          have hpm : p ∈ pathsL ls f t := by
            rw [hx3]
            exact List.mem_append_right _ List.mem_cons_self
          have hplen := pathsL_plen t p hpm
          have h3l : pre3.length < 7776 := by
            have := congrArg List.length hx3
            rw [List.length_append, List.length_cons] at this
            omega
          refine ⟨_, _, by walk_at "tg", ?_⟩
          refine wb_cons (ws_for (outL ls p) lst3 (fun pre4 env1 => ∃ s6 : SD, ∃ R4 L4 : List Ring, R4 = R3 ++ pre4.flatMap (clP f p) ∧ L4 = L3 ++ pre4.flatMap (exP f p) ∧ R4.length ≤ R3.length + pre4.length ∧ L4.length ≤ L3.length + pre4.length ∧ env1 = ([("_law_many", .dat (.int (n : Int))), ("_law_lessons", .dat (.lst (ls.map lst3))), ("_law_rings_here", .own (R4.map encRgL)), ("_law_first", .dat (encN f)), ("_law_paths", .dat (.lst ((pathsL ls f t).map encRgL))), ("_law_turn", .dat (encN t)), ("_law_longer", .own (L4.map encRgL)), ("_law_path", .dat (encRgL p)), ("_law_lesson", s6), ("_law_other", .un)] : Env'))
            (wi_l (we_wl (wl_lc1 9 ls lst3 (fun l => decide (l.1 = p.1.getLastD 0)) lst3 (by walk_at "pl") (wi_l ?_) (fun l hl s Hh C cl fp => wts_one ?_) (fun l hl _ s Hh C' cl fp => ?_) (by omega) ⟨_, rfl, rfl⟩ nd (blkOk_by (N := N_law_rings) (sc := defScope s_law_rings) (by decide +kernel))))) ⟨_, R3, L3, by rw [List.flatMap_nil, List.append_nil], by rw [List.flatMap_nil, List.append_nil], Nat.le_refl _, Nat.le_refl _, rfl⟩ (fun pre4 l post4 env1 hx4 he => ?_) (fun env1 he => ?_) nd)
          · walk_at "X"
            exact ⟨_, rfl, rfl⟩
          · walk_at "t"
            walk_at "X"
            refine lst3_0 l _ ?_
            walk_at "X"
            refine ixd_l (v := .lst (p.1.map encN)) rfl ?_
            walk_at "X"
            refine ixd_l (v := encN (p.1.getLastD 0)) (atI_nat ?_) ?_
            · rw [List.getElem?_map, last_at hplen]
              rfl
            · exact wo_eq ⟨_, rfl, decide_eq_decide.mpr Int.ofNat_inj⟩
          · walk_at "X"
            rfl
          · obtain ⟨s6, R4, L4, hR4, hL4, hR4l, hL4l, rfl⟩ := he
            have h4l : pre4.length < 6 := by
              have := congrArg List.length hx4
              rw [List.length_append, List.length_cons] at this
              have h6 := hout (p.1.getLastD 0)
              unfold outL at this
              omega
            have eR : (pre4 ++ [l]).flatMap (clP f p) = pre4.flatMap (clP f p) ++ clP f p l := by rw [List.flatMap_append, List.flatMap_cons, List.flatMap_nil, List.append_nil]
            have eL : (pre4 ++ [l]).flatMap (exP f p) = pre4.flatMap (exP f p) ++ exP f p l := by rw [List.flatMap_append, List.flatMap_cons, List.flatMap_nil, List.append_nil]
            rw [eR, eL, ← List.append_assoc, ← List.append_assoc, ← hR4, ← hL4]
            have el : (pre4 ++ [l]).length = pre4.length + 1 := by rw [List.length_append, List.length_singleton]
            rw [el]
            refine ⟨_, _, by walk_at "tg", ?_⟩
            walk_at "if"
            walk_at "t"
            walk_at "X"
            refine lst3_1 l _ ?_
            walk_at "X"
            refine ⟨_, rfl, iteD (fun e => ?_) fun e => ?_⟩
            · have e := Int.ofNat_inj.mp e
              have ec : clP f p l = [(p.1, p.2 + l.2.2)] := if_pos e
              have ee : exP f p l = [] := if_neg fun z => z.1 e
              rw [ec, ee]
              refine wb_cons (ws_append (by walk_at "pl") (we_wl (wl_lst ?_)) (by rw [List.length_map, PySem.sizeLine]; omega))
              walk_at "X"
              refine ixd_l (v := .lst (p.1.map encN)) rfl ?_
              walk_at "X"
              refine ixd_l (v := .int (p.2 : Int)) rfl ?_
              walk_at "X"
              refine lst3_2 l _ ?_
              walk_at "X"
              refine ⟨by walk_at "sz", ?_⟩
              walk_at "nil"
              have em : R4.map encRgL ++ [Dt.lst [.lst (p.1.map encN), .int ((p.2 : Int) + (l.2.2 : Int))]] = (R4 ++ [(p.1, p.2 + l.2.2)]).map encRgL := by
                rw [List.map_append]
                rfl
              rw [em]
              exact ⟨_, _, _, rfl, by rw [List.append_nil], by rw [List.length_append, List.length_singleton]; omega, by omega, rfl⟩
            · have e : ¬ l.2.1 = f := fun z => e (congrArg Nat.cast z)
              have ec : clP f p l = [] := if_neg e
              rw [ec]
              walk_at "if"
              refine wt_ww (ww_and ?_)
              walk_at "t"
              walk_at "X"
              refine lst3_1 l _ ?_
              walk_at "X"
              refine ⟨_, rfl, iteD (fun e3 => ?_) fun e3 => ?_⟩
              · have e3 : f < l.2.1 := by
                  have : (f : Int) < (l.2.1 : Int) := e3
                  omega
                refine ww_and1 ?_
                walk_at "t"
                walk_at "X"
                refine lst3_1 l _ ?_
                walk_at "X"
                refine ixd_l (v := .lst (p.1.map encN)) rfl ?_
                refine wo_nin .l rfl (flats_nat _) ⟨_, rfl, ?_⟩
                rw [inF_nat]
                refine iteDn (fun e4 => ?_) fun e4 => ?_
                · have ee : exP f p l = [(p.1 ++ [l.2.1], p.2 + l.2.2)] := if_pos ⟨e, e3, e4⟩
                  rw [ee]
                  refine wb_cons (ws_append (by walk_at "pl") (we_wl (wl_lst ?_)) (by rw [List.length_map, PySem.sizeLine]; omega))
                  walk_at "x"
                  refine we_wl (wl_cat ?_)
                  walk_at "X"
                  refine ixd_l (v := .lst (p.1.map encN)) rfl ?_
                  refine we_wl (wl_lst ?_)
                  walk_at "X"
                  refine lst3_1 l _ ?_
                  walk_at "X"
                  refine ⟨by walk_at "sz", _, _, rfl, rfl, by rw [List.length_map, hplen, List.length_singleton, PySem.sizeLine]; omega, ?_⟩
                  walk_at "X"
                  refine ixd_l (v := .int (p.2 : Int)) rfl ?_
                  walk_at "X"
                  refine lst3_2 l _ ?_
                  walk_at "X"
                  refine ⟨by walk_at "sz", ?_⟩
                  walk_at "nil"
                  have em : L4.map encRgL ++ [Dt.lst [.lst (p.1.map encN ++ [Dt.int (l.2.1 : Int)]), .int ((p.2 : Int) + (l.2.2 : Int))]] = (L4 ++ [(p.1 ++ [l.2.1], p.2 + l.2.2)]).map encRgL := by
                    rw [List.map_append]
                    show _ = L4.map encRgL ++ [Dt.lst [.lst ((p.1 ++ [l.2.1]).map encN), .int _]]
                    rw [List.map_append]
                    rfl
                  rw [em]
                  exact ⟨_, _, _, by rw [List.append_nil], rfl, by omega, by rw [List.length_append, List.length_singleton]; omega, rfl⟩
                · have ee : exP f p l = [] := if_neg fun z => z.2.2 e4
                  rw [ee]
                  walk_at "nil"
                  exact ⟨_, _, _, by rw [List.append_nil], by rw [List.append_nil], by omega, by omega, rfl⟩
              · have e3 : ¬ f < l.2.1 := fun z => e3 (by
                  show (f : Int) < (l.2.1 : Int)
                  omega)
                have ee : exP f p l = [] := if_neg fun z => e3 z.2.1
                rw [if_neg (by decide), ee]
                walk_at "nil"
                exact ⟨_, _, _, by rw [List.append_nil], by rw [List.append_nil], by omega, by omega, rfl⟩
          · obtain ⟨s6, R4, L4, hR4, hL4, hR4l, hL4l, rfl⟩ := he
            have h6 := hout (p.1.getLastD 0)
            have e1 : (pre3 ++ [p]).length = pre3.length + 1 := by rw [List.length_append, List.length_singleton]
            have ho : (outL ls p).length ≤ 6 := h6
            walk_at "nil"
            refine ⟨_, _, R4, L4, ?_, ?_, by rw [e1]; omega, by rw [e1]; omega, rfl⟩
            · rw [hR4, hR3, closed_eq, closed_eq, List.flatMap_append, List.flatMap_cons, List.flatMap_nil, List.append_nil, List.append_assoc]
            · rw [hL4, hL3, extend_eq, extend_eq, List.flatMap_append, List.flatMap_cons, List.flatMap_nil, List.append_nil]
        · obtain ⟨s5, s6, R3, L3, hR3, hL3, hR3l, hL3l, rfl⟩ := he
          have e1 : (pre2 ++ [t]).length = t + 1 := by rw [List.length_append, List.length_singleton, hti]
          refine wb_frz (x := "_law_longer") (by walk_at "pl") ?_
          refine wb_cons (ws_asgL (by walk_at "pl") (wl_list T.lst ?_) nd)
          walk_at "X"
          refine ⟨_, .l, ?_⟩
          refine wb_frz (x := "_law_paths") (by walk_at "pl") ?_
          walk_at "nil"
          rw [e1]
          have eL : pathsL ls f (t + 1) = L3 := by rw [hL3]; rfl
          rw [eL]
          refine ⟨_, _, _, _, R3, ?_, by omega, rfl⟩
          rw [hR3, hR2, List.flatMap_append, List.flatMap_cons, List.flatMap_nil, List.append_nil, List.append_assoc]
      · obtain ⟨s3, s4, s5, s6, R2, hR2, hR2l, rfl⟩ := he
        rw [List.length_range] at hR2l
        have e1 : (pre ++ [f]).length = pre.length + 1 := by rw [List.length_append, List.length_singleton]
        walk_at "nil"
        refine ⟨_, _, _, _, _, _, R2, ?_, by rw [e1]; omega, rfl⟩
        rw [hR2, hR, List.flatMap_append, List.flatMap_cons, List.flatMap_nil, List.append_nil]
    · obtain ⟨s1, s2, s3, s4, s5, s6, R, hR, hRl, rfl⟩ := he
      have eR : R = ringsL n ls := hR
      refine wb_frz (x := "_law_rings_here") (by walk_at "pl") ?_
      walk_at "ret"
      walk_at "X"
      rw [eR]
      exact q
end
end Cr
namespace Cr
open PySem PySem.Spec L2 Fw
section
variable {P : Program} {w : World} {K : PySem.W.Frag} {mg : Str → Option Value} {base : Heap} {C Cp : Addr} {k : Nat}
theorem atI_neg {α : Type} {xs : List α} {x : α} (h : xs.getLast? = some x) : atI xs (-1) = some x := by
  cases xs with
  | nil => cases h
  | cons y ys =>
    rw [List.getLast?_eq_getElem?] at h
    have e : ixN (y :: ys).length (-1) = some ys.length := by
      unfold ixN
      rw [if_neg (by omega)]
      simp only [List.length_cons]
      rw [if_pos (by omega)]
      congr 1
      omega
    unfold atI
    rw [e]
    simpa using h
theorem take_sum_succ {bs : List Nat} {k : Nat} (h : k < bs.length) : (bs.take (k + 1)).sum = (bs.take k).sum + bs.getD k 0 := by
  rw [List.take_add_one, List.getElem?_eq_getElem h, List.getD_eq_getElem?_getD, List.getElem?_eq_getElem h, List.sum_append]
  simp
theorem ok_ringSum {f : Addr} {fd : FuncData} (D : Df K mg "_law_ring_sum" s_law_ring_sum f fd) (T : Tx K mg C Cp) (G1 : Ok P w K mg base k "_law_inner" ["_law_lessons", "_law_useful_here"] tInner) : Ok P w K mg base (k + 1) "_law_ring_sum" ["_law_names", "_law_lessons", "_law_useful_here", "_law_ring"] tRingSum := by
  refine ok_def D sc_law_ring_sum (fun ds Φ h => ?_) (fun _ _ _ _ _ _ us hl => match us, hl with | [_, _, _, _], _ => rfl) fun cdv A outer s F H E hr ds Φ h => ?_
  · obtain ⟨_, _, _, rfl, _⟩ := h
    rfl
  · obtain ⟨c, i, r, rfl, g, hrg, q⟩ := h
    have nd := sc_law_ring_sum.nd
    obtain ⟨bs, hb1, hb2, hb3⟩ := rg_bounds hrg
    obtain ⟨_, hr6, hr0⟩ := rg_bd g hrg
    have hrn : r.1.Nodup ∧ ∀ x ∈ r.1, x < c.n := by
      obtain ⟨f, m, e1, hf, hl, nd, hm, hp⟩ := hrg
      rw [e1]
      have hz2 : ∀ z ∈ (f :: (m ++ [f])).head?, z < c.n := by
        intro z hz
        have hz : f = z := by simpa using hz
        rw [← hz]
        exact hf
      refine ⟨nd, fun x hx => hp.lt (fun l hl => lb2 g l (inn_mem.mp hl).1) hz2 x ?_⟩
      rcases List.mem_cons.mp hx with rfl | hx
      · exact List.mem_cons_self
      · exact List.mem_cons_of_mem _ (List.mem_append_left _ hx)
    dsimp only [mkE]
    refine wb_cons (ws_asg (by walk_at "pl") (we_call G1 hr ?_) nd)
    walk_at "X"
    refine ⟨c.les, c.flags i, rfl, g.les36, flags_lb g i, ?_⟩
    refine wb_cons (ws_asg (by walk_at "pl") ?_ nd)
    walk_at "X"
    have hR : ((r.1.map c.nm).map Dt.str).length = r.1.length := by rw [List.length_map, List.length_map]
    refine wb_cons (ws_for (List.range r.1.length) encN (fun pre env1 => ∃ s1 s2 : SD, env1 = ([("_law_names", .dat c.dN), ("_law_lessons", .dat c.dL), ("_law_useful_here", .dat (c.dU i)), ("_law_ring", .dat (.tup true ((r.1.map c.nm).map .str))), ("_law_inner_here", .dat (.lst ((c.inn i).map lst3))), ("_law_total", .dat (.int ((bs.take pre.length).sum : Nat))), ("_law_k", s1), ("_law_hits", s2), ("_law_lesson", .un)] : Env'))
      (wi_r T.rng (we_len T.len ?_)) ⟨_, _, rfl⟩ (fun pre x post env1 hx he => ?_) (fun env1 he => ?_) nd)
    · walk_at "X"
      refine len_t ?_
      rw [hR]
      exact ⟨_, rfl, by omega, rfl⟩
    · obtain ⟨s1, s2, rfl⟩ := he
      obtain ⟨hxi, hxn⟩ := range_ix hx
      have el : (pre ++ [x]).length = x + 1 := by rw [List.length_append, List.length_singleton, hxi]
      rw [el, ← hxi]
      have hxR : (r.1.map c.nm)[x]? = some (c.nm (r.1.getD x 0)) := by rw [List.getElem?_map, getD_at (d := 0) hxn]; rfl
      have hat : atI ((r.1.map c.nm).map Dt.str) (x : Int) = some (.str (c.nm (r.1.getD x 0))) := by
        apply atI_nat
        rw [List.getElem?_map, hxR]
        rfl
      have hmem : r.1.getD x 0 ∈ r.1 := List.mem_of_getElem? (getD_at hxn)
      have hle := hb3 x hxn
      have hlb := inn_lb g i _ hle
      have hprev : atI ((r.1.map c.nm).map Dt.str) ((x : Int) - 1) = some (.str (c.nm (prv r.1 x))) := by
        unfold prv
        split
        · rename_i e0
          subst e0
          refine atI_neg ?_
          rw [List.getLast?_map, List.getLast?_map, List.getLastD_eq_getLast?]
          cases e : r.1.getLast? with
          | none =>
            rw [List.getLast?_eq_none_iff] at e
            rw [e] at hr0
            cases hr0
          | some y => rfl
        · rename_i e0
          have e1 : (x : Int) - 1 = ((x - 1 : Nat) : Int) := by omega
          rw [e1]
          apply atI_nat
          rw [List.getElem?_map, List.getElem?_map, getD_at (d := 0) (by omega)]
          rfl
      refine ⟨_, _, by walk_at "tg", ?_⟩
      walk_at "if"
      refine wt_ww (ww_or ?_)
      walk_at "t"
      walk_at "X"
      refine ixd_t hat ?_
      walk_at "X"
      refine wo_nin .l rfl (flats_str _) ?_
      rw [inF_str, decide_eq_true (Cu.nm_mem (hrn.2 _ hmem))]
      refine ⟨_, rfl, ?_⟩
      rw [if_neg (by decide)]
      refine ww_or1 ?_
      walk_at "t"
      walk_at "X"
      refine ixd_t hat ?_
      refine we_slT ?_
      walk_at "X"
      refine ⟨_, rfl, _, _, rfl, ?_, ?_⟩
      · rw [HT.sIx_nat, hR]
        omega
      have hcut : cutD ((r.1.map c.nm).map Dt.str) none (some (x : Int)) = ((r.1.take x).map c.nm).map .str := by
        rw [cutD_map, cutD_map]
        congr 2
        unfold cutD
        rw [HT.sIx_nat, Nat.min_eq_left (Nat.le_of_lt hxn)]
        rfl
      rw [hcut]
      refine wo_in .t rfl (flats_str _) ?_
      have hnin : c.nm (r.1.getD x 0) ∉ (r.1.take x).map c.nm := by
        intro h
        obtain ⟨y, hy, e⟩ := List.mem_map.mp h
        have hy2 := hrn.2 y (List.mem_of_mem_take hy)
        have e := Cu.nm_inj g.nd hy2 (hrn.2 _ hmem) e
        subst e
        obtain ⟨j, hj, e2⟩ := List.mem_take_iff_getElem.mp hy
        have e3 : r.1[j]? = r.1[x]? := by
          rw [getD_at (d := 0) hxn, List.getElem?_eq_some_iff]
          exact ⟨_, e2⟩
        have := (List.getElem?_inj (by omega) hrn.1).mp e3
        omega
      rw [inF_str, decide_eq_false hnin]
      refine ⟨_, rfl, ?_⟩
      rw [if_neg (by decide)]
      walk_at "nil"
      refine wb_cons (ws_lc1 8 (c.inn i) lst3 (fun l => decide (c.nm l.1 = c.nm (prv r.1 x)) && decide (c.nm l.2.1 = c.nm (r.1.getD x 0))) (fun l => encN l.2.2) (by walk_at "pl") (by walk_at "pl") (wi_l ?_) (fun l hl s Hh C cl fp => wts_one ?_) (fun l hl _ s Hh C' cl fp => ?_) (by have := inn_len g i; omega) ?_ nd (blkOk_by (N := N_law_ring_sum) (sc := defScope s_law_ring_sum) (by decide +kernel)))
      · walk_at "X"
        exact ⟨_, rfl, rfl⟩
      · have hlb := inn_lb g i l hl
        refine wt_ww (ww_and ?_)
        walk_at "t"
        walk_at "X"
        refine lst3_0 l _ (ixd_l (nm_at hlb.1) ?_)
        walk_at "X"
        refine ixd_t hprev (wo_eqS ⟨_, rfl, iteB (fun h => ?_) fun h => ?_⟩)
        · refine ww_and1 ?_
          walk_at "t"
          walk_at "X"
          refine lst3_1 l _ (ixd_l (nm_at hlb.2.1) ?_)
          walk_at "X"
          refine ixd_t hat (wo_eqS ⟨_, rfl, ?_⟩)
          rw [h, Bool.true_and]
        · rw [h, Bool.false_and]
      · walk_at "X"
        exact lst3_2 l _ rfl
      have hf : (c.inn i).filter (fun l => decide (c.nm l.1 = c.nm (prv r.1 x)) && decide (c.nm l.2.1 = c.nm (r.1.getD x 0))) = [(prv r.1 x, r.1.getD x 0, bs.getD x 0)] := by
        rw [← filt_one (inn_nd g i) hle]
        refine List.filter_congr fun l hl => ?_
        have h1 := inn_lb g i l hl
        have e1 : (c.nm l.1 = c.nm (prv r.1 x)) ↔ l.1 = prv r.1 x := ⟨fun e => Cu.nm_inj g.nd h1.1 hlb.1 e, fun e => by rw [e]⟩
        have e2 : (c.nm l.2.1 = c.nm (r.1.getD x 0)) ↔ l.2.1 = r.1.getD x 0 := ⟨fun e => Cu.nm_inj g.nd h1.2.1 hlb.2.1 e, fun e => by rw [e]⟩
        rw [decide_eq_decide.mpr e1, decide_eq_decide.mpr e2]
      rw [hf]
      refine wb_frz (x := "_law_hits") (by walk_at "pl") ?_
      walk_at "if"
      walk_at "t"
      refine we_len T.len ?_
      walk_at "X"
      refine len_l ?_
      walk_at "X"
      refine ⟨_, rfl, ?_⟩
      rw [if_neg (by simp)]
      walk_at "nil"
      refine wb_cons (ws_asg (by walk_at "pl") ?_ nd)
      walk_at "X"
      refine ixd_l (v := encN (bs.getD x 0)) rfl ?_
      walk_at "X"
      walk_at "nil"
      rw [← Int.natCast_add, ← take_sum_succ (by omega)]
      exact ⟨_, _, rfl⟩
    · obtain ⟨s1, s2, rfl⟩ := he
      rw [List.length_range, ← hb1, List.take_length, hb2]
      walk_at "if"
      walk_at "t"
      refine we_len T.len ?_
      walk_at "X"
      refine len_t ?_
      rw [hR]
      walk_at "X"
      refine ⟨_, rfl, ?_⟩
      rw [if_neg (by rw [decide_eq_true_eq]; omega)]
      walk_at "nil"
      walk_at "ret"
      walk_at "X"
      exact q
end
end Cr
namespace Cr
open PySem PySem.Spec L2 Fw
section
variable {P : Program} {w : World} {K : PySem.W.Frag} {mg : Str → Option Value} {base : Heap} {C Cp : Addr} {k : Nat}
theorem isN_encI (o : Option Int) : isN (encI o) = !o.isSome := by cases o <;> rfl
theorem b2D_eq0 (b : Bool) : decide (b2i b = 0) = !b := by cases b <;> rfl
section
variable {B : Bd} {o : Expr} {env : Env'} {Φ : PD} {pos : Pos}
theorem we_ttop (T : Tx B.X.K mg C Cp) (c : Cu) (i : Nat) (r : Ring) (h : WE B o env fun d => d = .ins Cp (c.toldF i r) ∧ Φ (.int ((topOf r : Nat) : Int))) (hb : attributeBase o "top" B.X.env (eval o B.X.env) = eval o B.X.env := by rfl) : WE B (.Attribute o "top" pos) env Φ := we_ptop T _ _ _ _ h hb
theorem we_tbottom (T : Tx B.X.K mg C Cp) (c : Cu) (i : Nat) (r : Ring) (h : WE B o env fun d => d = .ins Cp (c.toldF i r) ∧ Φ (.int ((botOf r : Nat) : Int))) (hb : attributeBase o "bottom" B.X.env (eval o B.X.env) = eval o B.X.env := by rfl) : WE B (.Attribute o "bottom" pos) env Φ := we_pbottom T _ _ _ _ h hb
theorem we_tring (T : Tx B.X.K mg C Cp) (c : Cu) (i : Nat) (r : Ring) (h : WE B o env fun d => d = .ins Cp (c.toldF i r) ∧ Φ (.tup true ((r.1.map c.nm).map .str))) (hb : attributeBase o "ring" B.X.env (eval o B.X.env) = eval o B.X.env := by rfl) : WE B (.Attribute o "ring" pos) env Φ := we_pring T _ _ _ _ h hb
theorem we_tpots (T : Tx B.X.K mg C Cp) (c : Cu) (i : Nat) (r : Ring) (h : WE B o env fun d => d = .ins Cp (c.toldF i r) ∧ Φ (.tup true ((c.ps i r).map encI))) (hb : attributeBase o "potentials" B.X.env (eval o B.X.env) = eval o B.X.env := by rfl) : WE B (.Attribute o "potentials" pos) env Φ := we_ppots T _ _ _ _ h hb
end
theorem ok_potsL {f : Addr} {fd : FuncData} (D : Df K mg "_law_potentials" s_law_potentials f fd) (T : Tx K mg C Cp) (G1 : Ok P w K mg base k "_law_inner" ["_law_lessons", "_law_useful_here"] tInner) (G2 : Ok P w K mg base k "_law_whole" ["_law_value"] tWhole) : Ok P w K mg base (k + 1) "_law_potentials" ["_law_lessons", "_law_useful_here", "_law_top", "_law_bottom", "_law_numbers"] tPotsL := by
  refine ok_def D sc_law_potentials (fun ds Φ h => ?_) (fun _ _ _ _ _ _ us hl => match us, hl with | [_, _, _, _, _], _ => rfl) fun cdv A outer s F H E hr ds Φ h => ?_
  · obtain ⟨_, _, _, _, _, _, rfl, _⟩ := h
    rfl
  · obtain ⟨c, i, r, top, bot, ps, rfl, g, tt, q⟩ := h
    have nd := sc_law_potentials.nd
    have hfl := flags_len c i
    have hn6 : c.n ≤ 6 := g.n6
    dsimp only [mkE]
    walk_at "if"
    walk_at "t"
    refine we_len T.len ?_
    walk_at "X"
    refine len_t ?_
    refine we_len T.len ?_
    walk_at "X"
    refine len_l ?_
    rw [List.length_map, List.length_map, tt.len, hfl]
    walk_at "X"
    refine ⟨_, rfl, ?_⟩
    rw [decide_eq_true rfl, if_neg (by decide)]
    walk_at "nil"
    refine wb_cons (ws_for (List.range c.n) encN (fun pre env1 => ∃ s1 : SD, env1 = ([("_law_lessons", .dat c.dL), ("_law_useful_here", .dat (c.dU i)), ("_law_top", .dat (.int (top : Int))), ("_law_bottom", .dat (.int (bot : Int))), ("_law_numbers", .dat (.tup true (ps.map encI))), ("_law_k", s1), ("_law_lesson", .un)] : Env'))
      (wi_r T.rng (we_len T.len ?_)) ⟨_, rfl⟩ (fun pre x post env1 hx he => ?_) (fun env1 he => ?_) nd)
    · walk_at "X"
      refine len_l ?_
      rw [List.length_map, hfl]
      exact ⟨_, rfl, by omega, rfl⟩
    · obtain ⟨s1, rfl⟩ := he
      obtain ⟨hxi, hxn⟩ := range_ix hx
      refine ⟨_, _, by walk_at "tg", ?_⟩
      walk_at "if"
      refine wt_ww (ww_or ?_)
      walk_at "t"
      walk_at "X"
      refine ixd_l (atI_enc (d := false) (by rw [hfl]; exact hxn)) ?_
      walk_at "X"
      rw [b2D_eq]
      refine we_call G2 hr ?_
      walk_at "X"
      refine ixd_t (atI_enc (d := none) (by rw [tt.len]; exact hxn)) ?_
      walk_at "X"
      refine ⟨_, rfl, ?_⟩
      refine wo_neB ?_
      refine ⟨_, rfl, ?_⟩
      rw [tt.fl x hxn, decide_eq_true rfl, if_neg (by decide)]
      refine ww_or1 ?_
      walk_at "t"
      walk_at "X"
      refine ixd_l (atI_enc (d := false) (by rw [hfl]; exact hxn)) ?_
      walk_at "X"
      rw [b2D_eq0]
      refine ixd_t (atI_enc (d := none) (by rw [tt.len]; exact hxn)) ?_
      walk_at "X"
      refine ⟨_, rfl, ?_⟩
      rw [isN_encI, tt.fl x hxn, decide_eq_true rfl, if_neg (by decide)]
      walk_at "nil"
      exact ⟨_, rfl⟩
    · obtain ⟨s1, rfl⟩ := he
      refine wb_cons (ws_for (c.inn i) lst3 (fun pre env1 => ∃ s2 : SD, env1 = ([("_law_lessons", .dat c.dL), ("_law_useful_here", .dat (c.dU i)), ("_law_top", .dat (.int (top : Int))), ("_law_bottom", .dat (.int (bot : Int))), ("_law_numbers", .dat (.tup true (ps.map encI))), ("_law_k", s1), ("_law_lesson", s2)] : Env'))
        (wi_l (we_call G1 hr ?_)) ⟨_, rfl⟩ (fun pre l post env1 hx he => ?_) (fun env1 he => ?_) nd)
      · walk_at "X"
        exact ⟨c.les, c.flags i, rfl, g.les36, flags_lb g i, _, rfl, rfl⟩
      · obtain ⟨s2, rfl⟩ := he
        have hl : l ∈ c.inn i := by rw [hx]; exact List.mem_append_right _ List.mem_cons_self
        have hlb := inn_lb g i l hl
        have hfs := (inn_mem.mp hl).2
        have h1 := tt.fl l.1 hlb.1
        have h2 := tt.fl l.2.1 hlb.2.1
        rw [hfs.1] at h1
        rw [hfs.2] at h2
        obtain ⟨a, ha⟩ := Option.isSome_iff_exists.mp h1
        obtain ⟨b, hb⟩ := Option.isSome_iff_exists.mp h2
        have hle := tt.law l hl a b ha hb
        rw [Int.natCast_mul] at hle
        have hb6 := tt.b6
        refine ⟨_, _, by walk_at "tg", ?_⟩
        walk_at "if"
        walk_at "t"
        walk_at "X"
        refine lst3_1 l _ ?_
        refine ixd_t (atI_enc (d := none) (by rw [tt.len]; exact hlb.2.1)) ?_
        rw [hb]
        walk_at "X"
        refine lst3_0 l _ ?_
        refine ixd_t (atI_enc (d := none) (by rw [tt.len]; exact hlb.1)) ?_
        rw [ha]
        walk_at "X"
        refine lst3_2 l _ ?_
        refine wo_mul (.inl ⟨by omega, by omega⟩) ?_
        refine wo_add ?_
        walk_at "X"
        refine ⟨_, rfl, ?_⟩
        rw [if_neg (by rw [decide_eq_true_eq]; omega)]
        walk_at "nil"
        exact ⟨_, rfl⟩
      · obtain ⟨s2, rfl⟩ := he
        walk_at "ret"
        walk_at "X"
        exact q
theorem ok_right {f : Addr} {fd : FuncData} (D : Df K mg "_law_right" s_law_right f fd) (T : Tx K mg C Cp) (G1 : Ok P w K mg base k "_law_tuples" ["_law_value"] (tTuples 2)) (G2 : Ok P w K mg base k "_law_whole" ["_law_value"] tWhole) (G3 : Ok P w K mg base k "_law_divisor" ["_law_one", "_law_two"] tDivisor) (G4 : Ok P w K mg base k "_law_ring_sum" ["_law_names", "_law_lessons", "_law_useful_here", "_law_ring"] tRingSum) (G5 : Ok P w K mg base k "_law_potentials" ["_law_lessons", "_law_useful_here", "_law_top", "_law_bottom", "_law_numbers"] tPotsL) : Ok P w K mg base (k + 1) "_law_right" ["_law_names", "_law_lessons", "_law_useful_here", "_law_best", "_law_told"] (tRight Cp) := by
  refine ok_def D sc_law_right (fun ds Φ h => ?_) (fun _ _ _ _ _ _ us hl => match us, hl with | [_, _, _, _, _], _ => rfl) fun cdv A outer s F H E hr ds Φ h => ?_
  · obtain ⟨_, _, _, _, rfl, _⟩ := h
    rfl
  · obtain ⟨c, i, r, b, rfl, g, hi, hbest, hbl, q⟩ := h
    have nd := sc_law_right.nd
    have tt : Told c i r (topOf r) (botOf r) (c.ps i r) := told_ok g hi hbest
    obtain ⟨hlow1, hlow2, hq1, hq2, hq3⟩ := best_lowest g hbest hbl
    have hgp : 0 < Nat.gcd b.1.length b.2 := Nat.gcd_pos_of_pos_left _ hq3
    have hg6 : Nat.gcd b.1.length b.2 ≤ 6 := Nat.le_trans (Nat.le_of_dvd hq3 (Nat.gcd_dvd_left ..)) hq2
    have hr6 := rg_bd g tt.rg
    have hb6 := tt.b6
    have ht6 := tt.t6
    have hn6 : c.n ≤ 6 := g.n6
    dsimp only [mkE]
    walk_at "if"
    walk_at "t"
    walk_at "t"
    refine we_isC T.isi T.gP T.iP ?_
    walk_at "X"
    refine ⟨_, rfl, _, rfl, ?_⟩
    rw [if_neg (by decide)]
    walk_at "nil"
    refine wb_cons (ws_asg (by walk_at "pl") ?_ nd)
    walk_at "X"
    refine we_tring T c i r ?_
    walk_at "X"
    refine ⟨rfl, ?_⟩
    walk_at "X"
    refine we_tpots T c i r ?_
    walk_at "X"
    refine ⟨rfl, ?_⟩
    walk_at "X"
    refine ⟨by walk_at "sz", ?_⟩
    walk_at "if"
    refine wt_ww (ww_or ?_)
    walk_at "t"
    walk_at "t"
    refine we_call G1 hr ?_
    walk_at "X"
    refine ⟨_, rfl, ?_, _, rfl, ?_⟩
    · have e1 : tpOk 1 (.tup true ((r.1.map c.nm).map .str)) = true := by
        show (decide (((r.1.map c.nm).map Dt.str).length ≤ 1000) && ((r.1.map c.nm).map Dt.str).all (tpOk 0)) = true
        rw [List.length_map, List.length_map, decide_eq_true (by omega), Bool.true_and, List.all_map]
        exact List.all_eq_true.mpr fun _ _ => rfl
      have e2 : tpOk 1 (.tup true ((c.ps i r).map encI)) = true := by
        show (decide (((c.ps i r).map encI).length ≤ 1000) && ((c.ps i r).map encI).all (tpOk 0)) = true
        rw [List.length_map, tt.len, decide_eq_true (by omega), Bool.true_and, List.all_map]
        refine List.all_eq_true.mpr fun o _ => ?_
        cases o <;> rfl
      show (true && (tpOk 1 (.tup true ((r.1.map c.nm).map .str)) && (tpOk 1 (.tup true ((c.ps i r).map encI)) && true))) = true
      rw [e1, e2]
      rfl
    rw [if_neg (by decide)]
    refine ww_or ?_
    walk_at "t"
    walk_at "t"
    refine we_isi (n := "tuple") T.isi T.tup (by decide +kernel) ?_
    refine we_tring T c i r ?_
    walk_at "X"
    refine ⟨rfl, _, _, rfl, rfl, _, rfl, ?_⟩
    rw [if_neg (by decide)]
    refine ww_or1 ?_
    walk_at "t"
    walk_at "t"
    refine we_isi (n := "tuple") T.isi T.tup (by decide +kernel) ?_
    refine we_tpots T c i r ?_
    walk_at "X"
    refine ⟨rfl, _, _, rfl, rfl, _, rfl, ?_⟩
    rw [if_neg (by decide)]
    walk_at "nil"
    walk_at "if"
    refine wt_ww (ww_or ?_)
    walk_at "t"
    walk_at "t"
    refine we_call G2 hr ?_
    walk_at "X"
    refine we_ttop T c i r ?_
    walk_at "X"
    refine ⟨rfl, ?_⟩
    walk_at "X"
    refine ⟨some _, rfl, _, rfl, ?_⟩
    rw [if_neg (by exact Bool.false_ne_true)]
    refine ww_or1 ?_
    walk_at "t"
    walk_at "t"
    refine we_call G2 hr ?_
    walk_at "X"
    refine we_tbottom T c i r ?_
    walk_at "X"
    refine ⟨rfl, ?_⟩
    walk_at "X"
    refine ⟨some _, rfl, _, rfl, ?_⟩
    rw [if_neg (by exact Bool.false_ne_true)]
    walk_at "nil"
    refine wb_cons (ws_asg (by walk_at "pl") (we_call G3 hr ?_) nd)
    walk_at "X"
    refine we_len T.len ?_
    walk_at "X"
    refine ixd_l (v := .lst (b.1.map encN)) rfl (len_l ?_)
    rw [List.length_map]
    walk_at "X"
    refine ixd_l (v := .int (b.2 : Int)) rfl ?_
    walk_at "X"
    refine ⟨b.1.length, b.2, rfl, by omega, ?_⟩
    walk_at "if"
    refine wt_ww (ww_or ?_)
    walk_at "t"
    refine we_ttop T c i r ?_
    walk_at "X"
    refine ⟨rfl, ?_⟩
    walk_at "X"
    refine ixd_l (v := .int (b.2 : Int)) rfl ?_
    walk_at "X"
    refine wo_fdiv ⟨by omega, by omega⟩ ?_
    rw [← Int.natCast_ediv, hlow1]
    walk_at "X"
    refine ⟨_, rfl, ?_⟩
    rw [decide_eq_true rfl, if_neg (by decide)]
    refine ww_or1 ?_
    walk_at "t"
    refine we_tbottom T c i r ?_
    walk_at "X"
    refine ⟨rfl, ?_⟩
    walk_at "X"
    refine we_len T.len ?_
    walk_at "X"
    refine ixd_l (v := .lst (b.1.map encN)) rfl (len_l ?_)
    rw [List.length_map]
    walk_at "X"
    refine wo_fdiv ⟨by omega, by omega⟩ ?_
    rw [← Int.natCast_ediv, hlow2]
    walk_at "X"
    refine ⟨_, rfl, ?_⟩
    rw [decide_eq_true rfl, if_neg (by decide)]
    walk_at "nil"
    refine wb_cons (ws_asg (by walk_at "pl") (we_call G4 hr ?_) nd)
    walk_at "X"
    refine we_tring T c i r ?_
    walk_at "X"
    refine ⟨rfl, ?_⟩
    walk_at "X"
    refine ⟨c, i, r, rfl, g, tt.rg, ?_⟩
    walk_at "if"
    refine wt_ww (ww_or ?_)
    walk_at "t"
    walk_at "X"
    refine ⟨_, rfl, ?_⟩
    rw [if_neg (by exact Bool.false_ne_true)]
    refine ww_or1 ?_
    walk_at "t"
    walk_at "X"
    refine we_tbottom T c i r ?_
    walk_at "X"
    refine ⟨rfl, ?_⟩
    refine wo_mul (.inr ⟨by omega, by omega⟩) ?_
    walk_at "X"
    refine we_ttop T c i r ?_
    walk_at "X"
    refine ⟨rfl, ?_⟩
    refine we_len T.len ?_
    refine we_tring T c i r ?_
    walk_at "X"
    refine ⟨rfl, len_t ?_⟩
    rw [List.length_map, List.length_map]
    refine wo_mul (.inr ⟨by omega, by omega⟩) ?_
    refine wo_ne ⟨_, rfl, ?_⟩
    rw [← Int.natCast_mul, ← Int.natCast_mul, tt.mean, decide_eq_true rfl, if_neg (by decide)]
    walk_at "nil"
    walk_at "ret"
    refine we_call G5 hr ?_
    walk_at "X"
    refine we_ttop T c i r ?_
    walk_at "X"
    refine ⟨rfl, ?_⟩
    walk_at "X"
    refine we_tbottom T c i r ?_
    walk_at "X"
    refine ⟨rfl, ?_⟩
    walk_at "X"
    refine we_tpots T c i r ?_
    walk_at "X"
    refine ⟨rfl, ?_⟩
    walk_at "X"
    exact ⟨c, i, r, _, _, _, rfl, g, tt, q⟩
end
end Cr
namespace Cr
open PySem PySem.Spec L2 Fw
section
variable {P : Program} {w : World} {K : PySem.W.Frag} {mg : Str → Option Value} {base : Heap} {C Cp : Addr} {k : Nat}
theorem ok_low {f : Addr} {fd : FuncData} (D : Df K mg "_law_low" s_law_low f fd) (T : Tx K mg C Cp) (G1 : Ok P w K mg base k "depth_row" ["custom", "generation"] (tDepth C)) : Ok P w K mg base (k + 1) "_law_low" ["_law_made", "_law_founded_here", "_law_place", "_law_told", "_law_generation"] (tLow C Cp) := by
  refine ok_def D sc_law_low (fun ds Φ h => ?_) (fun _ _ _ _ _ _ us hl => match us, hl with | [_, _, _, _, _], _ => rfl) fun cdv A outer s F H E hr ds Φ h => ?_
  · obtain ⟨_, _, _, _, rfl, _⟩ := h
    rfl
  · obtain ⟨c, i, r, t, rfl, g, hi, hbest, q⟩ := h
    have nd := sc_law_low.nd
    have tt : Told c i r (topOf r) (botOf r) (c.ps i r) := told_ok g hi hbest
    have hdl : (depthRow c.n c.les c.fo t).length = c.n := (depth_is g t).1
    have hn6 : c.n ≤ 6 := g.n6
    dsimp only [mkE]
    refine wb_cons (ws_asg (by walk_at "pl") ?_ nd)
    walk_at "x"
    refine we_call G1 hr ?_
    walk_at "X"
    refine ⟨c, t, rfl, g, ?_⟩
    walk_at "X"
    refine ixd_t (atI_enc (d := none) (by rw [hdl]; exact hi)) ?_
    cases e : (depthRow c.n c.les c.fo t).getD i none with
    | none =>
      walk_at "if"
      walk_at "t"
      walk_at "X"
      refine ⟨_, rfl, ?_⟩
      rw [if_pos (by exact rfl)]
      walk_at "ret"
      walk_at "X"
      exact q
    | some d =>
      obtain ⟨u, a, b, hu, ha, hb, hle⟩ := depth_low g hi tt e
      have hb6 := tt.b6
      have ht6 := tt.t6
      walk_at "if"
      walk_at "t"
      walk_at "X"
      refine ⟨_, rfl, ?_⟩
      rw [if_neg (by exact Bool.false_ne_true)]
      walk_at "nil"
      refine wb_cons (ws_lc1 7 c.fo encN (fun x => ((c.ps i r).getD x none).isSome) (fun x => encI ((c.ps i r).getD x none)) (by walk_at "pl") (by walk_at "pl") (wi_l ?_) (fun x hx s Hh C cl fp => wts_one ?_) (fun x hx _ s Hh C' cl fp => ?_) (by have := g.fl; omega) ?_ nd (blkOk_by (N := N_law_low) (sc := defScope s_law_low) (by decide +kernel)))
      · walk_at "X"
        exact ⟨_, rfl, rfl⟩
      · have hxn := g.fb x hx
        walk_at "t"
        walk_at "X"
        refine we_tpots T c i r ?_
        walk_at "X"
        refine ⟨rfl, ?_⟩
        walk_at "X"
        refine ixd_t (atI_enc (d := none) (by rw [tt.len]; exact hxn)) ?_
        walk_at "X"
        refine ⟨_, rfl, ?_⟩
        rw [isN_encI, Bool.not_not]
      · have hxn := g.fb x hx
        walk_at "X"
        refine we_tpots T c i r ?_
        walk_at "X"
        refine ⟨rfl, ?_⟩
        walk_at "X"
        exact ixd_t (atI_enc (d := none) (by rw [tt.len]; exact hxn)) rfl
      have hvs : (c.fo.filter fun x => ((c.ps i r).getD x none).isSome).map (fun x => encI ((c.ps i r).getD x none)) = ((c.fo.filter fun x => ((c.ps i r).getD x none).isSome).map fun x => ((c.ps i r).getD x none).getD 0).map .int := by
        rw [List.map_map]
        refine List.map_congr_left fun x hx => ?_
        have hx2 := (List.mem_filter.mp hx).2
        show encI _ = Dt.int (((c.ps i r).getD x none).getD 0)
        cases ho : (c.ps i r).getD x none with
        | none =>
          rw [ho] at hx2
          cases hx2
        | some z => rfl
      have ham : a ∈ (c.fo.filter fun x => ((c.ps i r).getD x none).isSome).map fun x => ((c.ps i r).getD x none).getD 0 :=
        List.mem_map.mpr ⟨u, List.mem_filter.mpr ⟨hu, by rw [ha]; rfl⟩, by rw [ha]; rfl⟩
      rw [hvs]
      generalize ((c.fo.filter fun x => ((c.ps i r).getD x none).isSome).map fun x => ((c.ps i r).getD x none).getD 0) = vs at ham
      have hvl : 0 < vs.length := List.length_pos_of_mem ham
      refine wb_frz (x := "_law_high_here") (by walk_at "pl") ?_
      walk_at "if"
      walk_at "t"
      refine we_len T.len ?_
      walk_at "X"
      refine len_l ?_
      rw [List.length_map]
      walk_at "X"
      refine ⟨_, rfl, ?_⟩
      rw [if_neg (by rw [decide_eq_true_eq]; omega)]
      walk_at "nil"
      walk_at "ret"
      walk_at "X"
      refine we_tbottom T c i r ?_
      walk_at "X"
      refine ⟨rfl, ?_⟩
      walk_at "X"
      refine wo_mul (.inl ⟨by omega, by omega⟩) ?_
      walk_at "X"
      refine we_ttop T c i r ?_
      walk_at "X"
      refine ⟨rfl, ?_⟩
      walk_at "X"
      refine wo_mul (.inl ⟨by omega, by omega⟩) ?_
      walk_at "X"
      refine we_tpots T c i r ?_
      walk_at "X"
      refine ⟨rfl, ?_⟩
      walk_at "X"
      refine ixd_t (atI_enc (d := none) (by rw [tt.len]; exact hi)) ?_
      rw [hb]
      refine wo_add ?_
      refine we_maxL T.max rfl ?_
      walk_at "X"
      refine ⟨vs, rfl, hvl, fun m hm hmax => ?_⟩
      walk_at "X"
      have hma := hmax a ham
      rw [Int.natCast_mul, Int.natCast_mul] at hle
      rw [decide_eq_true (by omega)]
      exact q
theorem ok_wayTo {f : Addr} {fd : FuncData} (D : Df K mg "_law_way_to" s_law_way_to f fd) (T : Tx K mg C Cp) (G1 : Ok P w K mg base k "_law_after" ["_law_lessons", "_law_row", "_law_cap"] tAfter) : Ok P w K mg base (k + 1) "_law_way_to" ["_law_lessons", "_law_row", "_law_place"] tWayTo := by
  refine ok_def D sc_law_way_to (fun ds Φ h => ?_) (fun _ _ _ _ _ _ us hl => match us, hl with | [_, _, _], _ => rfl) fun cdv A outer s F H E hr ds Φ h => ?_
  · obtain ⟨_, _, _, rfl, _⟩ := h
    rfl
  · obtain ⟨ls, row, place, rfl, h6, hp, hls, q⟩ := h
    have nd := sc_law_way_to.nd
    dsimp only [mkE]
    refine wb_cons (ws_asgL (by walk_at "pl") (wl_list T.lst ?_) nd)
    walk_at "X"
    refine ⟨_, .l, ?_⟩
    refine wb_frz (x := "_law_reached") (by walk_at "pl") ?_
    have e1 : (row.length : Int) + 1 = ((row.length + 1 : Nat) : Int) := by omega
    refine wb_cons (ws_for (List.range (row.length + 1)) encN (fun pre env1 => ∃ s1 : SD, wayTo ls row place (row.length + 1) 0 = wayTo ls row place (row.length + 1 - pre.length) pre.length ∧ env1 = ([("_law_lessons", .dat (.lst (ls.map lst3))), ("_law_row", .dat (.lst (row.map encO))), ("_law_place", .dat (.int (place : Int))), ("_law_reached", .dat (.lst ((iterRow ls row pre.length).map encO))), ("_law_turn", s1)] : Env'))
      (wi_r T.rng ?_) ⟨_, rfl, rfl⟩ (fun pre x post env1 hx he => ?_) (fun env1 he => ?_) nd)
    · walk_at "x"
      refine we_len T.len ?_
      walk_at "X"
      refine len_l ?_
      rw [List.length_map]
      walk_at "X"
      rw [e1]
      exact ⟨_, rfl, by omega, rfl⟩
    · obtain ⟨s1, hw, rfl⟩ := he
      obtain ⟨hxi, hxn⟩ := range_ix hx
      have el : (pre ++ [x]).length = x + 1 := by rw [List.length_append, List.length_singleton, hxi]
      rw [el]
      rw [← hxi] at hw ⊢
      have hil : (iterRow ls row x).length = row.length := iterRow_len ls row x
      have ef : row.length + 1 - x = (row.length + 1 - (x + 1)) + 1 := by omega
      rw [ef] at hw
      unfold wayTo at hw
      refine ⟨_, _, by walk_at "tg", ?_⟩
      walk_at "if"
      walk_at "t"
      walk_at "X"
      refine ixd_l (atI_enc (d := none) (by rw [hil]; exact hp)) ?_
      walk_at "X"
      rw [isN_encO]
      cases e : (iterRow ls row x).getD place none with
      | some sm =>
        rw [e] at hw
        refine ⟨_, rfl, ?_⟩
        rw [if_pos (by rfl)]
        walk_at "ret"
        walk_at "lst"
        walk_at "X"
        refine ixd_l (atI_enc (d := none) (by rw [hil]; exact hp)) ?_
        rw [e]
        walk_at "X"
        refine ⟨by walk_at "sz", ?_⟩
        have hw2 : wayTo ls row place (row.length + 1) 0 = some (x, sm) := by
          first | exact hw | (unfold wayTo; exact hw)
        rw [hw2] at q
        exact q
      | none =>
        rw [e] at hw
        refine ⟨_, rfl, ?_⟩
        rw [if_neg (by exact Bool.false_ne_true)]
        walk_at "nil"
        refine wb_cons (ws_asg (by walk_at "pl") (we_call G1 hr ?_) nd)
        walk_at "X"
        refine ⟨ls, iterRow ls row x, rfl, by omega, by rw [hil]; exact hls, ?_⟩
        walk_at "nil"
        exact ⟨_, by first | exact hw | (unfold wayTo; exact hw), rfl⟩
    · obtain ⟨s1, hw, rfl⟩ := he
      rw [List.length_range, Nat.sub_self] at hw
      walk_at "ret"
      walk_at "X"
      have hw2 : wayTo ls row place (row.length + 1) 0 = none := hw
      rw [hw2] at q
      exact q
end
end Cr
namespace Cr
open PySem PySem.Spec L2 Fw
section
variable {P : Program} {w : World} {K : PySem.W.Frag} {mg : Str → Option Value} {base : Heap} {C Cp : Addr} {k : Nat}
theorem filt_name {c : Cu} (g : c.Good) {x : Nat} (hx : x < c.n) : (List.range c.n).filter (fun j => decide (c.nm j = c.nm x)) = [x] := by
  have e : (List.range c.n).filter (fun j => decide (c.nm j = c.nm x)) = (List.range c.n).filter (fun j => decide (j = x)) := List.filter_congr fun j hj => by
    have hj := List.mem_range.mp hj
    exact decide_eq_decide.mpr ⟨fun e => Cu.nm_inj g.nd hj hx e, fun e => by rw [e]⟩
  rw [e]
  have : ∀ n, x < n → (List.range n).filter (fun j => decide (j = x)) = [x] := by
    intro n
    induction n with
    | zero => intro h; omega
    | succ n ih =>
      intro h
      rw [List.range_succ, List.filter_append]
      by_cases hn : n = x
      · subst hn
        have h0 : (List.range n).filter (fun j => decide (j = n)) = [] := List.filter_eq_nil_iff.mpr fun j hj => by
          have := List.mem_range.mp hj
          simp
          omega
        rw [h0]
        simp
      · rw [ih (by omega)]
        have h0 : [n].filter (fun j => decide (j = x)) = [] := by simp [hn]
        rw [h0, List.append_nil]
  exact this _ hx
theorem ok_high {f : Addr} {fd : FuncData} (D : Df K mg "_law_high" s_law_high f fd) (T : Tx K mg C Cp) (G1 : Ok P w K mg base k "_law_way_to" ["_law_lessons", "_law_row", "_law_place"] tWayTo) (G2 : Ok P w K mg base k "_law_start" ["_law_many", "_law_founded_here"] tStart) (G3 : Ok P w K mg base k "depth_row" ["custom", "generation"] (tDepth C)) (G4 : Ok P w K mg base k "_law_whole" ["_law_value"] tWhole) (G5 : Ok P w K mg base k "_law_low" ["_law_made", "_law_founded_here", "_law_place", "_law_told", "_law_generation"] (tLow C Cp)) : Ok P w K mg base (k + 1) "_law_high" ["_law_made", "_law_names", "_law_lessons", "_law_founded_here", "_law_place", "_law_told", "_law_rounds"] (tHigh C Cp) := by
  refine ok_def D sc_law_high (fun ds Φ h => ?_) (fun _ _ _ _ _ _ us hl => match us, hl with | [_, _, _, _, _, _, _], _ => rfl) fun cdv A outer s F H E hr ds Φ h => ?_
  · obtain ⟨_, _, _, _, rfl, _⟩ := h
    rfl
  · obtain ⟨c, i, r, rounds, rfl, g, hi, hbest, q⟩ := h
    have nd := sc_law_high.nd
    have tt : Told c i r (topOf r) (botOf r) (c.ps i r) := told_ok g hi hbest
    have hn6 : c.n ≤ 6 := g.n6
    obtain ⟨_, hr6, hr0⟩ := rg_bd g tt.rg
    obtain ⟨_, hf⟩ := rg_wk tt.rg
    have hb6 := tt.b6
    have ht6 := tt.t6
    obtain ⟨w1, w2, e1, e2, l1, l2, hd⟩ := depth_high g hi tt
    have hat0 : atI ((r.1.map c.nm).map Dt.str) 0 = some (.str (c.nm (r.1.headD 0))) := by
      cases e : r.1 with
      | nil =>
        rw [e] at hr0
        cases hr0
      | cons x xs =>
        show atI _ ((0 : Nat) : Int) = _
        apply atI_nat
        rfl
    generalize r.1.headD 0 = r0 at e1 e2 hf hat0
    have hr0l : r.1.length ≠ 0 := by omega
    dsimp only [mkE]
    refine wb_cons (ws_asg (by walk_at "pl") (we_len T.len ?_) nd)
    walk_at "X"
    refine len_l ?_
    rw [List.length_map]
    refine wb_cons (ws_asg (by walk_at "pl") ?_ nd)
    walk_at "x"
    refine we_wl (wl_lc1 15 (List.range c.n) encN (fun j => decide (c.nm j = c.nm r0)) encN (by walk_at "pl") (wi_r T.rng ?_) (fun j hj s Hh C cl fp => wts_one ?_) (fun j hj _ s Hh C' cl fp => ?_) (by rw [List.length_range]; omega) ?_ nd (blkOk_by (N := N_law_high) (sc := defScope s_law_high) (by decide +kernel)))
    · walk_at "X"
      exact ⟨c.n, rfl, by omega, rfl⟩
    · have hj := List.mem_range.mp hj
      walk_at "t"
      walk_at "X"
      refine ixd_l (nm_at hj) ?_
      walk_at "X"
      refine we_tring T c i r ?_
      walk_at "X"
      refine ⟨rfl, ?_⟩
      walk_at "X"
      exact ixd_t hat0 (wo_eqS ⟨_, rfl, rfl⟩)
    · walk_at "X"
      rfl
    rw [filt_name g hf]
    walk_at "X"
    refine ixd_l (v := encN r0) rfl ?_
    refine wb_cons (ws_asg (by walk_at "pl") (we_call G1 hr ?_) nd)
    walk_at "X"
    refine we_call G2 hr ?_
    walk_at "X"
    refine ⟨c.n, c.fo, rfl, hn6, g.fb, ?_⟩
    walk_at "X"
    refine ⟨c.les, row0 c.n c.fo, r0, rfl, by rw [row0_len]; exact hn6, by rw [row0_len]; exact hf, by rw [row0_len]; exact lb2 g, ?_⟩
    rw [row0_len, e1]
    refine wb_cons (ws_asg (by walk_at "pl") (we_call G1 hr ?_) nd)
    walk_at "X"
    refine we_call G2 hr ?_
    walk_at "X"
    walk_at "lst"
    walk_at "X"
    refine ⟨by walk_at "sz", ?_⟩
    walk_at "X"
    refine ⟨c.n, [r0], rfl, hn6, fun u hu => by rw [List.mem_singleton] at hu; rw [hu]; exact hf, ?_⟩
    walk_at "X"
    refine ⟨c.les, row0 c.n [r0], i, rfl, by rw [row0_len]; exact hn6, by rw [row0_len]; exact hi, by rw [row0_len]; exact lb2 g, ?_⟩
    rw [row0_len, e2]
    walk_at "if"
    refine wt_ww (ww_or ?_)
    walk_at "t"
    walk_at "X"
    refine ⟨_, rfl, ?_⟩
    rw [if_neg (by exact Bool.false_ne_true)]
    refine ww_or1 ?_
    walk_at "t"
    walk_at "X"
    refine ⟨_, rfl, ?_⟩
    rw [if_neg (by exact Bool.false_ne_true)]
    walk_at "nil"
    refine wb_cons (ws_asg (by walk_at "pl") (we_len T.len ?_) nd)
    refine we_tring T c i r ?_
    walk_at "X"
    refine ⟨rfl, len_t ?_⟩
    rw [List.length_map, List.length_map]
    refine wb_cons (ws_asg (by walk_at "pl") (we_minN T.min rfl ?_) nd)
    walk_at "X"
    refine ixd_l (v := .int (w1.1 : Int)) rfl ?_
    walk_at "X"
    refine ixd_l (v := .int (w2.1 : Int)) rfl ?_
    walk_at "X"
    refine wo_fdiv ⟨by omega, by omega⟩ ?_
    have eg : (999999999999 : Int) - (w1.1 : Int) - (w2.1 : Int) = ((999999999999 - w1.1 - w2.1 : Nat) : Int) := by omega
    rw [eg, ← Int.natCast_ediv]
    refine ⟨rounds, _, rfl, rfl, ?_⟩
    generalize (if (999999999999 - w1.1 - w2.1) / r.1.length < rounds then (999999999999 - w1.1 - w2.1) / r.1.length else rounds) = turns
    obtain ⟨d, hd1, hd2⟩ := hd turns
    refine wb_cons (ws_asg (by walk_at "pl") ?_ nd)
    walk_at "X"
    refine ixd_l (v := .int (w1.1 : Int)) rfl ?_
    walk_at "X"
    refine ixd_l (v := .int (w2.1 : Int)) rfl ?_
    walk_at "X"
    refine wo_mul (.inr ⟨by omega, by omega⟩) ?_
    walk_at "X"
    have ef : (w1.1 : Int) + (w2.1 : Int) + (turns : Int) * (r.1.length : Int) = ((w1.1 + w2.1 + turns * r.1.length : Nat) : Int) := by
      rw [Int.natCast_add, Int.natCast_add, Int.natCast_mul]
    rw [ef]
    have hdl : (depthRow c.n c.les c.fo (w1.1 + w2.1 + turns * r.1.length)).length = c.n := (depth_is g _).1
    generalize w1.1 + w2.1 + turns * r.1.length = gen at hd1 hdl
    refine wb_cons (ws_asg (by walk_at "pl") ?_ nd)
    walk_at "x"
    refine we_call G3 hr ?_
    walk_at "X"
    refine ⟨c, gen, rfl, g, ?_⟩
    walk_at "X"
    refine ixd_t (atI_enc (d := none) (by rw [hdl]; exact hi)) ?_
    rw [hd1]
    walk_at "if"
    refine wt_ww (ww_or ?_)
    walk_at "t"
    walk_at "t"
    refine we_call G4 hr ?_
    walk_at "X"
    refine ⟨some (d : Int), rfl, _, rfl, ?_⟩
    rw [if_neg (by exact Bool.false_ne_true)]
    refine ww_or1 ?_
    walk_at "t"
    walk_at "X"
    refine we_tbottom T c i r ?_
    walk_at "X"
    refine ⟨rfl, ?_⟩
    walk_at "X"
    refine wo_mul (.inl ⟨by omega, by omega⟩) ?_
    walk_at "X"
    refine we_tbottom T c i r ?_
    walk_at "X"
    refine ⟨rfl, ?_⟩
    walk_at "X"
    refine ixd_l (v := .int (w1.2 : Int)) rfl ?_
    walk_at "X"
    refine ixd_l (v := .int (w2.2 : Int)) rfl ?_
    walk_at "X"
    refine wo_mul (.inl ⟨by omega, by omega⟩) ?_
    walk_at "X"
    refine we_ttop T c i r ?_
    walk_at "X"
    refine ⟨rfl, ?_⟩
    refine wo_mul (.inr ⟨by omega, by omega⟩) ?_
    walk_at "X"
    refine wo_mul (.inr ⟨by omega, by omega⟩) ?_
    refine wo_add ?_
    refine wo_gt ?_
    refine ⟨_, rfl, ?_⟩
    have hle : ((botOf r : Nat) : Int) * (d : Int) ≤ ((botOf r : Nat) : Int) * ((w1.2 : Int) + (w2.2 : Int)) + (turns : Int) * ((topOf r : Nat) : Int) * (r.1.length : Int) := by
      rw [← Int.natCast_add, ← Int.natCast_mul, ← Int.natCast_mul, ← Int.natCast_mul, ← Int.natCast_mul, ← Int.natCast_add]
      exact Int.ofNat_le.mpr hd2
    rw [if_neg (by rw [decide_eq_true_eq]; exact Int.not_lt.mpr hle)]
    walk_at "nil"
    walk_at "ret"
    refine we_call G5 hr ?_
    walk_at "X"
    exact ⟨c, i, r, gen, rfl, g, hi, hbest, q⟩
theorem fnd_eq {c : Cu} (g : c.Good) : c.fnd = ((List.range c.n).filter fun j => decide (j ∈ c.fo)).map c.nm := by
  unfold Cu.fnd
  have e := Cu.names_eq c
  have e2 : c.names.filter (fun x => decide (x ∈ c.fo.map c.nm)) = ((List.range c.n).map c.nm).filter (fun x => decide (x ∈ c.fo.map c.nm)) := congrArg _ e
  rw [e2, List.filter_map]
  congr 1
  refine List.filter_congr fun j hj => ?_
  have hj := List.mem_range.mp hj
  show decide (c.nm j ∈ c.fo.map c.nm) = decide (j ∈ c.fo)
  refine decide_eq_decide.mpr ⟨fun h => ?_, fun h => List.mem_map.mpr ⟨j, h, rfl⟩⟩
  obtain ⟨x, hx, ex⟩ := List.mem_map.mp h
  rw [← Cu.nm_inj g.nd (g.fb x hx) hj ex]
  exact hx
theorem ok_stays {f : Addr} {fd : FuncData} (D : Df K mg "_law_stays" s_law_stays f fd) (T : Tx K mg C Cp) : Ok P w K mg base (k + 1) "_law_stays" ["_law_made", "_law_names", "_law_lessons", "_law_founded_here"] (tStays C) := by
  refine ok_def D sc_law_stays (fun ds Φ h => ?_) (fun _ _ _ _ _ _ us hl => match us, hl with | [_, _, _, _], _ => rfl) fun cdv A outer s F H E hr ds Φ h => ?_
  · obtain ⟨_, rfl, _⟩ := h
    rfl
  · obtain ⟨c, rfl, g, q⟩ := h
    have nd := sc_law_stays.nd
    have hn6 : c.n ≤ 6 := g.n6
    have h36 := g.les36
    have hso : ∀ x ∈ c.names, PyData.strOk x = true := fun x hx => str_ok (g.abc x hx)
    have okN : ∀ xs : List Str, (∀ x ∈ xs, x ∈ c.names) → okD 1 (.tup true (xs.map .str)) = true := fun xs hx => by
      show (xs.map Dt.str).all (okD 0) = true
      rw [List.all_map]
      exact List.all_eq_true.mpr fun x hxs => hso x (hx x hxs)
    have okT : okD 3 (.tup true (c.les.map c.tea)) = true := by
      show (c.les.map c.tea).all (okD 2) = true
      rw [List.all_map]
      exact List.all_eq_true.mpr fun l hl => tea_ok g hl
    have eT : toPy (.tup true (c.les.map c.tea0)) = toPy (.tup true (c.les.map c.tea)) := by
      show PyData.tuple (toPy.go (c.les.map c.tea0)) = PyData.tuple (toPy.go (c.les.map c.tea))
      rw [toPy_go, toPy_go, List.map_map, List.map_map]
      rfl
    have okT0 : okD 3 (.tup true (c.les.map c.tea0)) = true := by
      show (c.les.map c.tea0).all (okD 2) = true
      rw [List.all_map]
      exact List.all_eq_true.mpr fun l hl => tea_ok g hl
    have eqT : eqP (.tup true (c.les.map c.tea)) (.tup true (c.les.map c.tea0)) = true := by
      unfold eqP
      rw [eT]
      exact eqP_refl okT
    have hfm : ∀ x ∈ c.fnd, x ∈ c.names := fun x hx => (List.mem_filter.mp hx).1
    dsimp only [mkE]
    refine wb_cons (ws_asg (by walk_at "pl") (we_tuple T.tup (we_wl (wl_lc1 6 c.les lst3 (fun _ => true) c.tea0 (by walk_at "pl") (wi_l ?_) (fun l hl s Hh C cl fp => wts_nil rfl) (fun l hl _ s Hh C' cl fp => ?_) (by omega) ?_ nd (blkOk_by (N := N_law_stays) (sc := defScope s_law_stays) (by decide +kernel))))) nd)
    · walk_at "X"
      exact ⟨_, rfl, rfl⟩
    · have hb := g.lb l hl
      walk_at "X"
      refine lst3_0 l _ (ixd_l (nm_at hb.1) ?_)
      walk_at "X"
      refine lst3_1 l _ (ixd_l (nm_at hb.2.1) ?_)
      walk_at "X"
      refine lst3_2 l _ ?_
      walk_at "X"
      exact ⟨by walk_at "sz", rfl⟩
    rw [filt_true]
    refine ⟨_, rfl, ?_⟩
    refine wb_cons (ws_asg (by walk_at "pl") (we_tuple T.tup (we_wl (wl_lc1 7 (List.range c.n) encN (fun j => decide (j ∈ c.fo)) (fun j => .str (c.nm j)) (by walk_at "pl") (wi_r T.rng (we_len T.len ?_)) (fun j hj s Hh C cl fp => wts_one ?_) (fun j hj _ s Hh C' cl fp => ?_) (by rw [List.length_range]; omega) ?_ nd (blkOk_by (N := N_law_stays) (sc := defScope s_law_stays) (by decide +kernel))))) nd)
    · walk_at "X"
      refine len_l ?_
      rw [List.length_map]
      exact ⟨_, rfl, by show c.n < _; omega, rfl⟩
    · walk_at "t"
      walk_at "X"
      refine wo_in .l rfl (flats_nat _) ?_
      rw [show inF (encN j) (c.fo.map encN) = _ from inF_nat]
      exact ⟨_, rfl, rfl⟩
    · have hj := List.mem_range.mp hj
      walk_at "X"
      exact ixd_l (nm_at hj) rfl
    have ef : ((List.range c.n).filter fun j => decide (j ∈ c.fo)).map (fun j => Dt.str (c.nm j)) = c.fnd.map .str := by
      rw [fnd_eq g, List.map_map]
      rfl
    rw [ef]
    refine ⟨_, rfl, ?_⟩
    walk_at "ret"
    refine we_and ?_
    walk_at "x"
    refine we_offices T c c.ord ?_
    walk_at "X"
    refine ⟨rfl, ?_⟩
    refine we_tuple T.tup ?_
    walk_at "X"
    refine ⟨_, rfl, ?_⟩
    refine wo_eqD (n := 1) (m := 1) (u65 hr) (okN _ fun _ h => h) (okN _ fun _ h => h) ?_
    rw [eqP_refl (okN _ fun _ h => h)]
    refine ⟨_, rfl, ?_⟩
    rw [if_pos rfl]
    refine we_and ?_
    walk_at "x"
    refine we_teachings T c c.ord ?_
    walk_at "X"
    refine ⟨rfl, ?_⟩
    walk_at "X"
    refine wo_eqD (n := 3) (m := 3) (u65 hr) okT okT0 ?_
    rw [eqT]
    refine ⟨_, rfl, ?_⟩
    rw [if_pos rfl]
    refine we_one ?_
    walk_at "x"
    refine we_founding T c c.ord ?_
    walk_at "X"
    refine ⟨rfl, ?_⟩
    walk_at "X"
    refine wo_eqD (n := 1) (m := 1) (u65 hr) (okN _ hfm) (okN _ hfm) ?_
    rw [eqP_refl (okN _ hfm)]
    exact q
end
end Cr
namespace Cr
open PySem PySem.Spec L2 Fw
section
variable {P : Program} {w : World} {K : PySem.W.Frag} {mg : Str → Option Value} {base : Heap} {C Cp : Addr} {k : Nat}
theorem ok_asked {f : Addr} {fd : FuncData} (D : Df K mg "_law_asked" s_law_asked f fd) (T : Tx K mg C Cp)
    (G1 : Ok P w K mg base k "_law_useful" ["_law_many", "_law_lessons", "_law_founded_here", "_law_place"] tUsefulL)
    (G2 : Ok P w K mg base k "_law_least" ["_law_rings_here"] tLeastL)
    (G3 : Ok P w K mg base k "_law_rings" ["_law_many", "_law_lessons"] tRingsL)
    (G4 : Ok P w K mg base k "_law_inner" ["_law_lessons", "_law_useful_here"] tInner)
    (G5 : Ok P w K mg base k "pace" ["custom", "office"] (tPace C Cp))
    (G6 : OkK P w K mg base k "pace" ["custom", "office"] (tPace C Cp))
    (G7 : Ok P w K mg base k "depth_row" ["custom", "generation"] (tDepth C))
    (G8 : Ok P w K mg base k "_law_right" ["_law_names", "_law_lessons", "_law_useful_here", "_law_best", "_law_told"] (tRight Cp))
    (G9 : Ok P w K mg base k "_law_low" ["_law_made", "_law_founded_here", "_law_place", "_law_told", "_law_generation"] (tLow C Cp))
    (G10 : Ok P w K mg base k "_law_make" ["_law_names", "_law_lessons", "_law_founded_here"] (tMake C))
    (G11 : Ok P w K mg base k "_law_high" ["_law_made", "_law_names", "_law_lessons", "_law_founded_here", "_law_place", "_law_told", "_law_rounds"] (tHigh C Cp)) :
    Ok P w K mg base (k + 1) "_law_asked" ["_law_made", "_law_names", "_law_lessons", "_law_founded_here", "_law_place", "_law_generation", "_law_rounds"] (tAsked C) := by
  refine ok_def D sc_law_asked (fun ds Φ h => ?_) (fun _ _ _ _ _ _ us hl => match us, hl with | [_, _, _, _, _, _, _], _ => rfl) fun cdv A outer s F H E hr ds Φ h => ?_
  · obtain ⟨_, _, _, _, rfl, _⟩ := h
    rfl
  · obtain ⟨c, i, gen, rounds, rfl, g, hi, q⟩ := h
    have nd := sc_law_asked.nd
    have hn6 : c.n ≤ 6 := g.n6
    have hdl : ∀ t, (depthRow c.n c.les c.fo t).length = c.n := fun t => (depth_is g t).1
    dsimp only [mkE]
    refine wb_cons (ws_asg (by walk_at "pl") (we_len T.len ?_) nd)
    walk_at "X"
    refine len_l ?_
    rw [List.length_map]
    refine wb_cons (ws_asg (by walk_at "pl") (we_call G1 hr ?_) nd)
    walk_at "X"
    refine ⟨c.n, c.les, c.fo, i, rfl, hn6, lb2 g, ?_⟩
    refine wb_cons (ws_asg (by walk_at "pl") (we_call G2 hr ?_) nd)
    walk_at "x"
    refine we_call G3 hr ?_
    walk_at "X"
    refine we_call G4 hr ?_
    walk_at "X"
    refine ⟨c.les, c.flags i, rfl, g.les36, flags_lb g i, ?_⟩
    walk_at "X"
    refine ⟨c.n, c.inn i, rfl, hn6, inn_nd g i, fun l hl => (inn_lb g i l hl).2.1, inn_len g i, ?_⟩
    walk_at "X"
    refine ⟨ringsL c.n (c.inn i), rfl, fun r hr => by have := (rg_bd g (ringsL_iff.mp hr)).2.1; omega, ?_⟩
    refine wb_cons (ws_asg (by walk_at "pl") (we_call G5 hr ?_) nd)
    walk_at "X"
    refine ixd_l (nm_at hi) ?_
    walk_at "X"
    refine ⟨c, i, rfl, g, hi, ?_⟩
    have eb : leastR (ringsL c.n (c.inn i)) = c.bestL i := rfl
    rw [eb]
    cases hb : c.best i with
    | none =>
      rw [best_none.mpr hb, told_none hb]
      walk_at "if"
      refine wt_ww (ww_or ?_)
      walk_at "t"
      walk_at "X"
      refine ⟨_, rfl, ?_⟩
      rw [if_pos (by exact rfl), if_pos rfl]
      walk_at "if"
      refine wt_ww (ww_or ?_)
      walk_at "t"
      walk_at "X"
      refine ⟨_, rfl, ?_⟩
      rw [if_neg (by exact Bool.false_ne_true)]
      refine ww_or ?_
      walk_at "t"
      walk_at "X"
      refine ⟨_, rfl, ?_⟩
      rw [if_neg (by exact Bool.false_ne_true)]
      refine ww_or1 ?_
      walk_at "t"
      walk_at "x"
      refine we_call G7 hr ?_
      walk_at "X"
      refine ⟨c, c.n + gen, by rw [Int.natCast_add]; rfl, g, ?_⟩
      walk_at "X"
      refine ixd_t (atI_enc (d := none) (by rw [hdl]; exact hi)) ?_
      rw [depth_none g hi hb (Nat.le_add_right _ _)]
      walk_at "X"
      refine ⟨_, rfl, ?_⟩
      rw [if_neg (by exact Bool.false_ne_true)]
      walk_at "nil"
      walk_at "ret"
      refine we_or ?_
      walk_at "X"
      refine ⟨_, rfl, iteD (fun e => ?_) fun e => ?_⟩
      · exact q
      · refine we_one ?_
        walk_at "x"
        walk_at "x"
        refine we_call G7 hr ?_
        walk_at "X"
        refine we_minN T.min rfl ?_
        walk_at "X"
        refine ⟨rounds, 999999999000, rfl, rfl, ?_⟩
        walk_at "X"
        refine ⟨c, c.n + (if 999999999000 < rounds then 999999999000 else rounds), by rw [Int.natCast_add]; rfl, g, ?_⟩
        walk_at "X"
        refine ixd_t (atI_enc (d := none) (by rw [hdl]; exact hi)) ?_
        rw [depth_none g hi hb (Nat.le_add_right _ _)]
        walk_at "X"
        exact q
    | some r =>
      obtain ⟨b, hbl⟩ : ∃ b, c.bestL i = some b := by
        cases e : c.bestL i with
        | none =>
          rw [best_none.mp e] at hb
          cases hb
        | some b => exact ⟨b, rfl⟩
      have tt : Told c i r (topOf r) (botOf r) (c.ps i r) := told_ok g hi hb
      have hrn : ∀ x ∈ r.1, x < c.n := by
        obtain ⟨f, m, e1, hf, hl, nd, hm, hp⟩ := tt.rg
        have hz2 : ∀ z ∈ (f :: (m ++ [f])).head?, z < c.n := by
          intro z hz
          have hz : f = z := by simpa using hz
          rw [← hz]
          exact hf
        intro x hx
        rw [e1] at hx
        refine hp.lt (fun l hl => lb2 g l (inn_mem.mp hl).1) hz2 x ?_
        rcases List.mem_cons.mp hx with rfl | hx
        · exact List.mem_cons_self
        · exact List.mem_cons_of_mem _ (List.mem_append_left _ hx)
      have okF : okD 2 (.tup false [.int ((topOf r : Nat) : Int), .int ((botOf r : Nat) : Int), .tup true ((r.1.map c.nm).map .str), .tup true ((c.ps i r).map encI)]) = true := by
        have e1 : okD 1 (.tup true ((r.1.map c.nm).map .str)) = true := by
          show ((r.1.map c.nm).map Dt.str).all (okD 0) = true
          rw [List.all_map, List.all_map]
          exact List.all_eq_true.mpr fun x hx => str_ok (g.abc _ (Cu.nm_mem (hrn x hx)))
        have e2 : okD 1 (.tup true ((c.ps i r).map encI)) = true := by
          show ((c.ps i r).map encI).all (okD 0) = true
          rw [List.all_map]
          refine List.all_eq_true.mpr fun o _ => ?_
          cases o <;> rfl
        show (true && (true && (okD 1 (.tup true ((r.1.map c.nm).map .str)) && (okD 1 (.tup true ((c.ps i r).map encI)) && true)))) = true
        rw [e1, e2]
        rfl
      rw [hbl, told_some hb]
      walk_at "if"
      refine wt_ww (ww_or ?_)
      walk_at "t"
      walk_at "X"
      refine ⟨_, rfl, ?_⟩
      rw [if_neg (by exact Bool.false_ne_true)]
      refine ww_or1 ?_
      walk_at "t"
      walk_at "X"
      refine ⟨_, rfl, ?_⟩
      rw [if_neg (by exact Bool.false_ne_true)]
      walk_at "nil"
      walk_at "if"
      walk_at "t"
      walk_at "t"
      refine we_call G8 hr ?_
      walk_at "X"
      refine ⟨c, i, r, b, rfl, g, hi, hb, hbl, _, rfl, ?_⟩
      rw [if_neg (by decide)]
      walk_at "nil"
      walk_at "if"
      walk_at "t"
      walk_at "t"
      refine we_call G9 hr ?_
      walk_at "X"
      refine ⟨c, i, r, gen, rfl, g, hi, hb, _, rfl, ?_⟩
      rw [if_neg (by decide)]
      walk_at "nil"
      walk_at "if"
      walk_at "t"
      walk_at "X"
      refine ⟨_, rfl, iteD (fun e => ?_) fun e => ?_⟩
      · walk_at "ret"
        walk_at "X"
        exact q
      walk_at "nil"
      walk_at "if"
      walk_at "t"
      walk_at "t"
      refine we_call G9 hr ?_
      walk_at "X"
      refine we_minN T.min rfl ?_
      walk_at "X"
      refine ⟨rounds, 999999999999, rfl, rfl, ?_⟩
      walk_at "X"
      refine ⟨c, i, r, _, rfl, g, hi, hb, _, rfl, ?_⟩
      rw [if_neg (by decide)]
      walk_at "nil"
      refine wb_cons (ws_asg (by walk_at "pl") ?_ nd)
      walk_at "X"
      refine we_ttop T c i r ?_
      walk_at "X"
      refine ⟨rfl, ?_⟩
      walk_at "X"
      refine we_tbottom T c i r ?_
      walk_at "X"
      refine ⟨rfl, ?_⟩
      walk_at "X"
      refine we_tring T c i r ?_
      walk_at "X"
      refine ⟨rfl, ?_⟩
      walk_at "X"
      refine we_tpots T c i r ?_
      walk_at "X"
      refine ⟨rfl, ?_⟩
      walk_at "X"
      refine ⟨by walk_at "sz", ?_⟩
      refine wb_cons (ws_for [(), ()] (fun _ => c.dat C) (fun pre env1 => ∃ s1 s2 : SD, env1 = ([("_law_made", .dat (c.dat C)), ("_law_names", .dat c.dN), ("_law_lessons", .dat c.dL), ("_law_founded_here", .dat c.dF), ("_law_place", .dat (.int (i : Int))), ("_law_generation", .dat (.int (gen : Int))), ("_law_rounds", .dat (.int (rounds : Int))), ("_law_many", .dat (.int (c.n : Int))), ("_law_useful_here", .dat (c.dU i)), ("_law_best", .dat (encRgL b)), ("_law_told", .dat (.ins Cp (c.toldF i r))), ("_law_fields", .dat (.tup false [.int ((topOf r : Nat) : Int), .int ((botOf r : Nat) : Int), .tup true ((r.1.map c.nm).map .str), .tup true ((c.ps i r).map encI)])), ("_law_usage", s1), ("_law_again", s2)] : Env'))
        (wi_l ?_) ⟨_, _, rfl⟩ (fun pre x post env1 hx he => ?_) (fun env1 he => ?_) nd)
      · walk_at "lst"
        walk_at "X"
        refine we_call G10 hr ?_
        walk_at "X"
        refine ⟨c, rfl, g, ?_⟩
        walk_at "X"
        exact ⟨by walk_at "sz", _, rfl, rfl⟩
      · obtain ⟨s1, s2, rfl⟩ := he
        refine ⟨_, _, by walk_at "tg", ?_⟩
        refine wb_cons (ws_asg (by walk_at "pl") (we_callK2 G6 hr ?_) nd)
        walk_at "X"
        refine ixd_l (nm_at hi) ?_
        refine ⟨c, i, rfl, g, hi, ?_⟩
        rw [told_some hb]
        walk_at "if"
        refine wt_ww (ww_or ?_)
        walk_at "t"
        walk_at "X"
        refine ⟨_, rfl, ?_⟩
        rw [if_neg (by exact Bool.false_ne_true)]
        refine ww_or1 ?_
        walk_at "t"
        walk_at "X"
        refine we_ttop T c i r ?_
        walk_at "X"
        refine ⟨rfl, ?_⟩
        walk_at "X"
        refine we_tbottom T c i r ?_
        walk_at "X"
        refine ⟨rfl, ?_⟩
        walk_at "X"
        refine we_tring T c i r ?_
        walk_at "X"
        refine ⟨rfl, ?_⟩
        walk_at "X"
        refine we_tpots T c i r ?_
        walk_at "X"
        refine ⟨rfl, ?_⟩
        walk_at "X"
        refine ⟨by walk_at "sz", ?_⟩
        walk_at "X"
        refine wo_neD (n := 2) (m := 2) (u65 hr) okF okF ?_
        rw [eqP_refl okF]
        refine ⟨_, rfl, ?_⟩
        rw [if_neg (by decide)]
        walk_at "nil"
        exact ⟨_, _, rfl⟩
      · obtain ⟨s1, s2, rfl⟩ := he
        walk_at "ret"
        refine we_call G11 hr ?_
        walk_at "X"
        exact ⟨c, i, r, rounds, rfl, g, hi, hb, q⟩
end
end Cr
namespace Cr
open PySem PySem.Spec L2 Fw
section
variable {P : Program} {w : World} {K : PySem.W.Frag} {mg : Str → Option Value} {base : Heap} {C Cp : Addr} {k : Nat}
theorem szl {m : Nat} (h : m ≤ 1000) : m ≤ sizeLine := Nat.le_trans h (by decide)
theorem len1 (d : Nat) : (⟨#[d]⟩ : Str).length = 1 := rfl
theorem ok_stranger {f : Addr} {fd : FuncData} (D : Df K mg "_law_stranger" s_law_stranger f fd) (T : Tx K mg C Cp) (G1 : Ok P w K mg base k "_law_cell" ["_law_script", "_law_k"] tCell) (G2 : Ok P w K mg base k "_law_digits" ["_law_cell_here", "_law_sizes"] tDigits) : Ok P w K mg base (k + 1) "_law_stranger" ["_law_script", "_law_at", "_law_names"] tStranger := by
  refine ok_def D sc_law_stranger (fun ds Φ h => ?_) (fun _ _ _ _ _ _ us hl => match us, hl with | [_, _, _], _ => rfl) fun cdv A outer s F H E hr ds Φ h => ?_
  · obtain ⟨_, _, _, rfl, _⟩ := h
    rfl
  · obtain ⟨ns, at_, xs, rfl, h1, h6, hxl, q⟩ := h
    have nd := sc_law_stranger.nd
    dsimp only [mkE]
    refine wb_cons (ws_asg (by walk_at "pl") ?_ nd)
    walk_at "X"
    refine wb_cons (ws_asg (by walk_at "pl") (we_call G2 hr ?_) nd)
    walk_at "x"
    refine we_call G1 hr ?_
    walk_at "X"
    refine ⟨ns, at_, rfl, fun i0 => ?_⟩
    walk_at "x"
    walk_at "lst"
    walk_at "X"
    refine ⟨by walk_at "sz", ?_⟩
    walk_at "X"
    refine ⟨i0, [7, 60, 26, 26, 26], rfl, by walk_at "sz", by decide, fun pt hpt => ?_⟩
    have pl : pt.length = 5 := hpt.1
    have d0 : pt.getD 0 0 < 7 := hpt.2 0 (by walk_at "sz")
    have d2 : pt.getD 2 0 < 26 := hpt.2 2 (by walk_at "sz")
    have d3 : pt.getD 3 0 < 26 := hpt.2 3 (by walk_at "sz")
    have d4 : pt.getD 4 0 < 26 := hpt.2 4 (by walk_at "sz")
    refine wb_cons (ws_asg (by walk_at "pl") ?_ nd)
    walk_at "X"
    refine we_int1 T.int ?_
    walk_at "X"
    refine ixd_l (atI_enc (d := 0) (i := 1) (by omega)) ⟨_, rfl, ?_⟩
    refine we_len T.len ?_
    walk_at "X"
    refine len_l ?_
    rw [List.length_map]
    refine wo_mod (by omega) ?_
    obtain ⟨z, hz, hzn⟩ := mod_nat ((pt.getD 1 0 : Nat) : Int) (show 0 < xs.length by omega)
    rw [hz]
    refine ixd_l (atI_enc (enc := Dt.str) (d := Str.empty) hzn) ?_
    have hzm : xs.getD z Str.empty ∈ xs := List.mem_of_getElem? (getD_at hzn)
    obtain ⟨l1, l4⟩ := hxl _ hzm
    generalize xs.getD z Str.empty = nm at l1 l4
    refine wb_cons (ws_asg (by walk_at "pl") ?_ nd)
    walk_at "lst"
    walk_at "X"
    refine ixd_l (atI_enc (d := 0) (i := 2) (by omega)) ?_
    refine let_at d2 _ ?_
    refine wo_addS (szl (by rw [len1]; omega)) ?_
    walk_at "x"
    refine we_slS ?_
    walk_at "X"
    refine ⟨_, rfl, ?_⟩
    walk_at "X"
    refine ⟨_, rfl, szl (by omega), ?_⟩
    walk_at "X"
    refine ixd_l (atI_enc (d := 0) (i := 2) (by omega)) ?_
    refine let_at d2 _ ?_
    walk_at "X"
    refine ixd_l (atI_enc (d := 0) (i := 3) (by omega)) ?_
    refine let_at d3 _ ?_
    refine wo_addS (szl (by rw [len1, len1]; omega)) ?_
    walk_at "x"
    refine we_upper ?_
    walk_at "X"
    refine ⟨_, rfl, by omega, ?_⟩
    walk_at "X"
    refine wo_addS (szl (by have : ("0" : Str).length = 1 := rfl; rw [this]; omega)) ?_
    walk_at "x"
    walk_at "x"
    refine we_slS ?_
    walk_at "X"
    refine ⟨_, rfl, ?_⟩
    refine ⟨_, rfl, ?_⟩
    refine ⟨_, rfl, szl (by omega), ?_⟩
    walk_at "X"
    refine ixd_l (atI_enc (d := 0) (i := 4) (by omega)) ?_
    refine let_at d4 _ ?_
    refine wo_addS (szl (by rw [len1]; have := cutS_length nm none (some (-1)); omega)) ?_
    walk_at "X"
    refine wo_addS (szl (by have : (" " : Str).length = 1 := rfl; rw [this]; omega)) ?_
    walk_at "X"
    refine wo_addS (szl (by have : (" " : Str).length = 1 := rfl; rw [PySem.Str.length_append, this]; omega)) ?_
    walk_at "X"
    refine ⟨by walk_at "sz", ?_⟩
    walk_at "ret"
    walk_at "X"
    refine ixd_l (atI_enc (d := 0) (i := 0) (by omega)) ?_
    refine ixd_l (atI_enc (enc := Dt.str) (xs := [_, _, _, _, _, _, _]) (d := Str.empty) (show pt.getD 0 0 < 7 by omega)) (q _)
end
end Cr
namespace Cr
open PySem PySem.Spec L2 Fw
section
variable {P : Program} {w : World} {K : PySem.W.Frag} {mg : Str → Option Value} {base : Heap} {C Cp : Addr} {k : Nat}
theorem menu_many {j : Nat} (h : j < 12) : 1 ≤ ([1, 2, 2, 3, 3, 3, 4, 4, 5, 5, 6, 6] : List Nat).getD j 0 ∧ ([1, 2, 2, 3, 3, 3, 4, 4, 5, 5, 6, 6] : List Nat).getD j 0 ≤ 6 := by
  have : ∀ j : Fin 12, 1 ≤ ([1, 2, 2, 3, 3, 3, 4, 4, 5, 5, 6, 6] : List Nat).getD j.1 0 ∧ ([1, 2, 2, 3, 3, 3, 4, 4, 5, 5, 6, 6] : List Nat).getD j.1 0 ≤ 6 := by decide
  exact this ⟨j, h⟩
theorem ok_law {f : Addr} {fd : FuncData} (D : Df K mg "law" slaw f fd) (T : Tx K mg C Cp)
    (G1 : Ok P w K mg base k "_law_cell" ["_law_script", "_law_k"] tCell) (G2 : Ok P w K mg base k "_law_digits" ["_law_cell_here", "_law_sizes"] tDigits)
    (G3 : Ok P w K mg base k "_law_offices" ["_law_script", "_law_at", "_law_many", "_law_style"] tOffices)
    (G4 : Ok P w K mg base k "_law_taught" ["_law_script", "_law_at", "_law_many", "_law_plan", "_law_extra", "_law_turn"] tTaught)
    (G5 : Ok P w K mg base k "_law_founded" ["_law_script", "_law_at", "_law_many"] tFounded)
    (G6 : Ok P w K mg base k "_law_make" ["_law_names", "_law_lessons", "_law_founded_here"] (tMake C))
    (G7 : Ok P w K mg base k "_law_asked" ["_law_made", "_law_names", "_law_lessons", "_law_founded_here", "_law_place", "_law_generation", "_law_rounds"] (tAsked C))
    (G8 : Ok P w K mg base k "_law_stranger" ["_law_script", "_law_at", "_law_names"] tStranger)
    (G9 : Ok P w K mg base k "_law_refused" ["_law_made", "_law_text"] (tRefused C))
    (G10 : Ok P w K mg base k "_law_stays" ["_law_made", "_law_names", "_law_lessons", "_law_founded_here"] (tStays C)) :
    FnOk P w K mg base CX0 (k + 1) f fd ["_law_script"] (spT K tLaw) := by
  refine fn_def D sclaw (fun ds Φ h => ?_) fun cdv A outer s F H E hr ds Φ h => ?_
  · obtain ⟨_, rfl, _⟩ := h
    rfl
  · obtain ⟨ns, rfl, q⟩ := h
    have nd := sclaw.nd
    dsimp only [mkE]
    refine wb_cons (ws_asg (by walk_at "pl") (we_call G2 hr ?_) nd)
    walk_at "x"
    refine we_call G1 hr ?_
    walk_at "X"
    refine ⟨ns, 0, rfl, fun i0 => ?_⟩
    walk_at "x"
    walk_at "lst"
    walk_at "X"
    refine ⟨by walk_at "sz", ?_⟩
    walk_at "X"
    refine ⟨i0, [12, 4, 8, 13, 60, 60], rfl, by walk_at "sz", by decide, fun sh hsh => ?_⟩
    have sl : sh.length = 6 := hsh.1
    have d0 : sh.getD 0 0 < 12 := hsh.2 0 (by walk_at "sz")
    refine wb_cons (ws_asg (by walk_at "pl") ?_ nd)
    walk_at "x"
    walk_at "lst"
    walk_at "X"
    refine ⟨by walk_at "sz", ?_⟩
    walk_at "X"
    refine ixd_l (atI_enc (d := 0) (i := 0) (by omega)) ?_
    refine ixd_l (atI_enc (enc := encN) (xs := [1, 2, 2, 3, 3, 3, 4, 4, 5, 5, 6, 6]) (d := 0) (show sh.getD 0 0 < 12 by omega)) ?_
    obtain ⟨n1, n6⟩ := menu_many d0
    generalize ([1, 2, 2, 3, 3, 3, 4, 4, 5, 5, 6, 6] : List Nat).getD (sh.getD 0 0) 0 = n at n1 n6
    refine wb_cons (ws_asg (by walk_at "pl") (we_call G3 hr ?_) nd)
    walk_at "X"
    refine ixd_l (atI_enc (d := 0) (i := 1) (by omega)) ?_
    walk_at "X"
    refine ⟨ns, 1, n, _, rfl, n6, fun xs hxs => ?_⟩
    refine wb_cons (ws_asg (by walk_at "pl") (we_call G4 hr ?_) nd)
    walk_at "X"
    refine ixd_l (atI_enc (d := 0) (i := 2) (by omega)) ?_
    walk_at "X"
    refine ixd_l (atI_enc (d := 0) (i := 3) (by omega)) ?_
    walk_at "X"
    refine ixd_l (atI_enc (d := 0) (i := 4) (by omega)) ?_
    walk_at "X"
    refine ⟨ns, 7, n, _, _, _, rfl, n1, n6, fun _ => trivial, fun ls hls => ?_⟩
    refine wb_cons (ws_asg (by walk_at "pl") (we_call G5 hr ?_) nd)
    walk_at "X"
    refine ⟨ns, 19, n, rfl, n1, n6, fun fo hfo => ?_⟩
    obtain ⟨x1, x2, x3, x4⟩ := hxs
    subst x1
    let c : Cu := ⟨xs, ls, fo⟩
    have g : c.Good := ⟨n1, n6, x2, x3, x4, hls.1, hls.2.1, hls.2.2, hfo.2, hfo.1⟩
    refine wb_cons (ws_asg (by walk_at "pl") (we_call G6 hr ?_) nd)
    walk_at "X"
    refine ⟨c, rfl, g, ?_⟩
    refine wb_cons (ws_asg (by walk_at "pl") (we_call G2 hr ?_) nd)
    walk_at "x"
    refine we_call G1 hr ?_
    walk_at "X"
    refine ⟨ns, 20, rfl, fun i1 => ?_⟩
    walk_at "x"
    walk_at "lst"
    walk_at "X"
    refine wo_pow ⟨by omega, by omega, by decide⟩ ?_
    walk_at "X"
    refine wo_pow ⟨by omega, by omega, by decide⟩ ?_
    walk_at "X"
    refine ⟨by walk_at "sz", ?_⟩
    walk_at "X"
    refine ⟨i1, [1000000, 1000000, 31, 31, 31, 31, 31, 31], rfl, by walk_at "sz", by decide, fun pt hpt => ?_⟩
    have pl : pt.length = 8 := hpt.1
    have e0 : pt.getD 0 0 < 1000000 := hpt.2 0 (by walk_at "sz")
    refine wb_cons (ws_asg (by walk_at "pl") ?_ nd)
    walk_at "x"
    walk_at "x"
    walk_at "lst"
    walk_at "X"
    refine ixd_l (atI_enc (d := 0) (i := 0) (by omega)) ?_
    walk_at "X"
    refine wo_pow ⟨by omega, by omega, by decide⟩ ?_
    refine wo_mul (.inl ⟨by omega, by omega⟩) ?_
    walk_at "X"
    refine ixd_l (atI_enc (d := 0) (i := 1) (by omega)) ?_
    refine wo_add ?_
    walk_at "X"
    refine ixd_l (atI_enc (d := 0) (i := 0) (by omega)) ?_
    walk_at "X"
    refine ixd_l (atI_enc (d := 0) (i := 1) (by omega)) ?_
    walk_at "X"
    refine ⟨by walk_at "sz", ?_⟩
    walk_at "x"
    refine we_int1 T.int ?_
    walk_at "X"
    refine ixd_l (atI_enc (d := 0) (i := 5) (by omega)) ⟨_, rfl, ?_⟩
    walk_at "X"
    refine wo_mod (by omega) ?_
    obtain ⟨z, hz, hz4⟩ := mod_nat ((sh.getD 5 0 : Nat) : Int) (show 0 < 4 by omega)
    have hz : ((sh.getD 5 0 : Nat) : Int) % 4 = (z : Int) := hz
    rw [hz]
    have e6 : ((pt.getD 0 0 : Nat) : Int) * 10 ^ (6 : Int).toNat + ((pt.getD 1 0 : Nat) : Int) = ((pt.getD 0 0 * 1000000 + pt.getD 1 0 : Nat) : Int) := by
      rw [Int.natCast_add, Int.natCast_mul]
      rfl
    rw [e6]
    refine ixd_l (atI_enc (enc := encN) (xs := [pt.getD 0 0 * 1000000 + pt.getD 1 0, pt.getD 0 0, pt.getD 1 0, 999999999999]) (d := 0) hz4) ?_
    generalize ([pt.getD 0 0 * 1000000 + pt.getD 1 0, pt.getD 0 0, pt.getD 1 0, 999999999999] : List Nat).getD z 0 = rd0
    walk_at "X"
    have er : (rd0 : Int) + 1 = ((rd0 + 1 : Nat) : Int) := by omega
    rw [er]
    generalize rd0 + 1 = rd
    refine wb_cons (ws_asg (by walk_at "pl") ?_ nd)
    walk_at "x"
    refine we_int1 T.int ?_
    walk_at "X"
    refine ixd_l (atI_enc (d := 0) (i := 5) (by omega)) ?_
    walk_at "X"
    refine wo_fdiv ⟨by omega, by omega⟩ ⟨_, rfl, ?_⟩
    walk_at "X"
    refine wo_mod (by omega) ?_
    obtain ⟨ch, hch, _⟩ := mod_nat (((sh.getD 5 0 : Nat) : Int) / 4) (show 0 < xs.length by omega)
    rw [hch]
    refine wb_cons (ws_for (List.range xs.length) encN (fun pre env1 => ∃ s1 s2 : SD, env1 = ([("_law_script", .dat (.scr ns)), ("_law_shape", .dat (.lst (sh.map encN))), ("_law_many", .dat (.int (xs.length : Int))), ("_law_names", .dat c.dN), ("_law_lessons", .dat c.dL), ("_law_founded_here", .dat c.dF), ("_law_made", .dat (c.dat C)), ("_law_part", .dat (.lst (pt.map encN))), ("_law_rounds", .dat (.int (rd : Int))), ("_law_chosen", .dat (.int (ch : Int))), ("_law_place", s1), ("_law_far", s2), ("_law_text", .un)] : Env'))
      (wi_r T.rng ?_) ⟨_, _, rfl⟩ (fun pre i post env1 hx he => ?_) (fun env1 he => ?_) nd)
    · walk_at "X"
      exact ⟨xs.length, rfl, by omega, rfl⟩
    · obtain ⟨s1, s2, rfl⟩ := he
      obtain ⟨_, hi⟩ := range_ix hx
      refine ⟨_, _, by walk_at "tg", ?_⟩
      refine wb_cons (ws_asg (by walk_at "pl") ?_ nd)
      walk_at "x"
      walk_at "lst"
      walk_at "X"
      refine ⟨by walk_at "sz", ?_⟩
      refine we_int1 T.int ?_
      walk_at "X"
      refine ⟨_, rfl, ?_⟩
      have hfar : ∀ Φ : PD, (∀ m : Nat, Φ (.int (m : Int))) → IxD (.lst [.int 0, .int (rd : Int)]) (.int (if decide ((i : Int) = (ch : Int)) = true then 1 else 0)) Φ := by
        intro Φ hΦ
        by_cases h : (i : Int) = (ch : Int)
        · rw [if_pos (decide_eq_true h)]
          exact ixd_l (v := .int (rd : Int)) rfl (hΦ rd)
        · rw [if_neg (by rw [decide_eq_true_eq]; exact h)]
          exact ixd_l (v := .int 0) rfl (hΦ 0)
      refine hfar _ fun far => ?_
      walk_at "if"
      walk_at "t"
      walk_at "t"
      refine we_call G7 hr ?_
      walk_at "X"
      refine ixd_l (v := encN (pt.getD (2 + i) 0)) ?_ ?_
      · have e7 : (2 : Int) + (i : Int) = ((2 + i : Nat) : Int) := by omega
        rw [e7]
        exact atI_enc (d := 0) (by omega)
      walk_at "X"
      refine ⟨c, i, _, far, rfl, g, hi, _, rfl, ?_⟩
      rw [if_neg (by decide)]
      walk_at "nil"
      exact ⟨_, _, rfl⟩
    · obtain ⟨s1, s2, rfl⟩ := he
      refine wb_cons (ws_asg (by walk_at "pl") (we_call G8 hr ?_) nd)
      walk_at "X"
      refine ⟨ns, 21, xs, rfl, n1, n6, x3, fun x => ?_⟩
      have fin : ∀ s1 s2 : SD, WB (bdOf P w K mg base Nlaw "law" slaw f cdv A outer s F H E) (match defBody slaw with | [_, _, _, _, _, _, _, _, _, _, _, _, st] => [st] | _ => []) ([("_law_script", .dat (.scr ns)), ("_law_shape", .dat (.lst (sh.map encN))), ("_law_many", .dat (.int (xs.length : Int))), ("_law_names", .dat c.dN), ("_law_lessons", .dat c.dL), ("_law_founded_here", .dat c.dF), ("_law_made", .dat (c.dat C)), ("_law_part", .dat (.lst (pt.map encN))), ("_law_rounds", .dat (.int (rd : Int))), ("_law_chosen", .dat (.int (ch : Int))), ("_law_place", s1), ("_law_far", s2), ("_law_text", .dat (.str x))] : Env') { nx := fun _ => Φ .non, rt := Φ } := by
        intro s1 s2
        walk_at "ret"
        refine we_call G10 hr ?_
        walk_at "X"
        exact ⟨c, rfl, g, q⟩
      walk_at "if"
      refine wt_ww (ww_and ?_)
      walk_at "t"
      walk_at "X"
      refine wo_nin .l rfl (flats_str _) ?_
      rw [inF_str]
      refine ⟨_, rfl, iteDn (fun hnin => ?_) fun hin => ?_⟩
      · refine ww_and1 ?_
        walk_at "t"
        walk_at "t"
        refine we_call G9 hr ?_
        walk_at "X"
        refine ⟨c, x, rfl, g, hnin, _, rfl, ?_⟩
        rw [if_neg (by decide)]
        walk_at "nil"
        exact fin _ _
      · rw [if_neg (by decide)]
        walk_at "nil"
        exact fin _ _
end
end Cr
/-! Defs that raise an exception of one class with one field, name. -/
namespace Fw
open PySem PySem.Spec L2
def exF (y : Str) : List (Str × V) := [("name", .str y)]
abbrev TX := List Dt → Str → Prop
def spX (K : PySem.W.Frag) (C : Addr) (T : TX) : Sp := fun vs H _ E => ∃ F ds y, Ex F H ∧ RepL K F vs ds ∧ T ds y ∧ ∀ d H' F', Gr F H F' H' → H' d = some (.xd (exF y)) → E (.ref C) (some d) H'
structure OkX (P : Program) (w : World) (K : PySem.W.Frag) (mg : Str → Option Value) (base : Heap) (k : Nat) (x : Str) (ps : List Str) (C : Addr) (T : TX) : Prop where
  ex : ∃ f fd, mg x = some (.ref f) ∧ PySem.W.keepIn K (.ref f) = true ∧ Binds K fd ps [] ∧ FnOk P w K mg base (L2.CX P w) k f fd ps (spX K C T)
/-- the frame lets the exception out -/
def Out (B : Bd) (C : Addr) (y : Str) (I : Env' → Prop) : Prop := ∃ W : WX, Takes B.X W ∧ ∀ F σ H d env, I env → At B F σ H env → H d = some (.xd (exF y)) → W (.ref C) (some d) σ H
abbrev bdX (P : Program) (w : World) (K : PySem.W.Frag) (mg : Str → Option Value) (base : Heap) (N : List Str) (qual : Str) (st : Stmt) (f : Addr) (cdv : Value) (A : Around) (outer : List Env) (s : Shared) (F H : Hp) (E : XK) : Bd :=
  ⟨cxOf (L2.CX P w) P w K mg base N qual (defScope st) f cdv A outer s H E, F, H⟩
section
variable {P : Program} {w : World} {K : PySem.W.Frag} {mg : Str → Option Value} {base : Heap} {C : Addr}
theorem ok_defX {x : Str} {st : Stmt} {f : Addr} {fd : FuncData} {N ps : List Str} {k : Nat} {T : TX} (D : Df K mg x st f fd) (S : FnScope N ps (defScope st)) (hl : ∀ ds y, T ds y → ds.length = ps.length)
    (hb : ∀ (kV doc pm : Value) (an : Option Addr) (cdv ct : Value) (us : List Value), us.length = ps.length → bindArgs (PySem.W.fnOf x x (defArgs st) (defBody st) (defScope st) .none kV doc pm an cdv ct) ⟨us, []⟩ = pure (ps.zip us))
    (body : ∀ (cdv : Value) (A : Around) (outer : List Env) (s : Shared) (F H : Hp) (E : XK), Room k (A.deeper (PyProof.Rows.envOfC x (defScope st) s.heap.objs.size f cdv)) → ∀ ds y, T ds y → Out (bdX P w K mg base N x st f cdv A outer s F H E) C y (fun _ => True) →
      WB (bdX P w K mg base N x st f cdv A outer s F H E) (defBody st) (mkE N ds) { nx := fun _ => False, rt := fun _ => False }) : OkX P w K mg base (k + 1) x ps C T := by
  refine ⟨f, fd, D.at_, D.fn.kp, D.fn.bindsN hb, ?_⟩
  have hps : ps.length ≤ N.length := by
    have e := congrArg List.length S.pre
    rw [List.length_take] at e
    omega
  refine D.fn.ok S (fun vs H Q E h => ?_) fun cdv A outer s H vs Q E hr h => ?_
  · obtain ⟨F, ds, y, _, r, t, _⟩ := h
    rw [r.length]
    exact hl ds y t
  · obtain ⟨F, ds, y, e, r, t, q⟩ := h
    have hvl : vs.length ≤ N.length := by
      rw [r.length, hl ds y t]
      exact hps
    have ho : Out (bdX P w K mg base N x st f cdv A outer s F H E) C y (fun _ => True) := ⟨fun cls d _ H => E cls d H, takes_of rfl rfl rfl rfl, fun F' σ' H' d env' _ A' hd => q d H' F' A'.g hd⟩
    have B := body cdv A outer s F H E hr ds y t ho F _ H (at_start (X := cxOf (L2.CX P w) P w K mg base N x (defScope st) f cdv A outer s H E) e r hvl)
    exact ⟨_, pss_re, rb_mono B (fun σ' H' ⟨F', env', _, A', h⟩ => h.elim) (fun v H' ⟨F', d, g, r, h⟩ => h.elim) (fun _ _ ⟨_, _, _, _, z⟩ => z.elim) fun _ _ ⟨_, _, _, _, z⟩ => z.elim⟩
end
section
variable {B : Bd} {env : Env'} {x : Str} {e : Expr} {es : List Expr} {Φ : PD} {p pos pos2 : Pos} {k : Nat} {ps : List Str} {T : TX} {C : Addr} {y : Str} {I : Env' → Prop}
/-- a call that raises -/
theorem we_callX (G : OkX B.X.prog B.X.w B.X.K B.X.mg B.X.base k x ps C T) (hr : Room k B.X.A) (ho : Out B C y I) (hI : I env) (h : WA B (e :: es) env fun ds => T ds y) (hg : Gl B.X x := by rfl) (hdb : (x == ("__debug__" : Str)) = false := by decide)
    (he : starEach (e :: es) B.X.env = (false, eval e B.X.env) :: starEach es B.X.env := by rfl) (hpl : (backTo pos (starEach es B.X.env)).any (·.1) = false := by rfl) : WE B (.Call (.Name x p) (e :: es) [] pos) env Φ := .mk fun F σ H A => by
  obtain ⟨f, fd, h1, h2, h3, h4⟩ := G.ex
  obtain ⟨W, tk, hW⟩ := ho
  refine re_of (pe_callS h4 hr hg h1 h2 h3 (fun σ => passAt tk σ) pa_re hdb he hpl) (ra_mono (h F σ H A) fun vs H1 ⟨F1, ds, g, r, t⟩ => ?_)
  exact ⟨F1, ds, y, g.fh, r, t, fun d H' F' g2 hd => hW F' σ H' d env hI (A.grow (g.trans g2)) hd⟩
/-- __init__(self, name): self.name = name, of an exception -/
def spXI (C : Addr) : Sp := fun vs H Q _ => ∃ (a : Addr) (y : Str), vs = [.ref a, .str y] ∧ H a = some (exo a C none) ∧ ∀ dx, H dx = none → dx ≠ a → Q .non (upd (upd H dx (exd dx (exF y))) a (exo a C (some dx)))
theorem ws_raise {fI : Addr} {fd : FuncData} {D : AE} (T : OexC B.X.K C) (iC : PySem.W.findIn B.X.K (.ref C) "__init__" = some (some (.ref fI))) (tI : PySem.W.typeIn B.X.K (.ref fI) = some (.type "function"))
    (F1 : FnOk B.X.prog B.X.w B.X.K B.X.mg B.X.base CX0 k fI fd ps (spXI C)) (hr : Room (k + 1) B.X.A) (hb : Binds B.X.K fd ps []) (hm : B.X.mg x = some (.ref C)) (ho : Out B C y I) (hI : I env) (h : WE B e env fun d => d = .str y) (hc : B.X.calm = true := by rfl) (hg : Gl B.X x := by rfl)
    (hdb : (x == ("__debug__" : Str)) = false := by decide) (hs : notStar e = true := by rfl) (hpl : (backTo pos (starEach [] B.X.env)).any (·.1) = false := by rfl) : WS B (.Raise (some (.Call (.Name x p) [e] [] pos)) none pos2) env D := .mk fun F σ H A => by
  obtain ⟨W, tk, hW⟩ := ho
  refine rs_of (ps_raise hc tk (pmk_oex T iC tI F1 hr hb .nil pass0 hg hm (pa_cons pe_re pa_nil (starEach_ns hs)) hdb (starEach_ns hs) hpl)) ?_
  refine re_mono (h F σ H A) fun v H1 ⟨F1, d, g, r, ed⟩ => ?_
  subst ed
  cases r with
  | str =>
    refine ⟨by simp, fun a ha => ⟨a, y, rfl, upd_same, fun dx hdx hne => ⟨rfl, dx, exF y, upd_same, by rw [upd_ne hne, upd_same], ?_, ?_⟩⟩⟩
    · rw [upd_ne hne] at hdx
      exact hdx
    · rw [upd_ne hne] at hdx
      have hH : Ex H1 (upd (del (upd (upd (upd H1 a (exo a C none)) dx (exd dx (exF y))) a (exo a C (some dx))) a) dx (.xd (exF y))) := fun b o hb => by
        have h1 : b ≠ a := fun z => by rw [z, ha] at hb; cases hb
        have h2 : b ≠ dx := fun z => by rw [z, hdx] at hb; cases hb
        rw [upd_ne h2, del_ne h1, upd_ne h1, upd_ne h2, upd_ne h1]
        exact hb
      exact hW F1 σ _ dx env hI (A.grow (g.trans ⟨.refl _, g.fh.trans hH, hH, fun a o h n => by rw [h] at n; cases n⟩)) upd_same
end
/-- the walk of such an __init__ -/
theorem ok_xinit {P : Program} {w : World} {K : PySem.W.Frag} {mg : Str → Option Value} {base : Heap} {C f : Addr} {fd : FuncData} {qual : Str} {args : Arguments} {scope : Scope} {p1 p2 p3 p4 : Pos} {k : Nat} (T : OexC K C) (hn : PySem.W.findIn K (.ref C) "name" = some none)
    (D : FunD K "__init__" qual args [.Assign [.Attribute (.Name "self" p1) "name" p2] (.Name "name" p3) p4] scope [] [] f fd) (S : FnScope ["self", "name"] ["self", "name"] scope) : FnOk P w K mg base CX0 (k + 1) f fd ["self", "name"] (spXI C) := by
  refine D.ok S (fun vs H Q E h => ?_) fun cdv A outer s H vs Q E hr h => ?_
  · obtain ⟨_, _, rfl, _⟩ := h
    rfl
  · obtain ⟨a, y, rfl, ha, q⟩ := h
    have v1 : Vis scope "self" := by
      rcases S.par "self" (by simp) with h | h
      · exact .inl h
      · exact .inr (.inl h)
    have v2 : Vis scope "name" := by
      rcases S.par "name" (by simp) with h | h
      · exact .inl h
      · exact .inr (.inl h)
    refine ⟨_, pss_cons (ps_ost (pe_var (i := 0) rfl v1) (pe_var (i := 1) rfl v2)) pss_nil, ?_⟩
    exact ⟨_, rfl, _, rfl, a, C, rfl, T, hn, .inl ⟨ha, fun dx hdx hne => q dx hdx hne⟩⟩
end Fw
namespace Cr
open PySem PySem.Spec L2 Fw
/-- what the top has written of the class -/
structure Tu (P : Program) (w : World) (K : PySem.W.Frag) (mg : Str → Option Value) (base : Heap) (Cu_ fI : Addr) (fd : FuncData) : Prop where
  g : mg "UnknownOffice" = some (.ref Cu_)
  T : OexC K Cu_
  iC : PySem.W.findIn K (.ref Cu_) "__init__" = some (some (.ref fI))
  tI : PySem.W.typeIn K (.ref fI) = some (.type "function")
  F : FnOk P w K mg base CX0 1 fI fd ["self", "name"] (spXI Cu_)
  b : Binds K fd ["self", "name"] []
def xKnown : TX := fun ds y => ∃ (offs : List Str) (a : Bool), ds = [.tup a (offs.map .str), .tup false [.str y]] ∧ y ∉ offs
def xPlace (C : Addr) : TX := fun ds y => ∃ c : Cu, ds = [c.dat C, .str y] ∧ c.Good ∧ y ∉ c.names
section
variable {P : Program} {w : World} {K : PySem.W.Frag} {mg : Str → Option Value} {base : Heap} {C Cp Cu_ fI : Addr} {fdI : FuncData} {k : Nat}
theorem okX_known {f : Addr} {fd : FuncData} (D : Df K mg "check_known" scheck_known f fd) (U : Tu P w K mg base Cu_ fI fdI) : OkX P w K mg base (k + 3) "check_known" ["offices", "names"] Cu_ xKnown := by
  refine ok_defX D sccheck_known (fun ds y h => ?_) (fun _ _ _ _ _ _ us hl => match us, hl with | [_, _], _ => rfl) fun cdv A outer s F H E hr ds y h ho => ?_
  · obtain ⟨_, _, rfl, _⟩ := h
    rfl
  · obtain ⟨offs, a, rfl, hy⟩ := h
    have nd := sccheck_known.nd
    dsimp only [mkE]
    refine wb_cons (ws_for [y] Dt.str (fun pre env1 => pre = [] ∧ ∃ s1 : SD, env1 = ([("offices", .dat (.tup a (offs.map .str))), ("names", .dat (.tup false [.str y])), ("name", s1)] : Env'))
      (wi_t ?_) ⟨rfl, _, rfl⟩ (fun pre x post env1 hx he => ?_) (fun env1 he => ?_) nd (hp := passes_of rfl))
    · walk_at "X"
      exact ⟨_, _, rfl, rfl⟩
    · obtain ⟨rfl, s1, rfl⟩ := he
      have hx : x = y := by
        rw [List.nil_append] at hx
        injection hx with h1 _
        exact h1.symm
      subst hx
      refine ⟨_, _, by walk_at "tg", ?_⟩
      walk_at "if"
      walk_at "t"
      walk_at "X"
      refine wo_nin .t rfl (flats_str _) ?_
      rw [inF_str, decide_eq_false hy]
      refine ⟨_, rfl, ?_⟩
      rw [if_pos (by decide)]
      refine wb_cons (ws_raise U.T U.iC U.tI U.F (hr.mono (by omega)) U.b U.g ho trivial ?_)
      walk_at "X"
      rfl
    · exact absurd he.1 (by simp)
theorem okX_place {f : Addr} {fd : FuncData} (D : Df K mg "office_place" soffice_place f fd) (T : Tx K mg C Cp) (G : OkX P w K mg base k "check_known" ["offices", "names"] Cu_ xKnown) : OkX P w K mg base (k + 1) "office_place" ["custom", "office"] Cu_ (xPlace C) := by
  refine ok_defX D scoffice_place (fun ds y h => ?_) (fun _ _ _ _ _ _ us hl => match us, hl with | [_, _], _ => rfl) fun cdv A outer s F H E hr ds y h ho => ?_
  · obtain ⟨_, rfl, _⟩ := h
    rfl
  · obtain ⟨c, rfl, g, hy⟩ := h
    have nd := scoffice_place.nd
    dsimp only [mkE]
    refine wb_cons (ws_expr (we_callX G hr ho trivial ?_))
    walk_at "x"
    refine we_offices T c c.ord ?_
    walk_at "X"
    refine ⟨rfl, ?_⟩
    walk_at "X"
    refine ⟨by walk_at "sz", ?_⟩
    walk_at "X"
    exact ⟨_, _, rfl, hy⟩
theorem okX_pace {f : Addr} {fd : FuncData} (D : Df K mg "pace" space f fd) (T : Tx K mg C Cp) (G1 : OkX P w K mg base k "office_place" ["custom", "office"] Cu_ (xPlace C)) (G2 : Ok P w K mg base k "useful_flags" ["custom", "at"] (tUseful C)) : OkX P w K mg base (k + 1) "pace" ["custom", "office"] Cu_ (xPlace C) := by
  refine ok_defX D scpace (fun ds y h => ?_) (fun _ _ _ _ _ _ us hl => match us, hl with | [_, _], _ => rfl) fun cdv A outer s F H E hr ds y h ho => ?_
  · obtain ⟨_, rfl, _⟩ := h
    rfl
  · obtain ⟨c, rfl, g, hy⟩ := h
    have nd := scpace.nd
    dsimp only [mkE]
    refine wb_cons (ws_asg (by walk_at "pl") (we_call G2 hr ?_) nd)
    walk_at "X"
    refine we_callX G1 hr ho trivial ?_
    walk_at "X"
    exact ⟨c, rfl, g, hy⟩
end
end Cr
namespace Cr
open PySem PySem.Spec L2 Fw
/-- isinstance(e, c), e the caught exception with the dict dd -/
def rIsD (K : PySem.W.Frag) (D a dd : Addr) : List V → Hp → VK → Prop := fun xs H Q => ∃ (c : V) (cv : Value) (b : Bool) (fs : List (Str × V)), xs = [.ref a, c] ∧ (∀ u, RelV c u → u = cv) ∧ PySem.W.kitOne K (.ref D) cv = some b ∧ H dd = some (.xd fs) ∧ Q (.bl b) H
theorem call_isD {X : Cx} {a D dd : Addr} {oe : Obj} {pn : List (Addr × Obj)} (C : ExcC X.K D) (hz : Zc (.ref D) (some dd) oe) (hf : ∃ vs, oe.data = .fields vs) : CallR (X.suite a ((a, oe) :: pn)) (.builtin "isinstance") (rIsD X.K D a dd) := by
  intro pins s σ H xs us Q I rel want
  obtain ⟨c, cv, b, fs, rfl, hcv, e, hx, q⟩ := want
  cases rel with
  | cons rx rr =>
    cases rr with
    | cons rt rr =>
      cases rr
      cases rx
      have ec := hcv _ rt
      subst ec
      have hget := (I.pin (a, oe) (List.mem_append_left pins List.mem_cons_self)).1
      obtain ⟨vs, hv⟩ := hf
      have ho : ObjOk X.prog X.w H s.heap dd (.xd fs) := I.hok dd _ hx
      obtain ⟨mA, hns, hr⟩ := ho
      obtain ⟨od, ho, _⟩ := lookIn_ns hns
      have J : PySem.W.InstAt s.heap a oe D (some od) := ⟨hget, hz.1, by unfold PySem.W.notCls; rw [hv] <;> rfl, by rw [hz.2]; exact ho⟩
      have hcl : (PySem.W.clsIn X.K D).isSome = true := by
        obtain ⟨cd, hc, _⟩ := PySem.W.any_some C.hd
        rw [hc]
        rfl
      exact PySem.W.kia_one (PySem.W.kitx_exc hcl C.hg C.hk C.hs C.ha C.hn C.ht C.hm) I.kIn J e (fun z => nomatch z) fun tk => ⟨.bl b, H, I.kept (t' := tk) fun _ _ z => z, rfl, q⟩
/-- what the top has written, for the refusal -/
structure Te (K : PySem.W.Frag) (mg : Str → Option Value) (cU cE cB cM cA : Addr) : Prop where
  E : ExcC K cU
  X : XfC K cU
  hn : PySem.W.findIn K (.ref cU) "name" = some none
  gU : mg "UnknownOffice" = some (.ref cU)
  gE : mg "CraftError" = some (.ref cE)
  gB : mg "BadOffice" = some (.ref cB)
  gM : mg "UnknownMaster" = some (.ref cM)
  gA : mg "UnknownAge" = some (.ref cA)
  gV : mg "ValueError" = none
  ex : PySem.W.exmOne K (.ref cU) (.ref cE) = some true
  kU : PySem.W.kitOne K (.ref cU) (.ref cU) = some true
  kV : PySem.W.kitOne K (.ref cU) (.type "ValueError") = some true
  kB : PySem.W.kitOne K (.ref cU) (.ref cB) = some false
  kM : PySem.W.kitOne K (.ref cU) (.ref cM) = some false
  kA : PySem.W.kitOne K (.ref cU) (.ref cA) = some false
abbrev rfBody : List Stmt := match defBody s_law_refused with
  | [.Try b _ _ _ _, _] => b
  | _ => []
abbrev rfSuite : List Stmt := match defBody s_law_refused with
  | [.Try _ [.ExceptHandler _ _ st _] _ _ _, _] => st
  | _ => []
section
variable {P : Program} {w : World} {K : PySem.W.Frag} {mg : Str → Option Value} {base : Heap} {C Cp cU cE cB cM cA : Addr} {k : Nat}
variable {f : Addr} {cdv : Value} {A : Around} {outer : List Env} {s : Shared} {F0 H0 : Hp} {E : XK} {a dd : Addr} {oe : Obj} {pn : List (Addr × Obj)} {σ : L2.St} {H : Hp} {y : Str}
abbrev rfX (P : Program) (w : World) (K : PySem.W.Frag) (mg : Str → Option Value) (base : Heap) (f : Addr) (cdv : Value) (A : Around) (outer : List Env) (s : Shared) (F0 H0 : Hp) (E : XK) (a : Addr) (oe : Obj) (pn : List (Addr × Obj)) : Cx := (bdOf P w K mg base N_law_refused "_law_refused" s_law_refused f cdv A outer s F0 H0 E).X.suite a ((a, oe) :: pn)
/-- isinstance(e, c), c a name of the top -/
theorem rf_is {x : Str} {v : V} {u : Value} {b : Bool} {p1 p2 p3 p4 : Pos} {Q : VK} (T : Tx K mg C Cp) (U : Te K mg cU cE cB cM cA) (hz : Zc (.ref cU) (some dd) oe) (hf : ∃ vs, oe.data = .fields vs) (he : σ[2]? = some (some (.ref a))) (hd : H dd = some (.xd (exF y)))
    (hn : PE (rfX P w K mg base f cdv A outer s F0 H0 E a oe pn) (.Name x p3) (tC v)) (hv : ∀ u', RelV v u' → u' = u) (hk : PySem.W.kitOne K (.ref cU) u = some b) (q : Q (.bl b) H) :
    RE (rfX P w K mg base f cdv A outer s F0 H0 E a oe pn) (.Call (.Name "isinstance" p1) [.Name "e" p2, .Name x p3] [] p4) σ H Q :=
  re_of (pe_callB (call_isD (X := (bdOf P w K mg base N_law_refused "_law_refused" s_law_refused f cdv A outer s F0 H0 E).X) U.E hz hf) (by rfl) T.isi (by decide +kernel) (pa_cons (pe_var (i := 2) rfl (.inl rfl)) (pa_cons hn pa_nil (starEach_ns rfl)) (starEach_ns rfl)) (he := starEach_ns rfl) (hpl := by rw [starEach_ns rfl]; rfl))
    ⟨.ref a, he, _, u, b, _, rfl, hv, hk, hd, q⟩
theorem iteF {c : Bool} {A B : Prop} (h : c = false) (b : B) : if c = true then A else B := by
  rw [h, if_neg Bool.false_ne_true]
  exact b
theorem rt_val {X : Cx} {e : Expr} {σ : L2.St} {H : Hp} {Q : Bool → Hp → Prop} (h : RE X e σ H fun v H' => ∃ b, v = .bl b ∧ Q b H') (he : ∀ whole, isTrue e X.env whole = (do let v ← whole; standAt e.pos; holding [v] (truthy v)) := by intro _; rfl) : RT X e σ H Q := rt_of (pt_val pe_re he) h
theorem suite_ok (T : Tx K mg C Cp) (U : Te K mg cU cE cB cM cA) (hz : Zc (.ref cU) (some dd) oe) (hf : ∃ vs, oe.data = .fields vs) (he : σ[2]? = some (some (.ref a))) (ht : σ[1]? = some (some (.str y))) (hd : H dd = some (.xd (exF y))) {D : Ends} (q : ∀ H', Ex H H' → D.rt (.bl true) H') :
    RB (rfX P w K mg base f cdv A outer s F0 H0 E a oe pn) rfSuite D σ H := by
  show RB _ [.If (.BoolOp .Or [.UnaryOp .Not (.Call _ [_, _] [] _) _, .UnaryOp .Not (.Call _ [_, _] [] _) _] _) _ _ _, .If (.BoolOp .Or [.Call _ [_, _] [] _, .Call _ [_, _] [] _, .Call _ [_, _] [] _] _) _ _ _, .Return (some (.BoolOp .And [.Call _ [.Attribute _ _ _, _] [] _, .Compare (.Attribute _ _ _) _ _ _] _)) _] _ _ _
  refine rb_of (pss_cons ps_re pss_re) ?_
  refine rs_of (ps_if pt_re pss_re pss_re) ?_
  refine rt_of pw_rw.pt ?_
  refine rw_of (pw_or pt_re pw_rw) ?_
  refine rt_of (pt_not pt_re) ?_
  refine rt_val ?_
  refine rf_is T U hz hf he hd (pe_glob (v := .ref cU) (by rfl) U.gU rfl) (fun _ h => h) U.kU ⟨true, rfl, ?_⟩
  refine iteF rfl ?_
  refine rw_of (pw_or1 pt_re) ?_
  refine rt_of (pt_not pt_re) ?_
  refine rt_val ?_
  refine rf_is T U hz hf he hd (pe_bltn (v := .ty "ValueError") (by rfl) U.gV (by decide +kernel) rfl) (fun _ h => h) U.kV ⟨true, rfl, ?_⟩
  refine iteF rfl ?_
  refine rb_of pss_nil ?_
  refine rb_of (pss_cons ps_re pss_re) ?_
  refine rs_of (ps_if pt_re pss_re pss_re) ?_
  refine rt_of pw_rw.pt ?_
  refine rw_of (pw_or pt_re pw_rw) ?_
  refine rt_val ?_
  refine rf_is T U hz hf he hd (pe_glob (v := .ref cB) (by rfl) U.gB rfl) (fun _ h => h) U.kB ⟨false, rfl, ?_⟩
  refine iteF rfl ?_
  refine rw_of (pw_or pt_re pw_rw) ?_
  refine rt_val ?_
  refine rf_is T U hz hf he hd (pe_glob (v := .ref cM) (by rfl) U.gM rfl) (fun _ h => h) U.kM ⟨false, rfl, ?_⟩
  refine iteF rfl ?_
  refine rw_of (pw_or1 pt_re) ?_
  refine rt_val ?_
  refine rf_is T U hz hf he hd (pe_glob (v := .ref cA) (by rfl) U.gA rfl) (fun _ h => h) U.kA ⟨false, rfl, ?_⟩
  refine iteF rfl ?_
  refine rb_of pss_nil ?_
  refine rb_of (pss_cons ps_re pss_re) ?_
  refine rs_of (ps_ret pe_re) ?_
  have hxf : ∀ {e1 : Pos} {e2 : Pos}, PE (rfX P w K mg base f cdv A outer s F0 H0 E a oe pn) (.Attribute (.Name "e" e1) "name" e2) (tXf a (.ref cU) (some dd) cU "name" (tVar 2)) := fun {e1 e2} =>
    pe_xf (X := (bdOf P w K mg base N_law_refused "_law_refused" s_law_refused f cdv A outer s F0 H0 E).X) U.X U.hn hz hf (pe_var (i := 2) rfl (.inl rfl)) (hb := by rfl)
  have rxf : ∀ {Q : V → Hp → Prop}, Q (.str y) H → tXf a (.ref cU) (some dd) cU "name" (tVar 2) σ H Q := fun {Q} h => ⟨.ref a, he, rfl, rfl, dd, exF y, .str y, rfl, hd, rfl, h⟩
  refine re_of (pe_and pe_re pe_re) ?_
  refine re_of (pe_callB call_isi (by rfl) T.isi (by decide +kernel) (pa_cons hxf (pa_cons (pe_bltn (v := .ty "str") (by rfl) T.str (by decide +kernel) rfl) pa_nil (starEach_ns rfl)) (starEach_ns rfl)) (he := starEach_ns rfl) (hpl := by rw [starEach_ns rfl]; rfl)) ?_
  refine rxf ⟨.str y, .ty "str", _, _, true, rfl, .ty "str", tyx_rep (F := H) (.str y) (.refl H) rfl, kit_ty rfl, true, rfl, ?_⟩
  rw [if_pos rfl]
  refine re_of (pe_one pe_re) ?_
  refine re_of (pe_cmpR op_ro hxf (pe_var (i := 1) rfl (.inl rfl)) (nomark _)) ?_
  refine rxf ⟨.str y, ht, ?_⟩
  refine ro_mono ((wo_eqS (B := ⟨rfX P w K mg base f cdv A outer s F0 H0 E a oe pn, F0, H0⟩) (Φ := fun d => d = .bl true) (x := y) (y := y) (by rw [decide_eq_true rfl])).run H H (.str y) (.str y) (.refl H) (.str y) (.str y)) fun v H' ⟨F', d, g, r, e⟩ => ?_
  subst e
  cases r
  exact q H' g.h
end
end Cr
namespace Cr
open PySem PySem.Spec L2 Fw
section
variable {P : Program} {w : World} {K : PySem.W.Frag} {mg : Str → Option Value} {base : Heap} {C Cp cU cE cB cM cA : Addr} {k : Nat}
theorem ok_refused {f : Addr} {fd : FuncData} (D : Df K mg "_law_refused" s_law_refused f fd) (T : Tx K mg C Cp) (U : Te K mg cU cE cB cM cA) (G : OkX P w K mg base k "pace" ["custom", "office"] cU (xPlace C)) : Ok P w K mg base (k + 1) "_law_refused" ["_law_made", "_law_text"] (tRefused C) := by
  refine ok_def D sc_law_refused (fun ds Φ h => ?_) (fun _ _ _ _ _ _ us hl => match us, hl with | [_, _], _ => rfl) fun cdv A outer s F0 H0 E hr ds Φ h => ?_
  · obtain ⟨_, _, rfl, _⟩ := h
    rfl
  · obtain ⟨c, y, rfl, g, hy, q⟩ := h
    have nd := sc_law_refused.nd
    dsimp only [mkE]
    refine wb_cons (.mk fun F σ H A1 => ?_)
    refine rs_of (ps_try_as (Wout := fun _ _ _ _ => False) (i := 2) (n := "e") (x := "CraftError") (c := .ref cE) rfl rfl nd rfl rfl ⟨by rfl, by decide, .inl U.gE⟩ takes0
      (tb := fun W D σ H => ∀ pn xe, Takes ((bdOf P w K mg base N_law_refused "_law_refused" s_law_refused f cdv A outer s F0 H0 E).X.tr pn xe) W → RB ((bdOf P w K mg base N_law_refused "_law_refused" s_law_refused f cdv A outer s F0 H0 E).X.tr pn xe) rfBody D σ H)
      (ts := fun a cls d D σ H => ∀ oe pn, Zc cls d oe → (∃ vs, oe.data = .fields vs) → RB (rfX P w K mg base f cdv A outer s F0 H0 E a oe pn) rfSuite D σ H)
      (fun W pn xe tk _ => ⟨fun pins s σ H D I h => h pn xe tk pins s I⟩) (fun a oe cls d pn hz hf => ⟨fun pins s σ H D I h => h oe pn hz hf pins s I⟩)) ?_
    intro pn xe tk
    have A2 : At ⟨(bdOf P w K mg base N_law_refused "_law_refused" s_law_refused f cdv A outer s F0 H0 E).X.tr pn xe, F0, H0⟩ F σ H _ := ⟨A1.names, A1.len, A1.g, A1.ok, A1.apart⟩
    have ho : Out ⟨(bdOf P w K mg base N_law_refused "_law_refused" s_law_refused f cdv A outer s F0 H0 E).X.tr pn xe, F0, H0⟩ cU y (fun e => e = ([("_law_made", .dat (c.dat C)), ("_law_text", .dat (.str y)), ("e", .un)] : Env')) := by
      refine ⟨_, tk, fun F' σ' H' d env' e A3 hd => ⟨true, U.ex, fun _ a ha oe pn hz hf => ?_, fun h => nomatch h⟩⟩
      subst e
      have hl : σ'.length = 3 := A3.len
      have ht : σ'[1]? = some (some (.str y)) := by
        obtain ⟨o, ho, v, e, r⟩ := A3.ok 1 "_law_text" (.dat (.str y)) rfl
        subst e
        cases r
        exact ho
      refine suite_ok T U hz hf (by rw [List.getElem?_set_self (by omega)]) (by rw [List.getElem?_set_ne (by decide)]; exact ht) hd fun H'' ex => ?_
      exact ⟨F', .bl true, A3.g.trans ⟨.refl _, A3.ex.trans ex, ex, fun a o h n => by rw [h] at n; cases n⟩, .bl true, q⟩
    have W1 : WB ⟨(bdOf P w K mg base N_law_refused "_law_refused" s_law_refused f cdv A outer s F0 H0 E).X.tr pn xe, F0, H0⟩ rfBody ([("_law_made", .dat (c.dat C)), ("_law_text", .dat (.str y)), ("e", .un)] : Env') { nx := fun _ => False, rt := fun _ => False } := by
      refine wb_cons (ws_expr (we_callX G hr ho rfl ?_))
      walk_at "X"
      exact ⟨c, rfl, g, hy⟩
    exact rb_mono (W1.run F σ H A2) (fun σ' H' ⟨F', env', _, A', h⟩ => h.elim) (fun v H' ⟨F', d, g, r, h⟩ => h.elim) (fun _ _ ⟨_, _, _, _, z⟩ => z.elim) fun _ _ ⟨_, _, _, _, z⟩ => z.elim
end
end Cr
set_option maxHeartbeats 0
namespace Cr
open PySem PySem.Spec PyProof.Rows L2 Fw
theorem cisB_ok {K : PySem.W.Frag} {C : Addr} (c : Cls K C) (h : cisB K C = true) : CIs K C := by
  obtain ⟨h1, h⟩ := He.ba h
  obtain ⟨h2, h⟩ := He.ba h
  obtain ⟨h3, h⟩ := He.ba h
  obtain ⟨h4, h5⟩ := He.ba h
  exact ⟨c, (He.eqO_ok h1).symm, (He.eqO_ok h2).symm, (of_decide_eq_true h3).symm, (of_decide_eq_true h4).symm, of_decide_eq_true h5⟩
theorem law_ok {P : Program} {w : World} {K : PySem.W.Frag} {h : Heap} {mg : Str → Option Value} {f : Addr} (X : K.In h) (G : h.Ns mainGlobals mg) (hmg : mg ("law" : Str) = some (.ref f)) (ex : exU K = true) (c : He.SaysD fa fn K) :
    ∃ fd : FuncData, (∀ (s : Shared) (v : Value), BindsTo s fd ⟨[v], []⟩ [("_law_script", v)]) ∧ ∀ base : Heap, K.In base → base.Ns mainGlobals mg → FnOk P w K mg base CX0 11 f fd ["_law_script"] (spT K tLaw) := by
  unfold exU at ex
  obtain ⟨x1, ex⟩ := He.ba ex
  obtain ⟨x2, ex⟩ := He.ba ex
  obtain ⟨x3, ex⟩ := He.ba ex
  obtain ⟨x4, ex⟩ := He.ba ex
  obtain ⟨x5, ex⟩ := He.ba ex
  obtain ⟨x6, ex⟩ := He.ba ex
  obtain ⟨x7, x8⟩ := He.ba ex
  unfold kitA at x8
  obtain ⟨k1, x8⟩ := He.ba x8
  obtain ⟨k2, x8⟩ := He.ba x8
  obtain ⟨k3, x8⟩ := He.ba x8
  obtain ⟨k4, k5⟩ := He.ba x8
  obtain ⟨fd0, F0⟩ := c.def_ 0 (d := d_frozen) rfl
  have D_frozen : Df K mg "frozen" sfrozen (He.ga K "frozen") fd0 := ⟨He.glo_ok X G (c.fact 0 (f := .glo "frozen") rfl), F0⟩
  obtain ⟨fd1, F1⟩ := c.def_ 1 (d := d_is_office) rfl
  have D_is_office : Df K mg "is_office" sis_office (He.ga K "is_office") fd1 := ⟨He.glo_ok X G (c.fact 1 (f := .glo "is_office") rfl), F1⟩
  obtain ⟨fd2, F2⟩ := c.def_ 2 (d := d_check_offices) rfl
  have D_check_offices : Df K mg "check_offices" scheck_offices (He.ga K "check_offices") fd2 := ⟨He.glo_ok X G (c.fact 2 (f := .glo "check_offices") rfl), F2⟩
  obtain ⟨fd3, F3⟩ := c.def_ 3 (d := d_check_lessons) rfl
  have D_check_lessons : Df K mg "check_lessons" scheck_lessons (He.ga K "check_lessons") fd3 := ⟨He.glo_ok X G (c.fact 3 (f := .glo "check_lessons") rfl), F3⟩
  obtain ⟨fd4, F4⟩ := c.def_ 4 (d := d_check_known) rfl
  have D_check_known : Df K mg "check_known" scheck_known (He.ga K "check_known") fd4 := ⟨He.glo_ok X G (c.fact 4 (f := .glo "check_known") rfl), F4⟩
  obtain ⟨fd5, F5⟩ := c.def_ 5 (d := d_office_place) rfl
  have D_office_place : Df K mg "office_place" soffice_place (He.ga K "office_place") fd5 := ⟨He.glo_ok X G (c.fact 5 (f := .glo "office_place") rfl), F5⟩
  obtain ⟨fd6, F6⟩ := c.def_ 6 (d := d_reached_flags) rfl
  have D_reached_flags : Df K mg "reached_flags" sreached_flags (He.ga K "reached_flags") fd6 := ⟨He.glo_ok X G (c.fact 6 (f := .glo "reached_flags") rfl), F6⟩
  obtain ⟨fd7, F7⟩ := c.def_ 7 (d := d_useful_flags) rfl
  have D_useful_flags : Df K mg "useful_flags" suseful_flags (He.ga K "useful_flags") fd7 := ⟨He.glo_ok X G (c.fact 7 (f := .glo "useful_flags") rfl), F7⟩
  obtain ⟨fd8, F8⟩ := c.def_ 8 (d := d_useful_steps) rfl
  have D_useful_steps : Df K mg "useful_steps" suseful_steps (He.ga K "useful_steps") fd8 := ⟨He.glo_ok X G (c.fact 8 (f := .glo "useful_steps") rfl), F8⟩
  obtain ⟨fd9, F9⟩ := c.def_ 9 (d := d_closing_rings) rfl
  have D_closing_rings : Df K mg "closing_rings" sclosing_rings (He.ga K "closing_rings") fd9 := ⟨He.glo_ok X G (c.fact 9 (f := .glo "closing_rings") rfl), F9⟩
  obtain ⟨fd10, F10⟩ := c.def_ 10 (d := d_least_ring) rfl
  have D_least_ring : Df K mg "least_ring" sleast_ring (He.ga K "least_ring") fd10 := ⟨He.glo_ok X G (c.fact 10 (f := .glo "least_ring") rfl), F10⟩
  obtain ⟨fd11, F11⟩ := c.def_ 11 (d := d_least_potentials) rfl
  have D_least_potentials : Df K mg "least_potentials" sleast_potentials (He.ga K "least_potentials") fd11 := ⟨He.glo_ok X G (c.fact 11 (f := .glo "least_potentials") rfl), F11⟩
  obtain ⟨fd12, F12⟩ := c.def_ 12 (d := d_pace) rfl
  have D_pace : Df K mg "pace" space (He.ga K "pace") fd12 := ⟨He.glo_ok X G (c.fact 12 (f := .glo "pace") rfl), F12⟩
  obtain ⟨fd13, F13⟩ := c.def_ 13 (d := d_founding_row) rfl
  have D_founding_row : Df K mg "founding_row" sfounding_row (He.ga K "founding_row") fd13 := ⟨He.glo_ok X G (c.fact 13 (f := .glo "founding_row") rfl), F13⟩
  obtain ⟨fd14, F14⟩ := c.def_ 14 (d := d_lesser_length) rfl
  have D_lesser_length : Df K mg "lesser_length" slesser_length (He.ga K "lesser_length") fd14 := ⟨He.glo_ok X G (c.fact 14 (f := .glo "lesser_length") rfl), F14⟩
  obtain ⟨fd15, F15⟩ := c.def_ 15 (d := d_length_sum) rfl
  have D_length_sum : Df K mg "length_sum" slength_sum (He.ga K "length_sum") fd15 := ⟨He.glo_ok X G (c.fact 15 (f := .glo "length_sum") rfl), F15⟩
  obtain ⟨fd16, F16⟩ := c.def_ 16 (d := d_lesson_matrix) rfl
  have D_lesson_matrix : Df K mg "lesson_matrix" slesson_matrix (He.ga K "lesson_matrix") fd16 := ⟨He.glo_ok X G (c.fact 16 (f := .glo "lesson_matrix") rfl), F16⟩
  obtain ⟨fd17, F17⟩ := c.def_ 17 (d := d_row_by_matrix) rfl
  have D_row_by_matrix : Df K mg "row_by_matrix" srow_by_matrix (He.ga K "row_by_matrix") fd17 := ⟨He.glo_ok X G (c.fact 17 (f := .glo "row_by_matrix") rfl), F17⟩
  obtain ⟨fd18, F18⟩ := c.def_ 18 (d := d_depth_row) rfl
  have D_depth_row : Df K mg "depth_row" sdepth_row (He.ga K "depth_row") fd18 := ⟨He.glo_ok X G (c.fact 18 (f := .glo "depth_row") rfl), F18⟩
  obtain ⟨fd19, F19⟩ := c.def_ 19 (d := d__law_whole) rfl
  have D__law_whole : Df K mg "_law_whole" s_law_whole (He.ga K "_law_whole") fd19 := ⟨He.glo_ok X G (c.fact 19 (f := .glo "_law_whole") rfl), F19⟩
  obtain ⟨fd20, F20⟩ := c.def_ 20 (d := d__law_cell) rfl
  have D__law_cell : Df K mg "_law_cell" s_law_cell (He.ga K "_law_cell") fd20 := ⟨He.glo_ok X G (c.fact 20 (f := .glo "_law_cell") rfl), F20⟩
  obtain ⟨fd21, F21⟩ := c.def_ 21 (d := d__law_digits) rfl
  have D__law_digits : Df K mg "_law_digits" s_law_digits (He.ga K "_law_digits") fd21 := ⟨He.glo_ok X G (c.fact 21 (f := .glo "_law_digits") rfl), F21⟩
  obtain ⟨fd22, F22⟩ := c.def_ 22 (d := d__law_tuples) rfl
  have D__law_tuples : Df K mg "_law_tuples" s_law_tuples (He.ga K "_law_tuples") fd22 := ⟨He.glo_ok X G (c.fact 22 (f := .glo "_law_tuples") rfl), F22⟩
  obtain ⟨fd23, F23⟩ := c.def_ 23 (d := d__law_offices) rfl
  have D__law_offices : Df K mg "_law_offices" s_law_offices (He.ga K "_law_offices") fd23 := ⟨He.glo_ok X G (c.fact 23 (f := .glo "_law_offices") rfl), F23⟩
  obtain ⟨fd24, F24⟩ := c.def_ 24 (d := d__law_taught) rfl
  have D__law_taught : Df K mg "_law_taught" s_law_taught (He.ga K "_law_taught") fd24 := ⟨He.glo_ok X G (c.fact 24 (f := .glo "_law_taught") rfl), F24⟩
  obtain ⟨fd25, F25⟩ := c.def_ 25 (d := d__law_founded) rfl
  have D__law_founded : Df K mg "_law_founded" s_law_founded (He.ga K "_law_founded") fd25 := ⟨He.glo_ok X G (c.fact 25 (f := .glo "_law_founded") rfl), F25⟩
  obtain ⟨fd26, F26⟩ := c.def_ 26 (d := d__law_start) rfl
  have D__law_start : Df K mg "_law_start" s_law_start (He.ga K "_law_start") fd26 := ⟨He.glo_ok X G (c.fact 26 (f := .glo "_law_start") rfl), F26⟩
  obtain ⟨fd27, F27⟩ := c.def_ 27 (d := d__law_after) rfl
  have D__law_after : Df K mg "_law_after" s_law_after (He.ga K "_law_after") fd27 := ⟨He.glo_ok X G (c.fact 27 (f := .glo "_law_after") rfl), F27⟩
  obtain ⟨fd28, F28⟩ := c.def_ 28 (d := d__law_make) rfl
  have D__law_make : Df K mg "_law_make" s_law_make (He.ga K "_law_make") fd28 := ⟨He.glo_ok X G (c.fact 28 (f := .glo "_law_make") rfl), F28⟩
  obtain ⟨fd29, F29⟩ := c.def_ 29 (d := d__law_stranger) rfl
  have D__law_stranger : Df K mg "_law_stranger" s_law_stranger (He.ga K "_law_stranger") fd29 := ⟨He.glo_ok X G (c.fact 29 (f := .glo "_law_stranger") rfl), F29⟩
  obtain ⟨fd30, F30⟩ := c.def_ 30 (d := d__law_useful) rfl
  have D__law_useful : Df K mg "_law_useful" s_law_useful (He.ga K "_law_useful") fd30 := ⟨He.glo_ok X G (c.fact 30 (f := .glo "_law_useful") rfl), F30⟩
  obtain ⟨fd31, F31⟩ := c.def_ 31 (d := d__law_inner) rfl
  have D__law_inner : Df K mg "_law_inner" s_law_inner (He.ga K "_law_inner") fd31 := ⟨He.glo_ok X G (c.fact 31 (f := .glo "_law_inner") rfl), F31⟩
  obtain ⟨fd32, F32⟩ := c.def_ 32 (d := d__law_rings) rfl
  have D__law_rings : Df K mg "_law_rings" s_law_rings (He.ga K "_law_rings") fd32 := ⟨He.glo_ok X G (c.fact 32 (f := .glo "_law_rings") rfl), F32⟩
  obtain ⟨fd33, F33⟩ := c.def_ 33 (d := d__law_least) rfl
  have D__law_least : Df K mg "_law_least" s_law_least (He.ga K "_law_least") fd33 := ⟨He.glo_ok X G (c.fact 33 (f := .glo "_law_least") rfl), F33⟩
  obtain ⟨fd34, F34⟩ := c.def_ 34 (d := d__law_divisor) rfl
  have D__law_divisor : Df K mg "_law_divisor" s_law_divisor (He.ga K "_law_divisor") fd34 := ⟨He.glo_ok X G (c.fact 34 (f := .glo "_law_divisor") rfl), F34⟩
  obtain ⟨fd35, F35⟩ := c.def_ 35 (d := d__law_ring_sum) rfl
  have D__law_ring_sum : Df K mg "_law_ring_sum" s_law_ring_sum (He.ga K "_law_ring_sum") fd35 := ⟨He.glo_ok X G (c.fact 35 (f := .glo "_law_ring_sum") rfl), F35⟩
  obtain ⟨fd36, F36⟩ := c.def_ 36 (d := d__law_potentials) rfl
  have D__law_potentials : Df K mg "_law_potentials" s_law_potentials (He.ga K "_law_potentials") fd36 := ⟨He.glo_ok X G (c.fact 36 (f := .glo "_law_potentials") rfl), F36⟩
  obtain ⟨fd37, F37⟩ := c.def_ 37 (d := d__law_right) rfl
  have D__law_right : Df K mg "_law_right" s_law_right (He.ga K "_law_right") fd37 := ⟨He.glo_ok X G (c.fact 37 (f := .glo "_law_right") rfl), F37⟩
  obtain ⟨fd38, F38⟩ := c.def_ 38 (d := d__law_low) rfl
  have D__law_low : Df K mg "_law_low" s_law_low (He.ga K "_law_low") fd38 := ⟨He.glo_ok X G (c.fact 38 (f := .glo "_law_low") rfl), F38⟩
  obtain ⟨fd39, F39⟩ := c.def_ 39 (d := d__law_way_to) rfl
  have D__law_way_to : Df K mg "_law_way_to" s_law_way_to (He.ga K "_law_way_to") fd39 := ⟨He.glo_ok X G (c.fact 39 (f := .glo "_law_way_to") rfl), F39⟩
  obtain ⟨fd40, F40⟩ := c.def_ 40 (d := d__law_high) rfl
  have D__law_high : Df K mg "_law_high" s_law_high (He.ga K "_law_high") fd40 := ⟨He.glo_ok X G (c.fact 40 (f := .glo "_law_high") rfl), F40⟩
  obtain ⟨fd41, F41⟩ := c.def_ 41 (d := d__law_asked) rfl
  have D__law_asked : Df K mg "_law_asked" s_law_asked (He.ga K "_law_asked") fd41 := ⟨He.glo_ok X G (c.fact 41 (f := .glo "_law_asked") rfl), F41⟩
  obtain ⟨fd42, F42⟩ := c.def_ 42 (d := d__law_refused) rfl
  have D__law_refused : Df K mg "_law_refused" s_law_refused (He.ga K "_law_refused") fd42 := ⟨He.glo_ok X G (c.fact 42 (f := .glo "_law_refused") rfl), F42⟩
  obtain ⟨fd43, F43⟩ := c.def_ 43 (d := d__law_stays) rfl
  have D__law_stays : Df K mg "_law_stays" s_law_stays (He.ga K "_law_stays") fd43 := ⟨He.glo_ok X G (c.fact 43 (f := .glo "_law_stays") rfl), F43⟩
  obtain ⟨fd44, F44⟩ := c.def_ 44 (d := d_law) rfl
  have D_law : Df K mg "law" slaw (He.ga K "law") fd44 := ⟨He.glo_ok X G (c.fact 44 (f := .glo "law") rfl), F44⟩
  obtain ⟨fdCustom, FCustom⟩ := c.def_ 45 (d := di_Custom) rfl
  obtain ⟨fdPace, FPace⟩ := c.def_ 46 (d := di_Pace) rfl
  obtain ⟨fdUnknownOffice, FUnknownOffice⟩ := c.def_ 47 (d := di_UnknownOffice) rfl
  have cP : Cls K (He.ga K "Pace") := He.cls_ok (c.fact 70 (f := .cls "Pace") rfl)
  have T : Tx K mg (He.ga K "Custom") (He.ga K "Pace") := by
    refine ⟨He.free_ok X G (c.fact 52 (f := .free "len") rfl), He.free_ok X G (c.fact 53 (f := .free "list") rfl), He.free_ok X G (c.fact 54 (f := .free "tuple") rfl), He.free_ok X G (c.fact 55 (f := .free "range") rfl), He.free_ok X G (c.fact 56 (f := .free "int") rfl), He.free_ok X G (c.fact 57 (f := .free "min") rfl), He.free_ok X G (c.fact 58 (f := .free "max") rfl), He.free_ok X G (c.fact 59 (f := .free "all") rfl), He.free_ok X G (c.fact 60 (f := .free "sorted") rfl), He.free_ok X G (c.fact 61 (f := .free "isinstance") rfl), He.free_ok X G (c.fact 62 (f := .free "bool") rfl), He.free_ok X G (c.fact 63 (f := .free "str") rfl), He.free_ok X G (c.fact 64 (f := .free "enumerate") rfl), PySem.W.mg_of X G (He.eqO_ok x1), He.str_ok X G (c.fact 66 (f := .str "LETTERS" "abcdefghijklmnopqrstuvwxyz") rfl), He.int_ok X G (c.fact 67 (f := .int "MOST_LETTERS" 4) rfl), He.int_ok X G (c.fact 68 (f := .int "MOST_BOUND" 99) rfl), He.glo_ok X G (c.fact 45 (f := .glo "Custom") rfl), He.glo_ok X G (c.fact 46 (f := .glo "Pace") rfl), He.cls_ok (c.fact 69 (f := .cls "Custom") rfl), cP, ?_, ?_, cisB_ok cP x2⟩
    · intro f hf
      simp only [List.mem_cons, List.not_mem_nil, or_false] at hf
      rcases hf with rfl | rfl | rfl | rfl | rfl
      · exact He.noat_ok (c.fact 73 (f := .noat "Custom" "offices") rfl)
      · exact He.noat_ok (c.fact 74 (f := .noat "Custom" "teachings") rfl)
      · exact He.noat_ok (c.fact 75 (f := .noat "Custom" "founding") rfl)
      · exact He.noat_ok (c.fact 76 (f := .noat "Custom" "ordered") rfl)
      · exact He.noat_ok (c.fact 77 (f := .noat "Custom" "steps") rfl)
    · intro f hf
      simp only [List.mem_cons, List.not_mem_nil, or_false] at hf
      rcases hf with rfl | rfl | rfl | rfl
      · exact He.noat_ok (c.fact 78 (f := .noat "Pace" "top") rfl)
      · exact He.noat_ok (c.fact 79 (f := .noat "Pace" "bottom") rfl)
      · exact He.noat_ok (c.fact 80 (f := .noat "Pace" "ring") rfl)
      · exact He.noat_ok (c.fact 81 (f := .noat "Pace" "potentials") rfl)
  have hx : OexC K (gU K) := oexA_ok x3
  have hnm : PySem.W.findIn K (.ref (gU K)) "name" = some none := He.noat_ok (c.fact 82 (f := .noat "UnknownOffice" "name") rfl)
  have bI : Binds K fdUnknownOffice ["self", "name"] [] := FUnknownOffice.bindsN fun _ _ _ _ _ _ us hl => match us, hl with | [_, _], _ => rfl
  have Te1 : Te K mg (gU K) (He.ga K "CraftError") (He.ga K "BadOffice") (He.ga K "UnknownMaster") (He.ga K "UnknownAge") :=
    ⟨excA_ok x4, xfB_ok x5, hnm, He.glo_ok X G (c.fact 47 (f := .glo "UnknownOffice") rfl), He.glo_ok X G (c.fact 48 (f := .glo "CraftError") rfl), He.glo_ok X G (c.fact 49 (f := .glo "BadOffice") rfl), He.glo_ok X G (c.fact 50 (f := .glo "UnknownMaster") rfl), He.glo_ok X G (c.fact 51 (f := .glo "UnknownAge") rfl), He.free_ok X G (c.fact 65 (f := .free "ValueError") rfl), He.exm_ok (c.fact 83 (f := .exm "UnknownOffice" "CraftError" true) rfl), of_decide_eq_true k1, of_decide_eq_true k2, of_decide_eq_true k3, of_decide_eq_true k4, of_decide_eq_true k5⟩
  have mC : Mk K (He.ga K "Custom") (He.ma K (He.ga K "Custom") "__init__") := He.mkr_ok (c.fact 71 (f := .mkr "Custom") rfl)
  have mP : Mk K (He.ga K "Pace") (He.ma K (He.ga K "Pace") "__init__") := He.mkr_ok (c.fact 72 (f := .mkr "Pace") rfl)
  have eL := hmg.symm.trans D_law.at_
  cases eL
  have bL := FunD.bindsA (ps := ["_law_script"]) D_law.fn fun _ _ _ _ _ _ us hl => match us, hl with | [_], _ => rfl
  refine ⟨_, fun s v => bL s [v] rfl, fun base _ _ => ?_⟩
  have U : Tu P w K mg base (gU K) (He.ma K (gU K) "__init__") fdUnknownOffice := ⟨He.glo_ok X G (c.fact 47 (f := .glo "UnknownOffice") rfl), hx, He.eqO_ok x6, of_decide_eq_true x7, ok_xinit (k := 0) hx hnm FUnknownOffice icUnknownOffice, bI⟩
  have o_reached := ok_reached (P := P) (w := w) (base := base) D_reached_flags T
  have o_useful := ok_useful (k := 1) D_useful_flags T o_reached
  have o_steps := ok_steps (P := P) (w := w) (base := base) (k := 0) D_useful_steps T
  have o_closing : ∀ n, n ≤ 6 → Ok P w K mg base 7 "closing_rings" ["steps", "path", "total"] (tClosing n n) := fun n hn => (ok_closing n D_closing_rings T n).mono (by omega)
  have o_least := ok_least (k := 7) D_least_ring T (o_steps.mono (by omega)) o_closing
  have o_pots := ok_pots (k := 1) D_least_potentials T o_steps
  have o_known := ok_known (P := P) (w := w) (base := base) (k := 0) D_check_known T
  have o_place := ok_place (k := 1) D_office_place T o_known
  have o_pinit : ∀ j, OkI P w K mg base (j + 1) "Pace" (He.ga K "Pace") ["self", "top", "bottom", "ring", "potentials"] tPaceI := fun j => ok_pinit mP FPace T
  have o_pace := ok_pace (k := 8) D_pace T (o_place.mono (by omega)) (o_useful.mono (by omega)) o_least (o_pots.mono (by omega)) o_pinit (by omega)
  have o_paceK := okK_pace (k := 8) D_pace T (o_place.mono (by omega)) (o_useful.mono (by omega)) o_least (o_pots.mono (by omega)) o_pinit (by omega)
  have x_known := okX_known (k := 0) D_check_known U
  have x_place := okX_place (k := 3) D_office_place T x_known
  have x_pace := okX_pace (k := 4) D_pace T x_place (o_useful.mono (by omega))
  have o_refused := ok_refused (k := 5) D__law_refused T Te1 x_pace
  have o_row0 := ok_row0 (P := P) (w := w) (base := base) (k := 0) D_founding_row T
  have o_lesser := ok_lesser (P := P) (w := w) (base := base) (k := 0) D_lesser_length T
  have o_lsum := ok_lsum (P := P) (w := w) (base := base) (k := 0) D_length_sum T
  have o_rowmat := ok_rowmat (k := 1) D_row_by_matrix T o_lesser o_lsum
  have o_matrix := ok_matrix (P := P) (w := w) (base := base) (k := 0) D_lesson_matrix T
  have o_depth := ok_depth (k := 2) D_depth_row T (o_row0.mono (by omega)) (o_matrix.mono (by omega)) o_rowmat
  have o_frozen := ok_frozen (P := P) (w := w) (base := base) D_frozen T 2
  have o_isoff := ok_isoff (P := P) (w := w) (base := base) (k := 0) D_is_office T
  have o_chkoff := ok_chkoff (k := 1) D_check_offices T o_isoff
  have o_chkles := ok_chkles (k := 1) D_check_lessons T o_known
  have o_cinit := ok_cinit (k := 3) mC FCustom T o_frozen (o_chkoff.mono (by omega)) (o_chkles.mono (by omega)) (o_known.mono (by omega))
  have o_make := ok_make (k := 3) D__law_make T o_cinit
  have o_whole := ok_whole (P := P) (w := w) (base := base) (k := 0) D__law_whole T
  have o_cell := ok_cell (P := P) (w := w) (base := base) (k := 0) D__law_cell T
  have o_digits := ok_digits (P := P) (w := w) (base := base) (k := 0) D__law_digits T
  have o_tuples := ok_tuples (P := P) (w := w) (base := base) D__law_tuples T 2
  have o_offices := ok_offices (k := 1) D__law_offices T o_cell o_digits
  have o_taught := ok_taught (k := 1) D__law_taught T o_cell o_digits
  have o_founded := ok_founded (k := 1) D__law_founded T o_cell o_digits
  have o_start := ok_start (P := P) (w := w) (base := base) (k := 0) D__law_start T
  have o_after := ok_after (P := P) (w := w) (base := base) (k := 0) D__law_after T
  have o_usefulL := ok_usefulL (P := P) (w := w) (base := base) (k := 0) D__law_useful T
  have o_inner := ok_inner (P := P) (w := w) (base := base) (k := 0) D__law_inner T
  have o_ringsL := ok_ringsL (P := P) (w := w) (base := base) (k := 0) D__law_rings T
  have o_leastL := ok_leastL (P := P) (w := w) (base := base) (k := 0) D__law_least T
  have o_divisor := ok_divisor (P := P) (w := w) (base := base) (k := 0) D__law_divisor T
  have o_ringSum := ok_ringSum (k := 1) D__law_ring_sum T o_inner
  have o_potsL := ok_potsL (k := 1) D__law_potentials T o_inner o_whole
  have o_right := ok_right (k := 3) D__law_right T o_tuples (o_whole.mono (by omega)) (o_divisor.mono (by omega)) (o_ringSum.mono (by omega)) (o_potsL.mono (by omega))
  have o_low := ok_low (k := 3) (Cp := He.ga K "Pace") D__law_low T o_depth
  have o_wayTo := ok_wayTo (k := 1) D__law_way_to T o_after
  have o_high := ok_high (k := 4) D__law_high T (o_wayTo.mono (by omega)) (o_start.mono (by omega)) (o_depth.mono (by omega)) (o_whole.mono (by omega)) o_low
  have o_asked := ok_asked (k := 9) D__law_asked T (o_usefulL.mono (by omega)) (o_leastL.mono (by omega)) (o_ringsL.mono (by omega)) (o_inner.mono (by omega)) o_pace o_paceK (o_depth.mono (by omega)) (o_right.mono (by omega)) (o_low.mono (by omega)) (o_make.mono (by omega)) (o_high.mono (by omega))
  have o_stays := ok_stays (P := P) (w := w) (base := base) (k := 0) D__law_stays T
  have o_stranger := ok_stranger (k := 1) D__law_stranger T o_cell o_digits
  have o_law := ok_law (k := 10) D_law T (o_cell.mono (by omega)) (o_digits.mono (by omega)) (o_offices.mono (by omega)) (o_taught.mono (by omega)) (o_founded.mono (by omega)) (o_make.mono (by omega)) o_asked (o_stranger.mono (by omega)) (o_refused.mono (by omega)) (o_stays.mono (by omega))
  exact o_law
end Cr
open PySem PySem.W PySem.Calls PyProof.Rows
theorem PySem.Challenge.cw_craftlines_k80_pace_whole_holds : PySem.Challenge.rw_craftlines_k80_pace_whole.Holds := by
  w_on; o_law
  refine HandSHeadRun.head_imp (r := OpenLaw.row PySem.Challenge.rw_craftlines_k80_pace_whole) (q := view (OpenLaw.row PySem.Challenge.rw_craftlines_k80_pace_whole).prog [0, 63]) (H := Cr.hk) (ob := Cr.ob) (M := 4000) (loose := Cr.loose) (d := HandSHeadRun.topDef (OpenLaw.row PySem.Challenge.rw_craftlines_k80_pace_whole).prog 63) (kwd := []) Cr.ob_eq
    Cr.run (by kernel_rfl) (by kernel_rfl) (by kernel_rfl) (by rfl) (by first | assumption | decide +kernel) (by decide +kernel) ⟨rfl, rfl, rfl, rfl, rfl, by decide +kernel⟩ ?hw ?hc
  case hw => w_witness2
  case hc =>
    refine L2.walk_ofE (l := PySem.Challenge.rw_craftlines_k80_pace_whole) (n := 63) (k := 11) (x := "_law_script") (CX := L2.CX0) rfl (by decide) (by kernel_rfl) ⟨rfl, by decide, by decide⟩ ?F (fun _ _ _ _ z => z)
    intro w mg fa h Y G hmg0
    obtain ⟨K, KX, ex, c⟩ := Y
    have hmg : mg ("law" : PySem.Str) = some (.ref fa) := by
      have e : (HandSHeadRun.topDef (OpenLaw.row PySem.Challenge.rw_craftlines_k80_pace_whole).prog 63).name = ("law" : PySem.Str) := by kernel_rfl
      rw [← e]
      exact hmg0
    obtain ⟨fd, hb, hF⟩ := Cr.law_ok (P := PySem.Challenge.rw_craftlines_k80_pace_whole.prog) (w := w) KX G hmg ex c
    refine ⟨K, fd, Fw.spT K Cr.tLaw, KX, hb, fun H a ns hl _ hS => ⟨H, [.scr ns], fun d => d = .bl true, .refl H, .cons (.scr hS) .nil, ⟨ns, rfl, rfl⟩, fun v H' F' d g r e => ?_⟩, hF⟩
    subst e
    cases r
    rfl
