import PyProof.Rows.All
import Wide.All
import OpenK.AllK
import Wide.FinOn
import KE.KStateDown
import Lean
import HandS.ForMost
import HandS.Defaults
import HandS.ClsMeth
import HandS.Codes
import HandS.Walk
import HandS.FStr
import HandS.IsInst
import HandS.OwnEq
import HandS.Head0
import HandS.Head1
import HandS.Head2
import HandS.HeadEnd
import HandS.HeadHook1
import HandS.HeadHook2
import HandS.HeadHook3
import HandS.HeadNt
import KE.GoesMore
import KE.GoesEnum
import HandS.Strs
import HandS.Steps
import PySem.Challenge.RW_downpass_k02_whole_worlds_read_back
set_option Elab.async false
set_option linter.all false
set_option maxRecDepth 100000
set_option maxHeartbeats 4000000
namespace Dp
open PySem PySem.Spec PyProof.Rows L2
def top (i : Nat) : Stmt := PySem.Challenge.pw_downpass_k02_whole_worlds_read_back.main.body.getD i (.Pass ⟨0, 0, 0, 0⟩)
abbrev s_TextFault_init : Stmt := inClass (top 2) 0
abbrev s_is_number : Stmt := top 8
abbrev s_is_name : Stmt := top 9
abbrev s_Line_init : Stmt := inClass (top 10) 0
abbrev s_Line_fail : Stmt := inClass (top 10) 1
abbrev s_Line_at_end : Stmt := inClass (top 10) 2
abbrev s_Line_peek : Stmt := inClass (top 10) 3
abbrev s_Line_skip : Stmt := inClass (top 10) 4
abbrev s_Line_expect : Stmt := inClass (top 10) 5
abbrev s_Line_take_number : Stmt := inClass (top 10) 6
abbrev s_Line_take_field : Stmt := inClass (top 10) 7
abbrev s_Line_take_new : Stmt := inClass (top 10) 8
abbrev s_Line_take_known : Stmt := inClass (top 10) 9
abbrev s_Line_finish : Stmt := inClass (top 10) 10
abbrev s_lines_of : Stmt := top 11
abbrev s_Satellite_init : Stmt := inClass (top 14) 0
abbrev s_Satellite_line : Stmt := inClass (top 14) 1
abbrev s_Station_init : Stmt := inClass (top 15) 0
abbrev s_Station_line : Stmt := inClass (top 15) 1
abbrev s_Recording_init : Stmt := inClass (top 16) 0
abbrev s_Recording_line : Stmt := inClass (top 16) 1
abbrev s_Pass_init : Stmt := inClass (top 17) 0
abbrev s_Pass_line : Stmt := inClass (top 17) 1
abbrev s_names_of : Stmt := top 18
abbrev s_Draft_init : Stmt := inClass (top 19) 0
abbrev s_World_init : Stmt := inClass (top 20) 6
abbrev s_World_eq : Stmt := inClass (top 20) 7
abbrev s_World_parse : Stmt := inClass (top 20) 8
abbrev s_read_line : Stmt := top 22
abbrev s_read_satellite : Stmt := top 23
abbrev s_read_recording : Stmt := top 24
abbrev s_read_pass : Stmt := top 25
abbrev s_world_text : Stmt := top 26
abbrev s_found_options : Stmt := top 27
abbrev s_law_cell : Stmt := top 29
abbrev s_law_draws : Stmt := top 30
abbrev s_law_stream : Stmt := top 31
abbrev s_law_next : Stmt := top 32
abbrev s_law_word : Stmt := top 33
abbrev s_law_satellite : Stmt := top 34
abbrev s_law_recording : Stmt := top 35
abbrev s_law_pass : Stmt := top 36
abbrev s_law_world : Stmt := top 37
abbrev s_law_lines : Stmt := top 38
abbrev s_law_text : Stmt := top 39
abbrev s_law_is_integer : Stmt := top 40
abbrev s_law_same : Stmt := top 41
abbrev s_law_greater : Stmt := top 42
abbrev s_law : Stmt := top 43
def d_is_number : He5.DefA := { at_ := fun K => He.ga K "is_number", name := "is_number", qual := "is_number", params := defArgs s_is_number, body := defBody s_is_number, scope := defScope s_is_number }
def d_is_name : He5.DefA := { at_ := fun K => He.ga K "is_name", name := "is_name", qual := "is_name", params := defArgs s_is_name, body := defBody s_is_name, scope := defScope s_is_name }
def d_Line_init : He5.DefA := { at_ := fun K => He.ma K (He.ga K "Line") "__init__", name := "__init__", qual := "Line.__init__", params := defArgs s_Line_init, body := defBody s_Line_init, scope := defScope s_Line_init }
def d_Line_at_end : He5.DefA := { at_ := fun K => He.ma K (He.ga K "Line") "at_end", name := "at_end", qual := "Line.at_end", params := defArgs s_Line_at_end, body := defBody s_Line_at_end, scope := defScope s_Line_at_end }
def d_Line_peek : He5.DefA := { at_ := fun K => He.ma K (He.ga K "Line") "peek", name := "peek", qual := "Line.peek", params := defArgs s_Line_peek, body := defBody s_Line_peek, scope := defScope s_Line_peek }
def d_Line_skip : He5.DefA := { at_ := fun K => He.ma K (He.ga K "Line") "skip", name := "skip", qual := "Line.skip", params := defArgs s_Line_skip, body := defBody s_Line_skip, scope := defScope s_Line_skip }
def d_Line_expect : He5.DefA := { at_ := fun K => He.ma K (He.ga K "Line") "expect", name := "expect", qual := "Line.expect", params := defArgs s_Line_expect, body := defBody s_Line_expect, scope := defScope s_Line_expect }
def d_Line_take_number : He5.DefA := { at_ := fun K => He.ma K (He.ga K "Line") "take_number", name := "take_number", qual := "Line.take_number", params := defArgs s_Line_take_number, body := defBody s_Line_take_number, scope := defScope s_Line_take_number }
def d_Line_take_field : He5.DefA := { at_ := fun K => He.ma K (He.ga K "Line") "take_field", name := "take_field", qual := "Line.take_field", params := defArgs s_Line_take_field, body := defBody s_Line_take_field, scope := defScope s_Line_take_field }
def d_Line_take_new : He5.DefA := { at_ := fun K => He.ma K (He.ga K "Line") "take_new", name := "take_new", qual := "Line.take_new", params := defArgs s_Line_take_new, body := defBody s_Line_take_new, scope := defScope s_Line_take_new }
def d_Line_take_known : He5.DefA := { at_ := fun K => He.ma K (He.ga K "Line") "take_known", name := "take_known", qual := "Line.take_known", params := defArgs s_Line_take_known, body := defBody s_Line_take_known, scope := defScope s_Line_take_known, dfl := [.int 0] }
def d_Line_finish : He5.DefA := { at_ := fun K => He.ma K (He.ga K "Line") "finish", name := "finish", qual := "Line.finish", params := defArgs s_Line_finish, body := defBody s_Line_finish, scope := defScope s_Line_finish }
def d_lines_of : He5.DefA := { at_ := fun K => He.ga K "lines_of", name := "lines_of", qual := "lines_of", params := defArgs s_lines_of, body := defBody s_lines_of, scope := defScope s_lines_of }
def d_Satellite_init : He5.DefA := { at_ := fun K => He.ma K (He.ga K "Satellite") "__init__", name := "__init__", qual := "Satellite.__init__", params := defArgs s_Satellite_init, body := defBody s_Satellite_init, scope := defScope s_Satellite_init }
def d_Satellite_line : He5.DefA := { at_ := fun K => He.ma K (He.ga K "Satellite") "line", name := "line", qual := "Satellite.line", params := defArgs s_Satellite_line, body := defBody s_Satellite_line, scope := defScope s_Satellite_line }
def d_Station_init : He5.DefA := { at_ := fun K => He.ma K (He.ga K "Station") "__init__", name := "__init__", qual := "Station.__init__", params := defArgs s_Station_init, body := defBody s_Station_init, scope := defScope s_Station_init }
def d_Station_line : He5.DefA := { at_ := fun K => He.ma K (He.ga K "Station") "line", name := "line", qual := "Station.line", params := defArgs s_Station_line, body := defBody s_Station_line, scope := defScope s_Station_line }
def d_Recording_init : He5.DefA := { at_ := fun K => He.ma K (He.ga K "Recording") "__init__", name := "__init__", qual := "Recording.__init__", params := defArgs s_Recording_init, body := defBody s_Recording_init, scope := defScope s_Recording_init }
def d_Recording_line : He5.DefA := { at_ := fun K => He.ma K (He.ga K "Recording") "line", name := "line", qual := "Recording.line", params := defArgs s_Recording_line, body := defBody s_Recording_line, scope := defScope s_Recording_line }
def d_Pass_init : He5.DefA := { at_ := fun K => He.ma K (He.ga K "Pass") "__init__", name := "__init__", qual := "Pass.__init__", params := defArgs s_Pass_init, body := defBody s_Pass_init, scope := defScope s_Pass_init }
def d_Pass_line : He5.DefA := { at_ := fun K => He.ma K (He.ga K "Pass") "line", name := "line", qual := "Pass.line", params := defArgs s_Pass_line, body := defBody s_Pass_line, scope := defScope s_Pass_line }
def d_names_of : He5.DefA := { at_ := fun K => He.ga K "names_of", name := "names_of", qual := "names_of", params := defArgs s_names_of, body := defBody s_names_of, scope := defScope s_names_of }
def d_Draft_init : He5.DefA := { at_ := fun K => He.ma K (He.ga K "Draft") "__init__", name := "__init__", qual := "Draft.__init__", params := defArgs s_Draft_init, body := defBody s_Draft_init, scope := defScope s_Draft_init }
def d_World_init : He5.DefA := { at_ := fun K => He.ma K (He.ga K "World") "__init__", name := "__init__", qual := "World.__init__", params := defArgs s_World_init, body := defBody s_World_init, scope := defScope s_World_init }
def d_World_eq : He5.DefA := { at_ := fun K => He.ma K (He.ga K "World") "__eq__", name := "__eq__", qual := "World.__eq__", params := defArgs s_World_eq, body := defBody s_World_eq, scope := defScope s_World_eq }
def d_World_parse : He5.DefA := { at_ := fun K => He5.wf K (He.ga K "World") "staticmethod" "parse", name := "parse", qual := "World.parse", params := defArgs s_World_parse, body := defBody s_World_parse, scope := defScope s_World_parse }
def d_read_line : He5.DefA := { at_ := fun K => He.ga K "read_line", name := "read_line", qual := "read_line", params := defArgs s_read_line, body := defBody s_read_line, scope := defScope s_read_line }
def d_read_satellite : He5.DefA := { at_ := fun K => He.ga K "read_satellite", name := "read_satellite", qual := "read_satellite", params := defArgs s_read_satellite, body := defBody s_read_satellite, scope := defScope s_read_satellite }
def d_read_recording : He5.DefA := { at_ := fun K => He.ga K "read_recording", name := "read_recording", qual := "read_recording", params := defArgs s_read_recording, body := defBody s_read_recording, scope := defScope s_read_recording }
def d_read_pass : He5.DefA := { at_ := fun K => He.ga K "read_pass", name := "read_pass", qual := "read_pass", params := defArgs s_read_pass, body := defBody s_read_pass, scope := defScope s_read_pass }
def d_world_text : He5.DefA := { at_ := fun K => He.ga K "world_text", name := "world_text", qual := "world_text", params := defArgs s_world_text, body := defBody s_world_text, scope := defScope s_world_text }
def d_found_options : He5.DefA := { at_ := fun K => He.ga K "found_options", name := "found_options", qual := "found_options", params := defArgs s_found_options, body := defBody s_found_options, scope := defScope s_found_options }
def d_law_cell : He5.DefA := { at_ := fun K => He.ga K "_law_cell", name := "_law_cell", qual := "_law_cell", params := defArgs s_law_cell, body := defBody s_law_cell, scope := defScope s_law_cell }
def d_law_draws : He5.DefA := { at_ := fun K => He.ga K "_law_draws", name := "_law_draws", qual := "_law_draws", params := defArgs s_law_draws, body := defBody s_law_draws, scope := defScope s_law_draws }
def d_law_stream : He5.DefA := { at_ := fun K => He.ga K "_law_stream", name := "_law_stream", qual := "_law_stream", params := defArgs s_law_stream, body := defBody s_law_stream, scope := defScope s_law_stream }
def d_law_next : He5.DefA := { at_ := fun K => He.ga K "_law_next", name := "_law_next", qual := "_law_next", params := defArgs s_law_next, body := defBody s_law_next, scope := defScope s_law_next }
def d_law_word : He5.DefA := { at_ := fun K => He.ga K "_law_word", name := "_law_word", qual := "_law_word", params := defArgs s_law_word, body := defBody s_law_word, scope := defScope s_law_word }
def d_law_satellite : He5.DefA := { at_ := fun K => He.ga K "_law_satellite", name := "_law_satellite", qual := "_law_satellite", params := defArgs s_law_satellite, body := defBody s_law_satellite, scope := defScope s_law_satellite }
def d_law_recording : He5.DefA := { at_ := fun K => He.ga K "_law_recording", name := "_law_recording", qual := "_law_recording", params := defArgs s_law_recording, body := defBody s_law_recording, scope := defScope s_law_recording }
def d_law_pass : He5.DefA := { at_ := fun K => He.ga K "_law_pass", name := "_law_pass", qual := "_law_pass", params := defArgs s_law_pass, body := defBody s_law_pass, scope := defScope s_law_pass }
def d_law_world : He5.DefA := { at_ := fun K => He.ga K "_law_world", name := "_law_world", qual := "_law_world", params := defArgs s_law_world, body := defBody s_law_world, scope := defScope s_law_world }
def d_law_lines : He5.DefA := { at_ := fun K => He.ga K "_law_lines", name := "_law_lines", qual := "_law_lines", params := defArgs s_law_lines, body := defBody s_law_lines, scope := defScope s_law_lines }
def d_law_text : He5.DefA := { at_ := fun K => He.ga K "_law_text", name := "_law_text", qual := "_law_text", params := defArgs s_law_text, body := defBody s_law_text, scope := defScope s_law_text }
def d_law_same : He5.DefA := { at_ := fun K => He.ga K "_law_same", name := "_law_same", qual := "_law_same", params := defArgs s_law_same, body := defBody s_law_same, scope := defScope s_law_same }
def d_law_greater : He5.DefA := { at_ := fun K => He.ga K "_law_greater", name := "_law_greater", qual := "_law_greater", params := defArgs s_law_greater, body := defBody s_law_greater, scope := defScope s_law_greater }
def d_law : He5.DefA := { at_ := fun K => He.ga K "law", name := "law", qual := "law", params := defArgs s_law, body := defBody s_law, scope := defScope s_law }
def fn : List He5.DefA := [d_is_number, d_is_name, d_Line_init, d_Line_at_end, d_Line_peek, d_Line_skip, d_Line_expect, d_Line_take_number, d_Line_take_field, d_Line_take_new, d_Line_take_known, d_Line_finish, d_lines_of, d_Satellite_init, d_Satellite_line, d_Station_init, d_Station_line, d_Recording_init, d_Recording_line, d_Pass_init, d_Pass_line, d_names_of, d_Draft_init, d_World_init, d_World_eq, d_World_parse, d_read_line, d_read_satellite, d_read_recording, d_read_pass, d_world_text, d_found_options, d_law_cell, d_law_draws, d_law_stream, d_law_next, d_law_word, d_law_satellite, d_law_recording, d_law_pass, d_law_world, d_law_lines, d_law_text, d_law_same, d_law_greater, d_law]
def fa : List He.Fa := [.glo "is_number",
  .glo "is_name",
  .glo "Line",
  .glo "lines_of",
  .glo "Satellite",
  .glo "Station",
  .glo "Recording",
  .glo "Pass",
  .glo "names_of",
  .glo "Draft",
  .glo "World",
  .glo "KINDS",
  .glo "read_line",
  .glo "read_satellite",
  .glo "read_recording",
  .glo "read_pass",
  .glo "world_text",
  .glo "found_options",
  .glo "_law_cell",
  .glo "_law_draws",
  .glo "_law_stream",
  .glo "_law_next",
  .glo "_law_word",
  .glo "_law_satellite",
  .glo "_law_recording",
  .glo "_law_pass",
  .glo "_law_world",
  .glo "_law_lines",
  .glo "_law_text",
  .glo "_law_same",
  .glo "_law_greater",
  .glo "law",
  .free "len",
  .free "all",
  .free "list",
  .free "int",
  .free "str",
  .free "tuple",
  .free "range",
  .free "enumerate",
  .free "min",
  .free "isinstance",
  .free "abs",
  .free "dict",
  .free "bool",
  .int "MOST_DIGITS" 7,
  .int "MOST_NAME" 15,
  .int "MOST" 1000000,
  .str "DIGITS" "0123456789",
  .str "LETTERS" "abcdefghijklmnopqrstuvwxyzABCDEFGHIJKLMNOPQRSTUVWXYZ",
  .cls "Line",
  .mkr "Line",
  .noat "Line" "number",
  .noat "Line" "words",
  .noat "Line" "place",
  .noat "Line" "column",
  .meth "Line" "at_end",
  .meth "Line" "peek",
  .meth "Line" "skip",
  .meth "Line" "expect",
  .meth "Line" "take_number",
  .meth "Line" "take_field",
  .meth "Line" "take_new",
  .meth "Line" "take_known",
  .meth "Line" "finish",
  .cls "Satellite",
  .mkr "Satellite",
  .noat "Satellite" "name",
  .noat "Satellite" "store",
  .noat "Satellite" "battery",
  .noat "Satellite" "start_level",
  .noat "Satellite" "reserve",
  .noat "Satellite" "charge",
  .noat "Satellite" "settle",
  .noat "Satellite" "light",
  .meth "Satellite" "line",
  .cls "Station",
  .mkr "Station",
  .noat "Station" "name",
  .noat "Station" "antennas",
  .noat "Station" "turn",
  .meth "Station" "line",
  .cls "Recording",
  .mkr "Recording",
  .noat "Recording" "name",
  .noat "Recording" "satellite",
  .noat "Recording" "earliest",
  .noat "Recording" "latest",
  .noat "Recording" "length",
  .noat "Recording" "size",
  .noat "Recording" "energy",
  .noat "Recording" "worth",
  .noat "Recording" "rank",
  .noat "Recording" "deadline",
  .meth "Recording" "line",
  .cls "Pass",
  .mkr "Pass",
  .noat "Pass" "name",
  .noat "Pass" "satellite",
  .noat "Pass" "station",
  .noat "Pass" "span",
  .noat "Pass" "room",
  .noat "Pass" "energy",
  .noat "Pass" "fee",
  .meth "Pass" "line",
  .cls "Draft",
  .mkr "Draft",
  .noat "Draft" "horizon",
  .noat "Draft" "satellites",
  .noat "Draft" "stations",
  .noat "Draft" "recordings",
  .noat "Draft" "passes",
  .cls "World",
  .mkr "World",
  .noat "World" "horizon",
  .noat "World" "satellites",
  .noat "World" "stations",
  .noat "World" "recordings",
  .noat "World" "passes",
  .noat "World" "choices",
  .noat "World" "text",
  .meth "World" "__eq__"]
/-- what more is looked at: the class World read by its name, its constants, its static method, isinstance of its instances, the tuple KINDS -/
def cvB (K : PySem.W.Frag) (C : Addr) (x : Str) (i : Int) : Bool := match PySem.W.findCls K (.ref C) (.type "type") x with
  | some (.val (.int j _)) => decide (j = i)
  | _ => false
def tupD (K : PySem.W.Frag) (x : Str) : Bool := match K.lookup (He.ga K x) with
  | some o => o.cls == .type "tuple" && o.dict.isNone
  | none => false
def insB (K : PySem.W.Frag) (C : Addr) : Bool := He.eqO (PySem.W.findIn K (.ref C) "__class__") (some (some (.builtin "object.__class__"))) &&
  (He.eqO (PySem.W.specialIn K (.builtin "object.__class__") "__get__") (some (some (.builtin "getset_descriptor.__get__"))) &&
  (decide (PySem.W.takesIn K (.builtin "object.__class__") = some true) && (decide (PySem.W.mroIn K C (.type "object") = some true) &&
  (decide (PySem.W.kitOne K (.ref C) (.ref C) = some true) && (decide (PySem.W.kitOne K (.type "str") (.ref C) = some false) && decide (PySem.W.subIn K (.type "str") (.ref C) = some false))))))
def more (K : PySem.W.Frag) : Bool := PySem.W.readsIn K (He.ga K "World") (.type "type") && (
  cvB K (He.ga K "World") "MOST_HORIZON" 500 && (cvB K (He.ga K "World") "MOST_SATELLITES" 3 && (cvB K (He.ga K "World") "MOST_STATIONS" 3 && (cvB K (He.ga K "World") "MOST_RECORDINGS" 10 && (cvB K (He.ga K "World") "MOST_PASSES" 10 && (cvB K (He.ga K "World") "MOST_SHIFT" 20 && (
  He5.wrapB K (He.ga K "World") "staticmethod" "staticmethod.__get__" "parse" && (PySem.W.fnIn K (He5.wf K (He.ga K "World") "staticmethod" "parse") && (
  insB K (He.ga K "World") && (He.tupB K "KINDS" [.str "satellite", .str "station", .str "recording", .str "pass"] && tupD K "KINDS"))))))))))
end Dp
namespace Dp
open PySem PySem.Spec PyProof.Rows L2
abbrev AlM : Type := He.AlD × Bool
def obsM (K : PySem.W.Frag) : AlM := (He5.obsA fa fn K, more K)
def valM : AlM := (He5.valA fn, true)
def obsMG (n : Nat) (g : Addr → Option Obj) : AlM := obsM (He.frG g (He5.asA g n))
structure SaysM (K : PySem.W.Frag) : Prop where
  a : He5.SaysA fa fn K
  m : more K = true
theorem saysM_of {K : PySem.W.Frag} (e : obsM K = valM) : SaysM K :=
  ⟨congrArg (fun z : AlM => z.1) e, congrArg (fun z : AlM => z.2) e⟩
def hookM (n : Nat) : PySem.W.Hook where
  α := AlM
  obs := fun s => obsMG n s.heap.get?
  val := fun _ => valM
  says := fun _ h => ∃ K : PySem.W.Frag, K.In h ∧ SaysM K
  of := fun _ _ e => ⟨_, He.frG_in, saysM_of e⟩
  keeps := fun _ _ _ ⟨K, hK, c⟩ k => ⟨K, PySem.W.Frag.In.keeps hK k, c⟩
theorem obsMG_eq {n : Nat} {g : Addr → Option Obj} {s : Shared} (h : ∀ a, g a = s.heap.get? a) : obsMG n g = (hookM n).obs s := by
  have e : g = s.heap.get? := funext h
  rw [e] <;> rfl
abbrev R : PySem.W.OpenRow := PySem.W.OpenLaw.row PySem.Challenge.rw_downpass_k02_whole_worlds_read_back
abbrev hk : PySem.W.Hook := hookM 5
def ob (s : PySem.W.SharedT) : AlM := obsMG 5 (HandSHeadRun.getT s)
theorem ob_eq (s : PySem.W.SharedT) : ob s = hk.obs s.abs := obsMG_eq (HandSHeadRun.getT_eq s)
def names : List PySem.Str := (["PassError", "TextFault", "DIGITS", "LETTERS", "MOST_DIGITS", "MOST_NAME", "is_number", "is_name", "Line", "lines_of", "MOST", "Satellite", "Station", "Recording", "Pass", "names_of", "Draft", "World", "KINDS", "read_line"] : List PySem.Str) ++ (["read_satellite", "read_recording", "read_pass", "world_text", "found_options", "_law_cell", "_law_draws", "_law_stream", "_law_next", "_law_word", "_law_satellite", "_law_recording", "_law_pass", "_law_world", "_law_lines", "_law_text", "_law_is_integer", "_law_same", "_law_greater"] : List PySem.Str)
theorem run (w : World) : HandSHeadRun.RunEq R (PySem.W.view R.prog [43]) hk ob 9000 names w := by
  intro os
  kernel_rfl
end Dp
namespace Dp
open PySem PySem.Spec PyProof.Rows L2
/-- what the top has left, as the walk takes it -/
structure Tx (K : PySem.W.Frag) (mg : Str → Option Value) : Prop where
  c : SaysM K
  g : ∃ h : Heap, K.In h ∧ h.Ns mainGlobals mg
section
variable {K : PySem.W.Frag} {mg : Str → Option Value}
abbrev cLine (K : PySem.W.Frag) : Addr := He.ga K "Line"
abbrev cSatellite (K : PySem.W.Frag) : Addr := He.ga K "Satellite"
abbrev cStation (K : PySem.W.Frag) : Addr := He.ga K "Station"
abbrev cRecording (K : PySem.W.Frag) : Addr := He.ga K "Recording"
abbrev cPass (K : PySem.W.Frag) : Addr := He.ga K "Pass"
abbrev cDraft (K : PySem.W.Frag) : Addr := He.ga K "Draft"
abbrev cWorld (K : PySem.W.Frag) : Addr := He.ga K "World"
theorem Tx.glo_is_number (T : Tx K mg) : mg "is_number" = some (.ref (He.ga K "is_number")) := let ⟨_, X, G⟩ := T.g; He.glo_ok X G (T.c.a.fact 0)
theorem Tx.glo_is_name (T : Tx K mg) : mg "is_name" = some (.ref (He.ga K "is_name")) := let ⟨_, X, G⟩ := T.g; He.glo_ok X G (T.c.a.fact 1)
theorem Tx.glo_Line (T : Tx K mg) : mg "Line" = some (.ref (He.ga K "Line")) := let ⟨_, X, G⟩ := T.g; He.glo_ok X G (T.c.a.fact 2)
theorem Tx.glo_lines_of (T : Tx K mg) : mg "lines_of" = some (.ref (He.ga K "lines_of")) := let ⟨_, X, G⟩ := T.g; He.glo_ok X G (T.c.a.fact 3)
theorem Tx.glo_Satellite (T : Tx K mg) : mg "Satellite" = some (.ref (He.ga K "Satellite")) := let ⟨_, X, G⟩ := T.g; He.glo_ok X G (T.c.a.fact 4)
theorem Tx.glo_Station (T : Tx K mg) : mg "Station" = some (.ref (He.ga K "Station")) := let ⟨_, X, G⟩ := T.g; He.glo_ok X G (T.c.a.fact 5)
theorem Tx.glo_Recording (T : Tx K mg) : mg "Recording" = some (.ref (He.ga K "Recording")) := let ⟨_, X, G⟩ := T.g; He.glo_ok X G (T.c.a.fact 6)
theorem Tx.glo_Pass (T : Tx K mg) : mg "Pass" = some (.ref (He.ga K "Pass")) := let ⟨_, X, G⟩ := T.g; He.glo_ok X G (T.c.a.fact 7)
theorem Tx.glo_names_of (T : Tx K mg) : mg "names_of" = some (.ref (He.ga K "names_of")) := let ⟨_, X, G⟩ := T.g; He.glo_ok X G (T.c.a.fact 8)
theorem Tx.glo_Draft (T : Tx K mg) : mg "Draft" = some (.ref (He.ga K "Draft")) := let ⟨_, X, G⟩ := T.g; He.glo_ok X G (T.c.a.fact 9)
theorem Tx.glo_World (T : Tx K mg) : mg "World" = some (.ref (He.ga K "World")) := let ⟨_, X, G⟩ := T.g; He.glo_ok X G (T.c.a.fact 10)
theorem Tx.glo_KINDS (T : Tx K mg) : mg "KINDS" = some (.ref (He.ga K "KINDS")) := let ⟨_, X, G⟩ := T.g; He.glo_ok X G (T.c.a.fact 11)
theorem Tx.glo_read_line (T : Tx K mg) : mg "read_line" = some (.ref (He.ga K "read_line")) := let ⟨_, X, G⟩ := T.g; He.glo_ok X G (T.c.a.fact 12)
theorem Tx.glo_read_satellite (T : Tx K mg) : mg "read_satellite" = some (.ref (He.ga K "read_satellite")) := let ⟨_, X, G⟩ := T.g; He.glo_ok X G (T.c.a.fact 13)
theorem Tx.glo_read_recording (T : Tx K mg) : mg "read_recording" = some (.ref (He.ga K "read_recording")) := let ⟨_, X, G⟩ := T.g; He.glo_ok X G (T.c.a.fact 14)
theorem Tx.glo_read_pass (T : Tx K mg) : mg "read_pass" = some (.ref (He.ga K "read_pass")) := let ⟨_, X, G⟩ := T.g; He.glo_ok X G (T.c.a.fact 15)
theorem Tx.glo_world_text (T : Tx K mg) : mg "world_text" = some (.ref (He.ga K "world_text")) := let ⟨_, X, G⟩ := T.g; He.glo_ok X G (T.c.a.fact 16)
theorem Tx.glo_found_options (T : Tx K mg) : mg "found_options" = some (.ref (He.ga K "found_options")) := let ⟨_, X, G⟩ := T.g; He.glo_ok X G (T.c.a.fact 17)
theorem Tx.glo__law_cell (T : Tx K mg) : mg "_law_cell" = some (.ref (He.ga K "_law_cell")) := let ⟨_, X, G⟩ := T.g; He.glo_ok X G (T.c.a.fact 18)
theorem Tx.glo__law_draws (T : Tx K mg) : mg "_law_draws" = some (.ref (He.ga K "_law_draws")) := let ⟨_, X, G⟩ := T.g; He.glo_ok X G (T.c.a.fact 19)
theorem Tx.glo__law_stream (T : Tx K mg) : mg "_law_stream" = some (.ref (He.ga K "_law_stream")) := let ⟨_, X, G⟩ := T.g; He.glo_ok X G (T.c.a.fact 20)
theorem Tx.glo__law_next (T : Tx K mg) : mg "_law_next" = some (.ref (He.ga K "_law_next")) := let ⟨_, X, G⟩ := T.g; He.glo_ok X G (T.c.a.fact 21)
theorem Tx.glo__law_word (T : Tx K mg) : mg "_law_word" = some (.ref (He.ga K "_law_word")) := let ⟨_, X, G⟩ := T.g; He.glo_ok X G (T.c.a.fact 22)
theorem Tx.glo__law_satellite (T : Tx K mg) : mg "_law_satellite" = some (.ref (He.ga K "_law_satellite")) := let ⟨_, X, G⟩ := T.g; He.glo_ok X G (T.c.a.fact 23)
theorem Tx.glo__law_recording (T : Tx K mg) : mg "_law_recording" = some (.ref (He.ga K "_law_recording")) := let ⟨_, X, G⟩ := T.g; He.glo_ok X G (T.c.a.fact 24)
theorem Tx.glo__law_pass (T : Tx K mg) : mg "_law_pass" = some (.ref (He.ga K "_law_pass")) := let ⟨_, X, G⟩ := T.g; He.glo_ok X G (T.c.a.fact 25)
theorem Tx.glo__law_world (T : Tx K mg) : mg "_law_world" = some (.ref (He.ga K "_law_world")) := let ⟨_, X, G⟩ := T.g; He.glo_ok X G (T.c.a.fact 26)
theorem Tx.glo__law_lines (T : Tx K mg) : mg "_law_lines" = some (.ref (He.ga K "_law_lines")) := let ⟨_, X, G⟩ := T.g; He.glo_ok X G (T.c.a.fact 27)
theorem Tx.glo__law_text (T : Tx K mg) : mg "_law_text" = some (.ref (He.ga K "_law_text")) := let ⟨_, X, G⟩ := T.g; He.glo_ok X G (T.c.a.fact 28)
theorem Tx.glo__law_same (T : Tx K mg) : mg "_law_same" = some (.ref (He.ga K "_law_same")) := let ⟨_, X, G⟩ := T.g; He.glo_ok X G (T.c.a.fact 29)
theorem Tx.glo__law_greater (T : Tx K mg) : mg "_law_greater" = some (.ref (He.ga K "_law_greater")) := let ⟨_, X, G⟩ := T.g; He.glo_ok X G (T.c.a.fact 30)
theorem Tx.glo_law (T : Tx K mg) : mg "law" = some (.ref (He.ga K "law")) := let ⟨_, X, G⟩ := T.g; He.glo_ok X G (T.c.a.fact 31)
theorem Tx.free_len (T : Tx K mg) : mg "len" = none := let ⟨_, X, G⟩ := T.g; He.free_ok X G (T.c.a.fact 32)
theorem Tx.free_all (T : Tx K mg) : mg "all" = none := let ⟨_, X, G⟩ := T.g; He.free_ok X G (T.c.a.fact 33)
theorem Tx.free_list (T : Tx K mg) : mg "list" = none := let ⟨_, X, G⟩ := T.g; He.free_ok X G (T.c.a.fact 34)
theorem Tx.free_int (T : Tx K mg) : mg "int" = none := let ⟨_, X, G⟩ := T.g; He.free_ok X G (T.c.a.fact 35)
theorem Tx.free_str (T : Tx K mg) : mg "str" = none := let ⟨_, X, G⟩ := T.g; He.free_ok X G (T.c.a.fact 36)
theorem Tx.free_tuple (T : Tx K mg) : mg "tuple" = none := let ⟨_, X, G⟩ := T.g; He.free_ok X G (T.c.a.fact 37)
theorem Tx.free_range (T : Tx K mg) : mg "range" = none := let ⟨_, X, G⟩ := T.g; He.free_ok X G (T.c.a.fact 38)
theorem Tx.free_enumerate (T : Tx K mg) : mg "enumerate" = none := let ⟨_, X, G⟩ := T.g; He.free_ok X G (T.c.a.fact 39)
theorem Tx.free_min (T : Tx K mg) : mg "min" = none := let ⟨_, X, G⟩ := T.g; He.free_ok X G (T.c.a.fact 40)
theorem Tx.free_isinstance (T : Tx K mg) : mg "isinstance" = none := let ⟨_, X, G⟩ := T.g; He.free_ok X G (T.c.a.fact 41)
theorem Tx.free_abs (T : Tx K mg) : mg "abs" = none := let ⟨_, X, G⟩ := T.g; He.free_ok X G (T.c.a.fact 42)
theorem Tx.free_dict (T : Tx K mg) : mg "dict" = none := let ⟨_, X, G⟩ := T.g; He.free_ok X G (T.c.a.fact 43)
theorem Tx.free_bool (T : Tx K mg) : mg "bool" = none := let ⟨_, X, G⟩ := T.g; He.free_ok X G (T.c.a.fact 44)
theorem Tx.int_MOST_DIGITS (T : Tx K mg) : ∃ u, mg "MOST_DIGITS" = some u ∧ RelV (.int 7) u := let ⟨_, X, G⟩ := T.g; let ⟨t, e⟩ := He.int_ok X G (T.c.a.fact 45); ⟨_, e, t, rfl⟩
theorem Tx.int_MOST_NAME (T : Tx K mg) : ∃ u, mg "MOST_NAME" = some u ∧ RelV (.int 15) u := let ⟨_, X, G⟩ := T.g; let ⟨t, e⟩ := He.int_ok X G (T.c.a.fact 46); ⟨_, e, t, rfl⟩
theorem Tx.int_MOST (T : Tx K mg) : ∃ u, mg "MOST" = some u ∧ RelV (.int 1000000) u := let ⟨_, X, G⟩ := T.g; let ⟨t, e⟩ := He.int_ok X G (T.c.a.fact 47); ⟨_, e, t, rfl⟩
theorem Tx.str_DIGITS (T : Tx K mg) : ∃ u, mg "DIGITS" = some u ∧ RelV (.str "0123456789") u := let ⟨_, X, G⟩ := T.g; let ⟨t, e⟩ := He.str_ok X G (T.c.a.fact 48); ⟨_, e, t, rfl⟩
theorem Tx.str_LETTERS (T : Tx K mg) : ∃ u, mg "LETTERS" = some u ∧ RelV (.str "abcdefghijklmnopqrstuvwxyzABCDEFGHIJKLMNOPQRSTUVWXYZ") u := let ⟨_, X, G⟩ := T.g; let ⟨t, e⟩ := He.str_ok X G (T.c.a.fact 49); ⟨_, e, t, rfl⟩
theorem Tx.cls_Line (T : Tx K mg) : Cls K (cLine K) := He.cls_ok (T.c.a.fact 50)
theorem Tx.mkr_Line (T : Tx K mg) : Mk K (cLine K) (He.ma K (cLine K) "__init__") := He.mkr_ok (T.c.a.fact 51)
theorem Tx.no_Line_number (T : Tx K mg) : NoAttr K (cLine K) "number" := He.noat_ok (T.c.a.fact 52)
theorem Tx.no_Line_words (T : Tx K mg) : NoAttr K (cLine K) "words" := He.noat_ok (T.c.a.fact 53)
theorem Tx.no_Line_place (T : Tx K mg) : NoAttr K (cLine K) "place" := He.noat_ok (T.c.a.fact 54)
theorem Tx.no_Line_column (T : Tx K mg) : NoAttr K (cLine K) "column" := He.noat_ok (T.c.a.fact 55)
theorem Tx.me_Line_at_end (T : Tx K mg) : Meth K (cLine K) "at_end" (He.ma K (cLine K) "at_end") := He.meth_ok (T.c.a.fact 56)
theorem Tx.me_Line_peek (T : Tx K mg) : Meth K (cLine K) "peek" (He.ma K (cLine K) "peek") := He.meth_ok (T.c.a.fact 57)
theorem Tx.me_Line_skip (T : Tx K mg) : Meth K (cLine K) "skip" (He.ma K (cLine K) "skip") := He.meth_ok (T.c.a.fact 58)
theorem Tx.me_Line_expect (T : Tx K mg) : Meth K (cLine K) "expect" (He.ma K (cLine K) "expect") := He.meth_ok (T.c.a.fact 59)
theorem Tx.me_Line_take_number (T : Tx K mg) : Meth K (cLine K) "take_number" (He.ma K (cLine K) "take_number") := He.meth_ok (T.c.a.fact 60)
theorem Tx.me_Line_take_field (T : Tx K mg) : Meth K (cLine K) "take_field" (He.ma K (cLine K) "take_field") := He.meth_ok (T.c.a.fact 61)
theorem Tx.me_Line_take_new (T : Tx K mg) : Meth K (cLine K) "take_new" (He.ma K (cLine K) "take_new") := He.meth_ok (T.c.a.fact 62)
theorem Tx.me_Line_take_known (T : Tx K mg) : Meth K (cLine K) "take_known" (He.ma K (cLine K) "take_known") := He.meth_ok (T.c.a.fact 63)
theorem Tx.me_Line_finish (T : Tx K mg) : Meth K (cLine K) "finish" (He.ma K (cLine K) "finish") := He.meth_ok (T.c.a.fact 64)
theorem Tx.cls_Satellite (T : Tx K mg) : Cls K (cSatellite K) := He.cls_ok (T.c.a.fact 65)
theorem Tx.mkr_Satellite (T : Tx K mg) : Mk K (cSatellite K) (He.ma K (cSatellite K) "__init__") := He.mkr_ok (T.c.a.fact 66)
theorem Tx.no_Satellite_name (T : Tx K mg) : NoAttr K (cSatellite K) "name" := He.noat_ok (T.c.a.fact 67)
theorem Tx.no_Satellite_store (T : Tx K mg) : NoAttr K (cSatellite K) "store" := He.noat_ok (T.c.a.fact 68)
theorem Tx.no_Satellite_battery (T : Tx K mg) : NoAttr K (cSatellite K) "battery" := He.noat_ok (T.c.a.fact 69)
theorem Tx.no_Satellite_start_level (T : Tx K mg) : NoAttr K (cSatellite K) "start_level" := He.noat_ok (T.c.a.fact 70)
theorem Tx.no_Satellite_reserve (T : Tx K mg) : NoAttr K (cSatellite K) "reserve" := He.noat_ok (T.c.a.fact 71)
theorem Tx.no_Satellite_charge (T : Tx K mg) : NoAttr K (cSatellite K) "charge" := He.noat_ok (T.c.a.fact 72)
theorem Tx.no_Satellite_settle (T : Tx K mg) : NoAttr K (cSatellite K) "settle" := He.noat_ok (T.c.a.fact 73)
theorem Tx.no_Satellite_light (T : Tx K mg) : NoAttr K (cSatellite K) "light" := He.noat_ok (T.c.a.fact 74)
theorem Tx.me_Satellite_line (T : Tx K mg) : Meth K (cSatellite K) "line" (He.ma K (cSatellite K) "line") := He.meth_ok (T.c.a.fact 75)
theorem Tx.cls_Station (T : Tx K mg) : Cls K (cStation K) := He.cls_ok (T.c.a.fact 76)
theorem Tx.mkr_Station (T : Tx K mg) : Mk K (cStation K) (He.ma K (cStation K) "__init__") := He.mkr_ok (T.c.a.fact 77)
theorem Tx.no_Station_name (T : Tx K mg) : NoAttr K (cStation K) "name" := He.noat_ok (T.c.a.fact 78)
theorem Tx.no_Station_antennas (T : Tx K mg) : NoAttr K (cStation K) "antennas" := He.noat_ok (T.c.a.fact 79)
theorem Tx.no_Station_turn (T : Tx K mg) : NoAttr K (cStation K) "turn" := He.noat_ok (T.c.a.fact 80)
theorem Tx.me_Station_line (T : Tx K mg) : Meth K (cStation K) "line" (He.ma K (cStation K) "line") := He.meth_ok (T.c.a.fact 81)
theorem Tx.cls_Recording (T : Tx K mg) : Cls K (cRecording K) := He.cls_ok (T.c.a.fact 82)
theorem Tx.mkr_Recording (T : Tx K mg) : Mk K (cRecording K) (He.ma K (cRecording K) "__init__") := He.mkr_ok (T.c.a.fact 83)
theorem Tx.no_Recording_name (T : Tx K mg) : NoAttr K (cRecording K) "name" := He.noat_ok (T.c.a.fact 84)
theorem Tx.no_Recording_satellite (T : Tx K mg) : NoAttr K (cRecording K) "satellite" := He.noat_ok (T.c.a.fact 85)
theorem Tx.no_Recording_earliest (T : Tx K mg) : NoAttr K (cRecording K) "earliest" := He.noat_ok (T.c.a.fact 86)
theorem Tx.no_Recording_latest (T : Tx K mg) : NoAttr K (cRecording K) "latest" := He.noat_ok (T.c.a.fact 87)
theorem Tx.no_Recording_length (T : Tx K mg) : NoAttr K (cRecording K) "length" := He.noat_ok (T.c.a.fact 88)
theorem Tx.no_Recording_size (T : Tx K mg) : NoAttr K (cRecording K) "size" := He.noat_ok (T.c.a.fact 89)
theorem Tx.no_Recording_energy (T : Tx K mg) : NoAttr K (cRecording K) "energy" := He.noat_ok (T.c.a.fact 90)
theorem Tx.no_Recording_worth (T : Tx K mg) : NoAttr K (cRecording K) "worth" := He.noat_ok (T.c.a.fact 91)
theorem Tx.no_Recording_rank (T : Tx K mg) : NoAttr K (cRecording K) "rank" := He.noat_ok (T.c.a.fact 92)
theorem Tx.no_Recording_deadline (T : Tx K mg) : NoAttr K (cRecording K) "deadline" := He.noat_ok (T.c.a.fact 93)
theorem Tx.me_Recording_line (T : Tx K mg) : Meth K (cRecording K) "line" (He.ma K (cRecording K) "line") := He.meth_ok (T.c.a.fact 94)
theorem Tx.cls_Pass (T : Tx K mg) : Cls K (cPass K) := He.cls_ok (T.c.a.fact 95)
theorem Tx.mkr_Pass (T : Tx K mg) : Mk K (cPass K) (He.ma K (cPass K) "__init__") := He.mkr_ok (T.c.a.fact 96)
theorem Tx.no_Pass_name (T : Tx K mg) : NoAttr K (cPass K) "name" := He.noat_ok (T.c.a.fact 97)
theorem Tx.no_Pass_satellite (T : Tx K mg) : NoAttr K (cPass K) "satellite" := He.noat_ok (T.c.a.fact 98)
theorem Tx.no_Pass_station (T : Tx K mg) : NoAttr K (cPass K) "station" := He.noat_ok (T.c.a.fact 99)
theorem Tx.no_Pass_span (T : Tx K mg) : NoAttr K (cPass K) "span" := He.noat_ok (T.c.a.fact 100)
theorem Tx.no_Pass_room (T : Tx K mg) : NoAttr K (cPass K) "room" := He.noat_ok (T.c.a.fact 101)
theorem Tx.no_Pass_energy (T : Tx K mg) : NoAttr K (cPass K) "energy" := He.noat_ok (T.c.a.fact 102)
theorem Tx.no_Pass_fee (T : Tx K mg) : NoAttr K (cPass K) "fee" := He.noat_ok (T.c.a.fact 103)
theorem Tx.me_Pass_line (T : Tx K mg) : Meth K (cPass K) "line" (He.ma K (cPass K) "line") := He.meth_ok (T.c.a.fact 104)
theorem Tx.cls_Draft (T : Tx K mg) : Cls K (cDraft K) := He.cls_ok (T.c.a.fact 105)
theorem Tx.mkr_Draft (T : Tx K mg) : Mk K (cDraft K) (He.ma K (cDraft K) "__init__") := He.mkr_ok (T.c.a.fact 106)
theorem Tx.no_Draft_horizon (T : Tx K mg) : NoAttr K (cDraft K) "horizon" := He.noat_ok (T.c.a.fact 107)
theorem Tx.no_Draft_satellites (T : Tx K mg) : NoAttr K (cDraft K) "satellites" := He.noat_ok (T.c.a.fact 108)
theorem Tx.no_Draft_stations (T : Tx K mg) : NoAttr K (cDraft K) "stations" := He.noat_ok (T.c.a.fact 109)
theorem Tx.no_Draft_recordings (T : Tx K mg) : NoAttr K (cDraft K) "recordings" := He.noat_ok (T.c.a.fact 110)
theorem Tx.no_Draft_passes (T : Tx K mg) : NoAttr K (cDraft K) "passes" := He.noat_ok (T.c.a.fact 111)
theorem Tx.cls_World (T : Tx K mg) : Cls K (cWorld K) := He.cls_ok (T.c.a.fact 112)
theorem Tx.mkr_World (T : Tx K mg) : Mk K (cWorld K) (He.ma K (cWorld K) "__init__") := He.mkr_ok (T.c.a.fact 113)
theorem Tx.no_World_horizon (T : Tx K mg) : NoAttr K (cWorld K) "horizon" := He.noat_ok (T.c.a.fact 114)
theorem Tx.no_World_satellites (T : Tx K mg) : NoAttr K (cWorld K) "satellites" := He.noat_ok (T.c.a.fact 115)
theorem Tx.no_World_stations (T : Tx K mg) : NoAttr K (cWorld K) "stations" := He.noat_ok (T.c.a.fact 116)
theorem Tx.no_World_recordings (T : Tx K mg) : NoAttr K (cWorld K) "recordings" := He.noat_ok (T.c.a.fact 117)
theorem Tx.no_World_passes (T : Tx K mg) : NoAttr K (cWorld K) "passes" := He.noat_ok (T.c.a.fact 118)
theorem Tx.no_World_choices (T : Tx K mg) : NoAttr K (cWorld K) "choices" := He.noat_ok (T.c.a.fact 119)
theorem Tx.no_World_text (T : Tx K mg) : NoAttr K (cWorld K) "text" := He.noat_ok (T.c.a.fact 120)
theorem Tx.me_World_eq (T : Tx K mg) : Meth K (cWorld K) "__eq__" (He.ma K (cWorld K) "__eq__") := He.meth_ok (T.c.a.fact 121)
theorem Tx.f_is_number (T : Tx K mg) : ∃ fd, FunD K "is_number" "is_number" (defArgs s_is_number) (defBody s_is_number) (defScope s_is_number) (d_is_number.dvs K) [] (d_is_number.at_ K) fd := T.c.a.def_ 0 (d := d_is_number)
theorem Tx.f_is_name (T : Tx K mg) : ∃ fd, FunD K "is_name" "is_name" (defArgs s_is_name) (defBody s_is_name) (defScope s_is_name) (d_is_name.dvs K) [] (d_is_name.at_ K) fd := T.c.a.def_ 1 (d := d_is_name)
theorem Tx.f_Line_init (T : Tx K mg) : ∃ fd, FunD K "__init__" "Line.__init__" (defArgs s_Line_init) (defBody s_Line_init) (defScope s_Line_init) (d_Line_init.dvs K) [] (d_Line_init.at_ K) fd := T.c.a.def_ 2 (d := d_Line_init)
theorem Tx.f_Line_at_end (T : Tx K mg) : ∃ fd, FunD K "at_end" "Line.at_end" (defArgs s_Line_at_end) (defBody s_Line_at_end) (defScope s_Line_at_end) (d_Line_at_end.dvs K) [] (d_Line_at_end.at_ K) fd := T.c.a.def_ 3 (d := d_Line_at_end)
theorem Tx.f_Line_peek (T : Tx K mg) : ∃ fd, FunD K "peek" "Line.peek" (defArgs s_Line_peek) (defBody s_Line_peek) (defScope s_Line_peek) (d_Line_peek.dvs K) [] (d_Line_peek.at_ K) fd := T.c.a.def_ 4 (d := d_Line_peek)
theorem Tx.f_Line_skip (T : Tx K mg) : ∃ fd, FunD K "skip" "Line.skip" (defArgs s_Line_skip) (defBody s_Line_skip) (defScope s_Line_skip) (d_Line_skip.dvs K) [] (d_Line_skip.at_ K) fd := T.c.a.def_ 5 (d := d_Line_skip)
theorem Tx.f_Line_expect (T : Tx K mg) : ∃ fd, FunD K "expect" "Line.expect" (defArgs s_Line_expect) (defBody s_Line_expect) (defScope s_Line_expect) (d_Line_expect.dvs K) [] (d_Line_expect.at_ K) fd := T.c.a.def_ 6 (d := d_Line_expect)
theorem Tx.f_Line_take_number (T : Tx K mg) : ∃ fd, FunD K "take_number" "Line.take_number" (defArgs s_Line_take_number) (defBody s_Line_take_number) (defScope s_Line_take_number) (d_Line_take_number.dvs K) [] (d_Line_take_number.at_ K) fd := T.c.a.def_ 7 (d := d_Line_take_number)
theorem Tx.f_Line_take_field (T : Tx K mg) : ∃ fd, FunD K "take_field" "Line.take_field" (defArgs s_Line_take_field) (defBody s_Line_take_field) (defScope s_Line_take_field) (d_Line_take_field.dvs K) [] (d_Line_take_field.at_ K) fd := T.c.a.def_ 8 (d := d_Line_take_field)
theorem Tx.f_Line_take_new (T : Tx K mg) : ∃ fd, FunD K "take_new" "Line.take_new" (defArgs s_Line_take_new) (defBody s_Line_take_new) (defScope s_Line_take_new) (d_Line_take_new.dvs K) [] (d_Line_take_new.at_ K) fd := T.c.a.def_ 9 (d := d_Line_take_new)
theorem Tx.f_Line_take_known (T : Tx K mg) : ∃ fd, FunD K "take_known" "Line.take_known" (defArgs s_Line_take_known) (defBody s_Line_take_known) (defScope s_Line_take_known) (d_Line_take_known.dvs K) [] (d_Line_take_known.at_ K) fd := T.c.a.def_ 10 (d := d_Line_take_known)
theorem Tx.f_Line_finish (T : Tx K mg) : ∃ fd, FunD K "finish" "Line.finish" (defArgs s_Line_finish) (defBody s_Line_finish) (defScope s_Line_finish) (d_Line_finish.dvs K) [] (d_Line_finish.at_ K) fd := T.c.a.def_ 11 (d := d_Line_finish)
theorem Tx.f_lines_of (T : Tx K mg) : ∃ fd, FunD K "lines_of" "lines_of" (defArgs s_lines_of) (defBody s_lines_of) (defScope s_lines_of) (d_lines_of.dvs K) [] (d_lines_of.at_ K) fd := T.c.a.def_ 12 (d := d_lines_of)
theorem Tx.f_Satellite_init (T : Tx K mg) : ∃ fd, FunD K "__init__" "Satellite.__init__" (defArgs s_Satellite_init) (defBody s_Satellite_init) (defScope s_Satellite_init) (d_Satellite_init.dvs K) [] (d_Satellite_init.at_ K) fd := T.c.a.def_ 13 (d := d_Satellite_init)
theorem Tx.f_Satellite_line (T : Tx K mg) : ∃ fd, FunD K "line" "Satellite.line" (defArgs s_Satellite_line) (defBody s_Satellite_line) (defScope s_Satellite_line) (d_Satellite_line.dvs K) [] (d_Satellite_line.at_ K) fd := T.c.a.def_ 14 (d := d_Satellite_line)
theorem Tx.f_Station_init (T : Tx K mg) : ∃ fd, FunD K "__init__" "Station.__init__" (defArgs s_Station_init) (defBody s_Station_init) (defScope s_Station_init) (d_Station_init.dvs K) [] (d_Station_init.at_ K) fd := T.c.a.def_ 15 (d := d_Station_init)
theorem Tx.f_Station_line (T : Tx K mg) : ∃ fd, FunD K "line" "Station.line" (defArgs s_Station_line) (defBody s_Station_line) (defScope s_Station_line) (d_Station_line.dvs K) [] (d_Station_line.at_ K) fd := T.c.a.def_ 16 (d := d_Station_line)
theorem Tx.f_Recording_init (T : Tx K mg) : ∃ fd, FunD K "__init__" "Recording.__init__" (defArgs s_Recording_init) (defBody s_Recording_init) (defScope s_Recording_init) (d_Recording_init.dvs K) [] (d_Recording_init.at_ K) fd := T.c.a.def_ 17 (d := d_Recording_init)
theorem Tx.f_Recording_line (T : Tx K mg) : ∃ fd, FunD K "line" "Recording.line" (defArgs s_Recording_line) (defBody s_Recording_line) (defScope s_Recording_line) (d_Recording_line.dvs K) [] (d_Recording_line.at_ K) fd := T.c.a.def_ 18 (d := d_Recording_line)
theorem Tx.f_Pass_init (T : Tx K mg) : ∃ fd, FunD K "__init__" "Pass.__init__" (defArgs s_Pass_init) (defBody s_Pass_init) (defScope s_Pass_init) (d_Pass_init.dvs K) [] (d_Pass_init.at_ K) fd := T.c.a.def_ 19 (d := d_Pass_init)
theorem Tx.f_Pass_line (T : Tx K mg) : ∃ fd, FunD K "line" "Pass.line" (defArgs s_Pass_line) (defBody s_Pass_line) (defScope s_Pass_line) (d_Pass_line.dvs K) [] (d_Pass_line.at_ K) fd := T.c.a.def_ 20 (d := d_Pass_line)
theorem Tx.f_names_of (T : Tx K mg) : ∃ fd, FunD K "names_of" "names_of" (defArgs s_names_of) (defBody s_names_of) (defScope s_names_of) (d_names_of.dvs K) [] (d_names_of.at_ K) fd := T.c.a.def_ 21 (d := d_names_of)
theorem Tx.f_Draft_init (T : Tx K mg) : ∃ fd, FunD K "__init__" "Draft.__init__" (defArgs s_Draft_init) (defBody s_Draft_init) (defScope s_Draft_init) (d_Draft_init.dvs K) [] (d_Draft_init.at_ K) fd := T.c.a.def_ 22 (d := d_Draft_init)
theorem Tx.f_World_init (T : Tx K mg) : ∃ fd, FunD K "__init__" "World.__init__" (defArgs s_World_init) (defBody s_World_init) (defScope s_World_init) (d_World_init.dvs K) [] (d_World_init.at_ K) fd := T.c.a.def_ 23 (d := d_World_init)
theorem Tx.f_World_eq (T : Tx K mg) : ∃ fd, FunD K "__eq__" "World.__eq__" (defArgs s_World_eq) (defBody s_World_eq) (defScope s_World_eq) (d_World_eq.dvs K) [] (d_World_eq.at_ K) fd := T.c.a.def_ 24 (d := d_World_eq)
theorem Tx.f_World_parse (T : Tx K mg) : ∃ fd, FunD K "parse" "World.parse" (defArgs s_World_parse) (defBody s_World_parse) (defScope s_World_parse) (d_World_parse.dvs K) [] (d_World_parse.at_ K) fd := T.c.a.def_ 25 (d := d_World_parse)
theorem Tx.f_read_line (T : Tx K mg) : ∃ fd, FunD K "read_line" "read_line" (defArgs s_read_line) (defBody s_read_line) (defScope s_read_line) (d_read_line.dvs K) [] (d_read_line.at_ K) fd := T.c.a.def_ 26 (d := d_read_line)
theorem Tx.f_read_satellite (T : Tx K mg) : ∃ fd, FunD K "read_satellite" "read_satellite" (defArgs s_read_satellite) (defBody s_read_satellite) (defScope s_read_satellite) (d_read_satellite.dvs K) [] (d_read_satellite.at_ K) fd := T.c.a.def_ 27 (d := d_read_satellite)
theorem Tx.f_read_recording (T : Tx K mg) : ∃ fd, FunD K "read_recording" "read_recording" (defArgs s_read_recording) (defBody s_read_recording) (defScope s_read_recording) (d_read_recording.dvs K) [] (d_read_recording.at_ K) fd := T.c.a.def_ 28 (d := d_read_recording)
theorem Tx.f_read_pass (T : Tx K mg) : ∃ fd, FunD K "read_pass" "read_pass" (defArgs s_read_pass) (defBody s_read_pass) (defScope s_read_pass) (d_read_pass.dvs K) [] (d_read_pass.at_ K) fd := T.c.a.def_ 29 (d := d_read_pass)
theorem Tx.f_world_text (T : Tx K mg) : ∃ fd, FunD K "world_text" "world_text" (defArgs s_world_text) (defBody s_world_text) (defScope s_world_text) (d_world_text.dvs K) [] (d_world_text.at_ K) fd := T.c.a.def_ 30 (d := d_world_text)
theorem Tx.f_found_options (T : Tx K mg) : ∃ fd, FunD K "found_options" "found_options" (defArgs s_found_options) (defBody s_found_options) (defScope s_found_options) (d_found_options.dvs K) [] (d_found_options.at_ K) fd := T.c.a.def_ 31 (d := d_found_options)
theorem Tx.f_law_cell (T : Tx K mg) : ∃ fd, FunD K "_law_cell" "_law_cell" (defArgs s_law_cell) (defBody s_law_cell) (defScope s_law_cell) (d_law_cell.dvs K) [] (d_law_cell.at_ K) fd := T.c.a.def_ 32 (d := d_law_cell)
theorem Tx.f_law_draws (T : Tx K mg) : ∃ fd, FunD K "_law_draws" "_law_draws" (defArgs s_law_draws) (defBody s_law_draws) (defScope s_law_draws) (d_law_draws.dvs K) [] (d_law_draws.at_ K) fd := T.c.a.def_ 33 (d := d_law_draws)
theorem Tx.f_law_stream (T : Tx K mg) : ∃ fd, FunD K "_law_stream" "_law_stream" (defArgs s_law_stream) (defBody s_law_stream) (defScope s_law_stream) (d_law_stream.dvs K) [] (d_law_stream.at_ K) fd := T.c.a.def_ 34 (d := d_law_stream)
theorem Tx.f_law_next (T : Tx K mg) : ∃ fd, FunD K "_law_next" "_law_next" (defArgs s_law_next) (defBody s_law_next) (defScope s_law_next) (d_law_next.dvs K) [] (d_law_next.at_ K) fd := T.c.a.def_ 35 (d := d_law_next)
theorem Tx.f_law_word (T : Tx K mg) : ∃ fd, FunD K "_law_word" "_law_word" (defArgs s_law_word) (defBody s_law_word) (defScope s_law_word) (d_law_word.dvs K) [] (d_law_word.at_ K) fd := T.c.a.def_ 36 (d := d_law_word)
theorem Tx.f_law_satellite (T : Tx K mg) : ∃ fd, FunD K "_law_satellite" "_law_satellite" (defArgs s_law_satellite) (defBody s_law_satellite) (defScope s_law_satellite) (d_law_satellite.dvs K) [] (d_law_satellite.at_ K) fd := T.c.a.def_ 37 (d := d_law_satellite)
theorem Tx.f_law_recording (T : Tx K mg) : ∃ fd, FunD K "_law_recording" "_law_recording" (defArgs s_law_recording) (defBody s_law_recording) (defScope s_law_recording) (d_law_recording.dvs K) [] (d_law_recording.at_ K) fd := T.c.a.def_ 38 (d := d_law_recording)
theorem Tx.f_law_pass (T : Tx K mg) : ∃ fd, FunD K "_law_pass" "_law_pass" (defArgs s_law_pass) (defBody s_law_pass) (defScope s_law_pass) (d_law_pass.dvs K) [] (d_law_pass.at_ K) fd := T.c.a.def_ 39 (d := d_law_pass)
theorem Tx.f_law_world (T : Tx K mg) : ∃ fd, FunD K "_law_world" "_law_world" (defArgs s_law_world) (defBody s_law_world) (defScope s_law_world) (d_law_world.dvs K) [] (d_law_world.at_ K) fd := T.c.a.def_ 40 (d := d_law_world)
theorem Tx.f_law_lines (T : Tx K mg) : ∃ fd, FunD K "_law_lines" "_law_lines" (defArgs s_law_lines) (defBody s_law_lines) (defScope s_law_lines) (d_law_lines.dvs K) [] (d_law_lines.at_ K) fd := T.c.a.def_ 41 (d := d_law_lines)
theorem Tx.f_law_text (T : Tx K mg) : ∃ fd, FunD K "_law_text" "_law_text" (defArgs s_law_text) (defBody s_law_text) (defScope s_law_text) (d_law_text.dvs K) [] (d_law_text.at_ K) fd := T.c.a.def_ 42 (d := d_law_text)
theorem Tx.f_law_same (T : Tx K mg) : ∃ fd, FunD K "_law_same" "_law_same" (defArgs s_law_same) (defBody s_law_same) (defScope s_law_same) (d_law_same.dvs K) [] (d_law_same.at_ K) fd := T.c.a.def_ 43 (d := d_law_same)
theorem Tx.f_law_greater (T : Tx K mg) : ∃ fd, FunD K "_law_greater" "_law_greater" (defArgs s_law_greater) (defBody s_law_greater) (defScope s_law_greater) (d_law_greater.dvs K) [] (d_law_greater.at_ K) fd := T.c.a.def_ 44 (d := d_law_greater)
theorem Tx.f_law (T : Tx K mg) : ∃ fd, FunD K "law" "law" (defArgs s_law) (defBody s_law) (defScope s_law) (d_law.dvs K) [] (d_law.at_ K) fd := T.c.a.def_ 45 (d := d_law)
theorem Tx.mo (T : Tx K mg) : PySem.W.readsIn K (cWorld K) (.type "type") = true ∧ cvB K (cWorld K) "MOST_HORIZON" 500 = true ∧ cvB K (cWorld K) "MOST_SATELLITES" 3 = true ∧ cvB K (cWorld K) "MOST_STATIONS" 3 = true ∧
    cvB K (cWorld K) "MOST_RECORDINGS" 10 = true ∧ cvB K (cWorld K) "MOST_PASSES" 10 = true ∧ cvB K (cWorld K) "MOST_SHIFT" 20 = true ∧
    He5.wrapB K (cWorld K) "staticmethod" "staticmethod.__get__" "parse" = true ∧ PySem.W.fnIn K (He5.wf K (cWorld K) "staticmethod" "parse") = true ∧ insB K (cWorld K) = true ∧
    He.tupB K "KINDS" [.str "satellite", .str "station", .str "recording", .str "pass"] = true ∧ tupD K "KINDS" = true := by
  have h := T.c.m
  unfold more at h
  obtain ⟨h1, h⟩ := He.ba h
  obtain ⟨h2, h⟩ := He.ba h
  obtain ⟨h3, h⟩ := He.ba h
  obtain ⟨h4, h⟩ := He.ba h
  obtain ⟨h5, h⟩ := He.ba h
  obtain ⟨h6, h⟩ := He.ba h
  obtain ⟨h7, h⟩ := He.ba h
  obtain ⟨h8, h⟩ := He.ba h
  obtain ⟨h9, h⟩ := He.ba h
  obtain ⟨h10, h⟩ := He.ba h
  obtain ⟨h11, h12⟩ := He.ba h
  exact ⟨h1, h2, h3, h4, h5, h6, h7, h8, h9, h10, h11, h12⟩
theorem cread_of {C : Addr} (h : PySem.W.readsIn K C (.type "type") = true) : ClX.CRead K C (.type "type") := by
  refine ⟨h, ?_⟩
  unfold PySem.W.readsIn at h
  obtain ⟨h, _⟩ := He.ba h
  obtain ⟨h, _⟩ := He.ba h
  obtain ⟨h, h3⟩ := He.ba h
  obtain ⟨_, h2⟩ := He.ba h
  unfold PySem.W.specialIn
  rw [beq_iff_eq.mp h2, Option.bind_some]
  exact beq_iff_eq.mp h3
theorem cval_of {C : Addr} {x : Str} {i : Int} (h : cvB K C x i = true) : ∃ u, ClX.CVal K C (.type "type") x (.int i) u := by
  unfold cvB at h
  split at h
  · rename_i j t e
    have ej : j = i := of_decide_eq_true h
    rw [ej] at e
    exact ⟨_, e, t, rfl⟩
  · cases h
theorem Tx.cread (T : Tx K mg) : ClX.CRead K (cWorld K) (.type "type") := cread_of T.mo.1
theorem Tx.cv_MOST_HORIZON (T : Tx K mg) : ∃ u, ClX.CVal K (cWorld K) (.type "type") "MOST_HORIZON" (.int 500) u := cval_of T.mo.2.1
theorem Tx.cv_MOST_SATELLITES (T : Tx K mg) : ∃ u, ClX.CVal K (cWorld K) (.type "type") "MOST_SATELLITES" (.int 3) u := cval_of T.mo.2.2.1
theorem Tx.cv_MOST_STATIONS (T : Tx K mg) : ∃ u, ClX.CVal K (cWorld K) (.type "type") "MOST_STATIONS" (.int 3) u := cval_of T.mo.2.2.2.1
theorem Tx.cv_MOST_RECORDINGS (T : Tx K mg) : ∃ u, ClX.CVal K (cWorld K) (.type "type") "MOST_RECORDINGS" (.int 10) u := cval_of T.mo.2.2.2.2.1
theorem Tx.cv_MOST_PASSES (T : Tx K mg) : ∃ u, ClX.CVal K (cWorld K) (.type "type") "MOST_PASSES" (.int 10) u := cval_of T.mo.2.2.2.2.2.1
theorem Tx.cv_MOST_SHIFT (T : Tx K mg) : ∃ u, ClX.CVal K (cWorld K) (.type "type") "MOST_SHIFT" (.int 20) u := cval_of T.mo.2.2.2.2.2.2.1
theorem Tx.kinds (T : Tx K mg) (H : Hp) : SqT K H (He.ga K "KINDS") [.str "satellite", .str "station", .str "recording", .str "pass"] := He.tupB_ok T.mo.2.2.2.2.2.2.2.2.2.2.1 H
theorem Tx.kindsT (T : Tx K mg) : ∃ o, K.lookup (He.ga K "KINDS") = some o ∧ o.cls = .type "tuple" ∧ o.dict = none := by
  have h := T.mo.2.2.2.2.2.2.2.2.2.2.2
  unfold tupD at h
  split at h
  · rename_i o e
    obtain ⟨h1, h2⟩ := He.ba h
    refine ⟨o, e, eq_of_beq h1, ?_⟩
    cases q : o.dict with
    | none => rfl
    | some _ =>
      rw [q] at h2
      cases h2
  · cases h
structure InsW (K : PySem.W.Frag) (C : Addr) : Prop where
  ha : PySem.W.findIn K (.ref C) "__class__" = some (some (.builtin "object.__class__"))
  hn : PySem.W.specialIn K (.builtin "object.__class__") "__get__" = some (some (.builtin "getset_descriptor.__get__"))
  htk : PySem.W.takesIn K (.builtin "object.__class__") = some true
  hm : PySem.W.mroIn K C (.type "object") = some true
  me : PySem.W.kitOne K (.ref C) (.ref C) = some true
  st : PySem.W.kitOne K (.type "str") (.ref C) = some false
  sb : PySem.W.subIn K (.type "str") (.ref C) = some false
theorem Tx.insW (T : Tx K mg) : InsW K (cWorld K) := by
  have h := T.mo.2.2.2.2.2.2.2.2.2.1
  unfold insB at h
  obtain ⟨h1, h⟩ := He.ba h
  obtain ⟨h2, h⟩ := He.ba h
  obtain ⟨h3, h⟩ := He.ba h
  obtain ⟨h4, h⟩ := He.ba h
  obtain ⟨h5, h⟩ := He.ba h
  obtain ⟨h6, h7⟩ := He.ba h
  exact ⟨He.eqO_ok h1, He.eqO_ok h2, of_decide_eq_true h3, of_decide_eq_true h4, of_decide_eq_true h5, of_decide_eq_true h6, of_decide_eq_true h7⟩
theorem Tx.parse_at (T : Tx K mg) : PySem.W.findCls K (.ref (cWorld K)) (.type "type") "parse" = some (.get (.builtin "staticmethod.__get__") (.ref (He.ma K (cWorld K) "parse")) .none (.ref (cWorld K))) ∧
    ∃ rest, PySem.W.recIn K (He.ma K (cWorld K) "parse") "staticmethod" = some (.ref (He5.wf K (cWorld K) "staticmethod" "parse") :: rest) := He5.wrapB_ok T.mo.2.2.2.2.2.2.2.1
theorem Tx.parse_fn (T : Tx K mg) : PySem.W.fnIn K (He5.wf K (cWorld K) "staticmethod" "parse") = true := T.mo.2.2.2.2.2.2.2.2.1
end
/-! ### the attributes of each class -/
def fLine (v0 v1 v2 v3 : V) : List (Str × V) := [("number", v0), ("words", v1), ("place", v2), ("column", v3)]
theorem lk_Line_number (v0 v1 v2 v3 : V) : (fLine v0 v1 v2 v3).lookup ("number" : Str) = some v0 := by kernel_rfl
theorem lk_Line_words (v0 v1 v2 v3 : V) : (fLine v0 v1 v2 v3).lookup ("words" : Str) = some v1 := by kernel_rfl
theorem lk_Line_place (v0 v1 v2 v3 : V) : (fLine v0 v1 v2 v3).lookup ("place" : Str) = some v2 := by kernel_rfl
theorem lk_Line_column (v0 v1 v2 v3 : V) : (fLine v0 v1 v2 v3).lookup ("column" : Str) = some v3 := by kernel_rfl
theorem ln_Line_at_end (v0 v1 v2 v3 : V) : (fLine v0 v1 v2 v3).lookup ("at_end" : Str) = none := by kernel_rfl
theorem ln_Line_peek (v0 v1 v2 v3 : V) : (fLine v0 v1 v2 v3).lookup ("peek" : Str) = none := by kernel_rfl
theorem ln_Line_skip (v0 v1 v2 v3 : V) : (fLine v0 v1 v2 v3).lookup ("skip" : Str) = none := by kernel_rfl
theorem ln_Line_expect (v0 v1 v2 v3 : V) : (fLine v0 v1 v2 v3).lookup ("expect" : Str) = none := by kernel_rfl
theorem ln_Line_take_number (v0 v1 v2 v3 : V) : (fLine v0 v1 v2 v3).lookup ("take_number" : Str) = none := by kernel_rfl
theorem ln_Line_take_field (v0 v1 v2 v3 : V) : (fLine v0 v1 v2 v3).lookup ("take_field" : Str) = none := by kernel_rfl
theorem ln_Line_take_new (v0 v1 v2 v3 : V) : (fLine v0 v1 v2 v3).lookup ("take_new" : Str) = none := by kernel_rfl
theorem ln_Line_take_known (v0 v1 v2 v3 : V) : (fLine v0 v1 v2 v3).lookup ("take_known" : Str) = none := by kernel_rfl
theorem ln_Line_finish (v0 v1 v2 v3 : V) : (fLine v0 v1 v2 v3).lookup ("finish" : Str) = none := by kernel_rfl
theorem len_Line (v0 v1 v2 v3 : V) : (fLine v0 v1 v2 v3).length = 4 := rfl
theorem pf_Line_number (v0 : V) : putF "number" v0 ([] : List (Str × V)) = ([("number", v0)] : List (Str × V)) := by kernel_rfl
theorem pf_Line_words (v0 v1 : V) : putF "words" v1 ([("number", v0)] : List (Str × V)) = ([("number", v0), ("words", v1)] : List (Str × V)) := by kernel_rfl
theorem pf_Line_place (v0 v1 v2 : V) : putF "place" v2 ([("number", v0), ("words", v1)] : List (Str × V)) = ([("number", v0), ("words", v1), ("place", v2)] : List (Str × V)) := by kernel_rfl
theorem pf_Line_column (v0 v1 v2 v3 : V) : putF "column" v3 ([("number", v0), ("words", v1), ("place", v2)] : List (Str × V)) = fLine v0 v1 v2 v3 := by kernel_rfl
def fSatellite (v0 v1 v2 v3 v4 v5 v6 v7 : V) : List (Str × V) := [("name", v0), ("store", v1), ("battery", v2), ("start_level", v3), ("reserve", v4), ("charge", v5), ("settle", v6), ("light", v7)]
theorem lk_Satellite_name (v0 v1 v2 v3 v4 v5 v6 v7 : V) : (fSatellite v0 v1 v2 v3 v4 v5 v6 v7).lookup ("name" : Str) = some v0 := by kernel_rfl
theorem lk_Satellite_store (v0 v1 v2 v3 v4 v5 v6 v7 : V) : (fSatellite v0 v1 v2 v3 v4 v5 v6 v7).lookup ("store" : Str) = some v1 := by kernel_rfl
theorem lk_Satellite_battery (v0 v1 v2 v3 v4 v5 v6 v7 : V) : (fSatellite v0 v1 v2 v3 v4 v5 v6 v7).lookup ("battery" : Str) = some v2 := by kernel_rfl
theorem lk_Satellite_start_level (v0 v1 v2 v3 v4 v5 v6 v7 : V) : (fSatellite v0 v1 v2 v3 v4 v5 v6 v7).lookup ("start_level" : Str) = some v3 := by kernel_rfl
theorem lk_Satellite_reserve (v0 v1 v2 v3 v4 v5 v6 v7 : V) : (fSatellite v0 v1 v2 v3 v4 v5 v6 v7).lookup ("reserve" : Str) = some v4 := by kernel_rfl
theorem lk_Satellite_charge (v0 v1 v2 v3 v4 v5 v6 v7 : V) : (fSatellite v0 v1 v2 v3 v4 v5 v6 v7).lookup ("charge" : Str) = some v5 := by kernel_rfl
theorem lk_Satellite_settle (v0 v1 v2 v3 v4 v5 v6 v7 : V) : (fSatellite v0 v1 v2 v3 v4 v5 v6 v7).lookup ("settle" : Str) = some v6 := by kernel_rfl
theorem lk_Satellite_light (v0 v1 v2 v3 v4 v5 v6 v7 : V) : (fSatellite v0 v1 v2 v3 v4 v5 v6 v7).lookup ("light" : Str) = some v7 := by kernel_rfl
theorem ln_Satellite_line (v0 v1 v2 v3 v4 v5 v6 v7 : V) : (fSatellite v0 v1 v2 v3 v4 v5 v6 v7).lookup ("line" : Str) = none := by kernel_rfl
theorem len_Satellite (v0 v1 v2 v3 v4 v5 v6 v7 : V) : (fSatellite v0 v1 v2 v3 v4 v5 v6 v7).length = 8 := rfl
theorem pf_Satellite_name (v0 : V) : putF "name" v0 ([] : List (Str × V)) = ([("name", v0)] : List (Str × V)) := by kernel_rfl
theorem pf_Satellite_store (v0 v1 : V) : putF "store" v1 ([("name", v0)] : List (Str × V)) = ([("name", v0), ("store", v1)] : List (Str × V)) := by kernel_rfl
theorem pf_Satellite_battery (v0 v1 v2 : V) : putF "battery" v2 ([("name", v0), ("store", v1)] : List (Str × V)) = ([("name", v0), ("store", v1), ("battery", v2)] : List (Str × V)) := by kernel_rfl
theorem pf_Satellite_start_level (v0 v1 v2 v3 : V) : putF "start_level" v3 ([("name", v0), ("store", v1), ("battery", v2)] : List (Str × V)) = ([("name", v0), ("store", v1), ("battery", v2), ("start_level", v3)] : List (Str × V)) := by kernel_rfl
theorem pf_Satellite_reserve (v0 v1 v2 v3 v4 : V) : putF "reserve" v4 ([("name", v0), ("store", v1), ("battery", v2), ("start_level", v3)] : List (Str × V)) = ([("name", v0), ("store", v1), ("battery", v2), ("start_level", v3), ("reserve", v4)] : List (Str × V)) := by kernel_rfl
theorem pf_Satellite_charge (v0 v1 v2 v3 v4 v5 : V) : putF "charge" v5 ([("name", v0), ("store", v1), ("battery", v2), ("start_level", v3), ("reserve", v4)] : List (Str × V)) = ([("name", v0), ("store", v1), ("battery", v2), ("start_level", v3), ("reserve", v4), ("charge", v5)] : List (Str × V)) := by kernel_rfl
theorem pf_Satellite_settle (v0 v1 v2 v3 v4 v5 v6 : V) : putF "settle" v6 ([("name", v0), ("store", v1), ("battery", v2), ("start_level", v3), ("reserve", v4), ("charge", v5)] : List (Str × V)) = ([("name", v0), ("store", v1), ("battery", v2), ("start_level", v3), ("reserve", v4), ("charge", v5), ("settle", v6)] : List (Str × V)) := by kernel_rfl
theorem pf_Satellite_light (v0 v1 v2 v3 v4 v5 v6 v7 : V) : putF "light" v7 ([("name", v0), ("store", v1), ("battery", v2), ("start_level", v3), ("reserve", v4), ("charge", v5), ("settle", v6)] : List (Str × V)) = fSatellite v0 v1 v2 v3 v4 v5 v6 v7 := by kernel_rfl
def fStation (v0 v1 v2 : V) : List (Str × V) := [("name", v0), ("antennas", v1), ("turn", v2)]
theorem lk_Station_name (v0 v1 v2 : V) : (fStation v0 v1 v2).lookup ("name" : Str) = some v0 := by kernel_rfl
theorem lk_Station_antennas (v0 v1 v2 : V) : (fStation v0 v1 v2).lookup ("antennas" : Str) = some v1 := by kernel_rfl
theorem lk_Station_turn (v0 v1 v2 : V) : (fStation v0 v1 v2).lookup ("turn" : Str) = some v2 := by kernel_rfl
theorem ln_Station_line (v0 v1 v2 : V) : (fStation v0 v1 v2).lookup ("line" : Str) = none := by kernel_rfl
theorem len_Station (v0 v1 v2 : V) : (fStation v0 v1 v2).length = 3 := rfl
theorem pf_Station_name (v0 : V) : putF "name" v0 ([] : List (Str × V)) = ([("name", v0)] : List (Str × V)) := by kernel_rfl
theorem pf_Station_antennas (v0 v1 : V) : putF "antennas" v1 ([("name", v0)] : List (Str × V)) = ([("name", v0), ("antennas", v1)] : List (Str × V)) := by kernel_rfl
theorem pf_Station_turn (v0 v1 v2 : V) : putF "turn" v2 ([("name", v0), ("antennas", v1)] : List (Str × V)) = fStation v0 v1 v2 := by kernel_rfl
def fRecording (v0 v1 v2 v3 v4 v5 v6 v7 v8 v9 : V) : List (Str × V) := [("name", v0), ("satellite", v1), ("earliest", v2), ("latest", v3), ("length", v4), ("size", v5), ("energy", v6), ("worth", v7), ("rank", v8), ("deadline", v9)]
theorem lk_Recording_name (v0 v1 v2 v3 v4 v5 v6 v7 v8 v9 : V) : (fRecording v0 v1 v2 v3 v4 v5 v6 v7 v8 v9).lookup ("name" : Str) = some v0 := by kernel_rfl
theorem lk_Recording_satellite (v0 v1 v2 v3 v4 v5 v6 v7 v8 v9 : V) : (fRecording v0 v1 v2 v3 v4 v5 v6 v7 v8 v9).lookup ("satellite" : Str) = some v1 := by kernel_rfl
theorem lk_Recording_earliest (v0 v1 v2 v3 v4 v5 v6 v7 v8 v9 : V) : (fRecording v0 v1 v2 v3 v4 v5 v6 v7 v8 v9).lookup ("earliest" : Str) = some v2 := by kernel_rfl
theorem lk_Recording_latest (v0 v1 v2 v3 v4 v5 v6 v7 v8 v9 : V) : (fRecording v0 v1 v2 v3 v4 v5 v6 v7 v8 v9).lookup ("latest" : Str) = some v3 := by kernel_rfl
theorem lk_Recording_length (v0 v1 v2 v3 v4 v5 v6 v7 v8 v9 : V) : (fRecording v0 v1 v2 v3 v4 v5 v6 v7 v8 v9).lookup ("length" : Str) = some v4 := by kernel_rfl
theorem lk_Recording_size (v0 v1 v2 v3 v4 v5 v6 v7 v8 v9 : V) : (fRecording v0 v1 v2 v3 v4 v5 v6 v7 v8 v9).lookup ("size" : Str) = some v5 := by kernel_rfl
theorem lk_Recording_energy (v0 v1 v2 v3 v4 v5 v6 v7 v8 v9 : V) : (fRecording v0 v1 v2 v3 v4 v5 v6 v7 v8 v9).lookup ("energy" : Str) = some v6 := by kernel_rfl
theorem lk_Recording_worth (v0 v1 v2 v3 v4 v5 v6 v7 v8 v9 : V) : (fRecording v0 v1 v2 v3 v4 v5 v6 v7 v8 v9).lookup ("worth" : Str) = some v7 := by kernel_rfl
theorem lk_Recording_rank (v0 v1 v2 v3 v4 v5 v6 v7 v8 v9 : V) : (fRecording v0 v1 v2 v3 v4 v5 v6 v7 v8 v9).lookup ("rank" : Str) = some v8 := by kernel_rfl
theorem lk_Recording_deadline (v0 v1 v2 v3 v4 v5 v6 v7 v8 v9 : V) : (fRecording v0 v1 v2 v3 v4 v5 v6 v7 v8 v9).lookup ("deadline" : Str) = some v9 := by kernel_rfl
theorem ln_Recording_line (v0 v1 v2 v3 v4 v5 v6 v7 v8 v9 : V) : (fRecording v0 v1 v2 v3 v4 v5 v6 v7 v8 v9).lookup ("line" : Str) = none := by kernel_rfl
theorem len_Recording (v0 v1 v2 v3 v4 v5 v6 v7 v8 v9 : V) : (fRecording v0 v1 v2 v3 v4 v5 v6 v7 v8 v9).length = 10 := rfl
theorem pf_Recording_name (v0 : V) : putF "name" v0 ([] : List (Str × V)) = ([("name", v0)] : List (Str × V)) := by kernel_rfl
theorem pf_Recording_satellite (v0 v1 : V) : putF "satellite" v1 ([("name", v0)] : List (Str × V)) = ([("name", v0), ("satellite", v1)] : List (Str × V)) := by kernel_rfl
theorem pf_Recording_earliest (v0 v1 v2 : V) : putF "earliest" v2 ([("name", v0), ("satellite", v1)] : List (Str × V)) = ([("name", v0), ("satellite", v1), ("earliest", v2)] : List (Str × V)) := by kernel_rfl
theorem pf_Recording_latest (v0 v1 v2 v3 : V) : putF "latest" v3 ([("name", v0), ("satellite", v1), ("earliest", v2)] : List (Str × V)) = ([("name", v0), ("satellite", v1), ("earliest", v2), ("latest", v3)] : List (Str × V)) := by kernel_rfl
theorem pf_Recording_length (v0 v1 v2 v3 v4 : V) : putF "length" v4 ([("name", v0), ("satellite", v1), ("earliest", v2), ("latest", v3)] : List (Str × V)) = ([("name", v0), ("satellite", v1), ("earliest", v2), ("latest", v3), ("length", v4)] : List (Str × V)) := by kernel_rfl
theorem pf_Recording_size (v0 v1 v2 v3 v4 v5 : V) : putF "size" v5 ([("name", v0), ("satellite", v1), ("earliest", v2), ("latest", v3), ("length", v4)] : List (Str × V)) = ([("name", v0), ("satellite", v1), ("earliest", v2), ("latest", v3), ("length", v4), ("size", v5)] : List (Str × V)) := by kernel_rfl
theorem pf_Recording_energy (v0 v1 v2 v3 v4 v5 v6 : V) : putF "energy" v6 ([("name", v0), ("satellite", v1), ("earliest", v2), ("latest", v3), ("length", v4), ("size", v5)] : List (Str × V)) = ([("name", v0), ("satellite", v1), ("earliest", v2), ("latest", v3), ("length", v4), ("size", v5), ("energy", v6)] : List (Str × V)) := by kernel_rfl
theorem pf_Recording_worth (v0 v1 v2 v3 v4 v5 v6 v7 : V) : putF "worth" v7 ([("name", v0), ("satellite", v1), ("earliest", v2), ("latest", v3), ("length", v4), ("size", v5), ("energy", v6)] : List (Str × V)) = ([("name", v0), ("satellite", v1), ("earliest", v2), ("latest", v3), ("length", v4), ("size", v5), ("energy", v6), ("worth", v7)] : List (Str × V)) := by kernel_rfl
theorem pf_Recording_rank (v0 v1 v2 v3 v4 v5 v6 v7 v8 : V) : putF "rank" v8 ([("name", v0), ("satellite", v1), ("earliest", v2), ("latest", v3), ("length", v4), ("size", v5), ("energy", v6), ("worth", v7)] : List (Str × V)) = ([("name", v0), ("satellite", v1), ("earliest", v2), ("latest", v3), ("length", v4), ("size", v5), ("energy", v6), ("worth", v7), ("rank", v8)] : List (Str × V)) := by kernel_rfl
theorem pf_Recording_deadline (v0 v1 v2 v3 v4 v5 v6 v7 v8 v9 : V) : putF "deadline" v9 ([("name", v0), ("satellite", v1), ("earliest", v2), ("latest", v3), ("length", v4), ("size", v5), ("energy", v6), ("worth", v7), ("rank", v8)] : List (Str × V)) = fRecording v0 v1 v2 v3 v4 v5 v6 v7 v8 v9 := by kernel_rfl
def fPass (v0 v1 v2 v3 v4 v5 v6 : V) : List (Str × V) := [("name", v0), ("satellite", v1), ("station", v2), ("span", v3), ("room", v4), ("energy", v5), ("fee", v6)]
theorem lk_Pass_name (v0 v1 v2 v3 v4 v5 v6 : V) : (fPass v0 v1 v2 v3 v4 v5 v6).lookup ("name" : Str) = some v0 := by kernel_rfl
theorem lk_Pass_satellite (v0 v1 v2 v3 v4 v5 v6 : V) : (fPass v0 v1 v2 v3 v4 v5 v6).lookup ("satellite" : Str) = some v1 := by kernel_rfl
theorem lk_Pass_station (v0 v1 v2 v3 v4 v5 v6 : V) : (fPass v0 v1 v2 v3 v4 v5 v6).lookup ("station" : Str) = some v2 := by kernel_rfl
theorem lk_Pass_span (v0 v1 v2 v3 v4 v5 v6 : V) : (fPass v0 v1 v2 v3 v4 v5 v6).lookup ("span" : Str) = some v3 := by kernel_rfl
theorem lk_Pass_room (v0 v1 v2 v3 v4 v5 v6 : V) : (fPass v0 v1 v2 v3 v4 v5 v6).lookup ("room" : Str) = some v4 := by kernel_rfl
theorem lk_Pass_energy (v0 v1 v2 v3 v4 v5 v6 : V) : (fPass v0 v1 v2 v3 v4 v5 v6).lookup ("energy" : Str) = some v5 := by kernel_rfl
theorem lk_Pass_fee (v0 v1 v2 v3 v4 v5 v6 : V) : (fPass v0 v1 v2 v3 v4 v5 v6).lookup ("fee" : Str) = some v6 := by kernel_rfl
theorem ln_Pass_line (v0 v1 v2 v3 v4 v5 v6 : V) : (fPass v0 v1 v2 v3 v4 v5 v6).lookup ("line" : Str) = none := by kernel_rfl
theorem len_Pass (v0 v1 v2 v3 v4 v5 v6 : V) : (fPass v0 v1 v2 v3 v4 v5 v6).length = 7 := rfl
theorem pf_Pass_name (v0 : V) : putF "name" v0 ([] : List (Str × V)) = ([("name", v0)] : List (Str × V)) := by kernel_rfl
theorem pf_Pass_satellite (v0 v1 : V) : putF "satellite" v1 ([("name", v0)] : List (Str × V)) = ([("name", v0), ("satellite", v1)] : List (Str × V)) := by kernel_rfl
theorem pf_Pass_station (v0 v1 v2 : V) : putF "station" v2 ([("name", v0), ("satellite", v1)] : List (Str × V)) = ([("name", v0), ("satellite", v1), ("station", v2)] : List (Str × V)) := by kernel_rfl
theorem pf_Pass_span (v0 v1 v2 v3 : V) : putF "span" v3 ([("name", v0), ("satellite", v1), ("station", v2)] : List (Str × V)) = ([("name", v0), ("satellite", v1), ("station", v2), ("span", v3)] : List (Str × V)) := by kernel_rfl
theorem pf_Pass_room (v0 v1 v2 v3 v4 : V) : putF "room" v4 ([("name", v0), ("satellite", v1), ("station", v2), ("span", v3)] : List (Str × V)) = ([("name", v0), ("satellite", v1), ("station", v2), ("span", v3), ("room", v4)] : List (Str × V)) := by kernel_rfl
theorem pf_Pass_energy (v0 v1 v2 v3 v4 v5 : V) : putF "energy" v5 ([("name", v0), ("satellite", v1), ("station", v2), ("span", v3), ("room", v4)] : List (Str × V)) = ([("name", v0), ("satellite", v1), ("station", v2), ("span", v3), ("room", v4), ("energy", v5)] : List (Str × V)) := by kernel_rfl
theorem pf_Pass_fee (v0 v1 v2 v3 v4 v5 v6 : V) : putF "fee" v6 ([("name", v0), ("satellite", v1), ("station", v2), ("span", v3), ("room", v4), ("energy", v5)] : List (Str × V)) = fPass v0 v1 v2 v3 v4 v5 v6 := by kernel_rfl
def fDraft (v0 v1 v2 v3 v4 : V) : List (Str × V) := [("horizon", v0), ("satellites", v1), ("stations", v2), ("recordings", v3), ("passes", v4)]
theorem lk_Draft_horizon (v0 v1 v2 v3 v4 : V) : (fDraft v0 v1 v2 v3 v4).lookup ("horizon" : Str) = some v0 := by kernel_rfl
theorem lk_Draft_satellites (v0 v1 v2 v3 v4 : V) : (fDraft v0 v1 v2 v3 v4).lookup ("satellites" : Str) = some v1 := by kernel_rfl
theorem lk_Draft_stations (v0 v1 v2 v3 v4 : V) : (fDraft v0 v1 v2 v3 v4).lookup ("stations" : Str) = some v2 := by kernel_rfl
theorem lk_Draft_recordings (v0 v1 v2 v3 v4 : V) : (fDraft v0 v1 v2 v3 v4).lookup ("recordings" : Str) = some v3 := by kernel_rfl
theorem lk_Draft_passes (v0 v1 v2 v3 v4 : V) : (fDraft v0 v1 v2 v3 v4).lookup ("passes" : Str) = some v4 := by kernel_rfl
theorem len_Draft (v0 v1 v2 v3 v4 : V) : (fDraft v0 v1 v2 v3 v4).length = 5 := rfl
theorem pf_Draft_horizon (v0 : V) : putF "horizon" v0 ([] : List (Str × V)) = ([("horizon", v0)] : List (Str × V)) := by kernel_rfl
theorem pf_Draft_satellites (v0 v1 : V) : putF "satellites" v1 ([("horizon", v0)] : List (Str × V)) = ([("horizon", v0), ("satellites", v1)] : List (Str × V)) := by kernel_rfl
theorem pf_Draft_stations (v0 v1 v2 : V) : putF "stations" v2 ([("horizon", v0), ("satellites", v1)] : List (Str × V)) = ([("horizon", v0), ("satellites", v1), ("stations", v2)] : List (Str × V)) := by kernel_rfl
theorem pf_Draft_recordings (v0 v1 v2 v3 : V) : putF "recordings" v3 ([("horizon", v0), ("satellites", v1), ("stations", v2)] : List (Str × V)) = ([("horizon", v0), ("satellites", v1), ("stations", v2), ("recordings", v3)] : List (Str × V)) := by kernel_rfl
theorem pf_Draft_passes (v0 v1 v2 v3 v4 : V) : putF "passes" v4 ([("horizon", v0), ("satellites", v1), ("stations", v2), ("recordings", v3)] : List (Str × V)) = fDraft v0 v1 v2 v3 v4 := by kernel_rfl
def fWorld (v0 v1 v2 v3 v4 v5 v6 : V) : List (Str × V) := [("horizon", v0), ("satellites", v1), ("stations", v2), ("recordings", v3), ("passes", v4), ("choices", v5), ("text", v6)]
theorem lk_World_horizon (v0 v1 v2 v3 v4 v5 v6 : V) : (fWorld v0 v1 v2 v3 v4 v5 v6).lookup ("horizon" : Str) = some v0 := by kernel_rfl
theorem lk_World_satellites (v0 v1 v2 v3 v4 v5 v6 : V) : (fWorld v0 v1 v2 v3 v4 v5 v6).lookup ("satellites" : Str) = some v1 := by kernel_rfl
theorem lk_World_stations (v0 v1 v2 v3 v4 v5 v6 : V) : (fWorld v0 v1 v2 v3 v4 v5 v6).lookup ("stations" : Str) = some v2 := by kernel_rfl
theorem lk_World_recordings (v0 v1 v2 v3 v4 v5 v6 : V) : (fWorld v0 v1 v2 v3 v4 v5 v6).lookup ("recordings" : Str) = some v3 := by kernel_rfl
theorem lk_World_passes (v0 v1 v2 v3 v4 v5 v6 : V) : (fWorld v0 v1 v2 v3 v4 v5 v6).lookup ("passes" : Str) = some v4 := by kernel_rfl
theorem lk_World_choices (v0 v1 v2 v3 v4 v5 v6 : V) : (fWorld v0 v1 v2 v3 v4 v5 v6).lookup ("choices" : Str) = some v5 := by kernel_rfl
theorem lk_World_text (v0 v1 v2 v3 v4 v5 v6 : V) : (fWorld v0 v1 v2 v3 v4 v5 v6).lookup ("text" : Str) = some v6 := by kernel_rfl
theorem ln_World_eq (v0 v1 v2 v3 v4 v5 v6 : V) : (fWorld v0 v1 v2 v3 v4 v5 v6).lookup ("__eq__" : Str) = none := by kernel_rfl
theorem len_World (v0 v1 v2 v3 v4 v5 v6 : V) : (fWorld v0 v1 v2 v3 v4 v5 v6).length = 7 := rfl
theorem pf_World_horizon (v0 : V) : putF "horizon" v0 ([] : List (Str × V)) = ([("horizon", v0)] : List (Str × V)) := by kernel_rfl
theorem pf_World_satellites (v0 v1 : V) : putF "satellites" v1 ([("horizon", v0)] : List (Str × V)) = ([("horizon", v0), ("satellites", v1)] : List (Str × V)) := by kernel_rfl
theorem pf_World_stations (v0 v1 v2 : V) : putF "stations" v2 ([("horizon", v0), ("satellites", v1)] : List (Str × V)) = ([("horizon", v0), ("satellites", v1), ("stations", v2)] : List (Str × V)) := by kernel_rfl
theorem pf_World_recordings (v0 v1 v2 v3 : V) : putF "recordings" v3 ([("horizon", v0), ("satellites", v1), ("stations", v2)] : List (Str × V)) = ([("horizon", v0), ("satellites", v1), ("stations", v2), ("recordings", v3)] : List (Str × V)) := by kernel_rfl
theorem pf_World_passes (v0 v1 v2 v3 v4 : V) : putF "passes" v4 ([("horizon", v0), ("satellites", v1), ("stations", v2), ("recordings", v3)] : List (Str × V)) = ([("horizon", v0), ("satellites", v1), ("stations", v2), ("recordings", v3), ("passes", v4)] : List (Str × V)) := by kernel_rfl
theorem pf_World_choices (v0 v1 v2 v3 v4 v5 : V) : putF "choices" v5 ([("horizon", v0), ("satellites", v1), ("stations", v2), ("recordings", v3), ("passes", v4)] : List (Str × V)) = ([("horizon", v0), ("satellites", v1), ("stations", v2), ("recordings", v3), ("passes", v4), ("choices", v5)] : List (Str × V)) := by kernel_rfl
theorem pf_World_text (v0 v1 v2 v3 v4 v5 v6 : V) : putF "text" v6 ([("horizon", v0), ("satellites", v1), ("stations", v2), ("recordings", v3), ("passes", v4), ("choices", v5)] : List (Str × V)) = fWorld v0 v1 v2 v3 v4 v5 v6 := by kernel_rfl
theorem pu_Line_place (v0 v1 v2 v3 w : V) : putF "place" w (fLine v0 v1 v2 v3) = fLine v0 v1 w v3 := by kernel_rfl
theorem pu_Line_column (v0 v1 v2 v3 w : V) : putF "column" w (fLine v0 v1 v2 v3) = fLine v0 v1 v2 w := by kernel_rfl
theorem lk_World_choices_pre : True := trivial
end Dp
namespace Dp
open PySem PySem.Spec PyProof.Rows L2
/-! ### rules that the layer lacks -/
section
variable {X : Cx} {pos apos tpos : Pos}
/-- o.f as one target of several -/
def gFld (K : PySem.W.Frag) (ta : TE) (f : Str) : TG := fun y σ H Q => ta σ H fun x H2 => ∃ a C dx fs, x = .ref a ∧ H2 a = some (.ins C dx fs) ∧ Cls K C ∧ NoAttr K C f ∧ fs.length < 1000 ∧
  Q σ (upd H2 a (.ins C dx (putF f y fs)))
theorem pg_fld {o : Expr} {f : Str} {ta : TE} (ho : PE X o ta)
    (shape : ∀ v, assign (.Attribute o f pos) X.env v = (do
      let ov ← holding [v] (eval o X.env)
      standAt pos.atName
      holding [v, ov] (setAttr ov f v)
      release [v, ov] []) := by intro _; rfl) : PG X (.Attribute o f pos) (gFld X.K ta f) := by
  constructor
  intro pins s σ H v u Q I rel h
  rw [shape]
  refine wpAny_bind (wpAny_holding (thn (ho.run pins s σ H _ I h) ?_))
  rintro ov s1 ⟨x, H1, I1, rx, a, C, dx, fs, ex, ea, cl, na, few, q⟩
  subst ex
  have eov : ov = Value.ref a := rx
  subst eov
  refine wpAny_bind (wpAny_standAt (wpAny_bind (wpAny_holding ?_)))
  exact setattr_ok I1 ea cl na few rel fun s2 I2 => wpAny_release ⟨σ, _, I2, q⟩
/-- dict(d): a new dict with the same pairs -/
theorem call_dict_same : CallR X (.type "dict") (fun xs H Q => ∃ (a : Addr) (kvs : List (Key × V)), xs = [.ref a] ∧ H a = some (.dK kvs) ∧ ∀ p, H p = none → Q (.ref p) (upd H p (.dK kvs))) := by
  intro pins s σ H xs us Q I rel h
  obtain ⟨a, kvs, rfl, ha, q⟩ := h
  obtain ⟨u, rfl, ru⟩ := vals1 rel
  cases ru
  exact d_copyOf I (.inl ha) fun p s' hp I' => ⟨.ref p, _, I', rfl, q p hp⟩
/-- C.m(e, ..), m a static method of the class at C: the def at g -/
theorem pe_stat {CX : CXT} {k : Nat} {C p g : Addr} {mc : Value} {fd : FuncData} {ps : List Str} {sp : Sp} {E : XK} {o e : Expr} {es : List Expr} {m : Str} {ta : TE} {t : TA} {pl : Sem Bool}
    (ho : PE X o ta) (rd : ClX.CRead X.K C mc) (found : PySem.W.findCls X.K (.ref C) mc m = some (.get (.builtin "staticmethod.__get__") (.ref p) .none (.ref C)))
    (rec_ : ∃ rest, PySem.W.recIn X.K p "staticmethod" = some (.ref g :: rest)) (kp : PySem.W.keepIn X.K (.ref g) = true)
    (F : FnOk X.prog X.w X.K X.mg X.base CX k g fd ps sp) (room : Room k X.A) (bi : Binds X.K fd ps []) (pas : Passes CX X E) (ha : PA X (e :: es) t)
    (stars : starEach (e :: es) X.env = (false, eval e X.env) :: starEach es X.env := by rfl) (plain : (backTo pos (starEach es X.env)).any (·.1) = false := by rfl)
    (shape : eval (.Call (.Attribute o m apos) (e :: es) [] pos) X.env = (do
      let ov ← eval o X.env
      standAt apos.atName
      let (f, first) ← holding [ov] (getMethod ov m pl)
      callWith pos f first (backTo pos (starEach (e :: es) X.env)) (backToKw pos (keywordEach [] X.env))) := by rfl) :
    PE X (.Call (.Attribute o m apos) (e :: es) [] pos) (fun σ H Q => ta σ H fun x H1 => x = .ref C ∧ t σ H1 fun vs H2 => sp vs H2 Q E) := by
  constructor
  intro pins s σ H Q I h
  obtain ⟨rest, hrest⟩ := rec_
  refine PySem.W.methodCall_KW (pl := pl) (thn (ho.run pins s σ H _ I h) ?_) shape
  rintro u s1 ⟨x, H1, I1, rx, ex, q⟩
  subst ex
  have eu : u = Value.ref C := rx
  subst eu
  refine PySem.W.method_cls I1.kIn rd.ga (PySem.W.cls_bind I1.kIn rd.rd found (wpAny_call ?_))
  refine PySem.W.sm_get (s := { s1 with toks := s1.toks + 1 }) I1.kIn hrest (PySem.W.handed_on rfl ?_)
  have I2 : Inv X pins σ H1 { s1 with toks := s1.toks + 1 } := I1.tok _
  refine PySem.W.callWith_K (h₀ := X.base) I2.ok.mod.kin kp (thn (ha.run pos pins _ σ H1 _ I2 q) ?_) stars plain
  rintro us s2 ⟨vs, H2, I3, rv, q2⟩
  exact ⟨I3.kIn, run_fn F room bi .nil pas I3 rv (by rw [List.append_nil]; exact q2)⟩
/-- x == y, x an instance of the class at C with an own ==, y a text or such an instance: what the own == promises -/
def rEqOwn (C : Addr) (sp : Sp) : R2 := fun x y H Q => ∃ a dx fs, x = .ref a ∧ H a = some (.ins C dx fs) ∧ ((∃ z, y = .str z) ∨ ∃ b dy gs, y = .ref b ∧ H b = some (.ins C dy gs)) ∧
  sp [x, y] H (fun v H' => ∃ k, v = .bl k ∧ Q (.bl k) H') fun _ _ _ => False
theorem op_eqOwn {CX : CXT} {n : Nat} {C f : Addr} {fd : FuncData} {ps : List Str} {sp : Sp} (F : FnOk X.prog X.w X.K X.mg X.base CX n f fd ps sp) (at_ : PySem.W.findIn X.K (.ref C) "__eq__" = some (some (.ref f)))
    (isf : PySem.W.isFn X.K (.ref f) = true) (bi : Binds X.K fd ps []) (pas : Passes CX X fun _ _ _ => False) (room : Room n X.A) (sub : PySem.W.subIn X.K (.type "str") (.ref C) = some false) : OpR X (compareOp .Eq) (rEqOwn C sp) := by
  intro pins s σ H x y v u Q I rx ry h
  obtain ⟨a, dx, fs, rfl, ha, hy, hsp⟩ := h
  have ev : v = Value.ref a := rx
  subst ev
  show wpAny (model X.prog X.w) X.A (richCompare .Eq (.ref a) u) (EP X pins σ Q) X.xe s
  obtain ⟨mA, J, _⟩ := ins_get I.hok ha
  obtain ⟨od, J, _⟩ := J.look
  obtain ⟨m, hF⟩ := I.fr
  have ty : ∃ tb, PySem.W.Looks (model X.prog X.w) s.heap (typeOf u) tb ∧ PySem.W.notFirst X.K C tb = true := by
    rcases hy with ⟨z, rfl⟩ | ⟨b, dy, gs, rfl, hb⟩
    · obtain ⟨t, rfl⟩ := (show ∃ t, u = Value.str z t from ry)
      refine ⟨.type "str", PySem.W.Looks.of_pure rfl, ?_⟩
      unfold PySem.W.notFirst
      rw [sub]
      exact Bool.or_true _
    · have eu : u = Value.ref b := ry
      subst eu
      obtain ⟨mB, J', _⟩ := ins_get I.hok hb
      obtain ⟨od', J', _⟩ := J'.look
      exact ⟨.ref C, J'.type, by simp [PySem.W.notFirst]⟩
  obtain ⟨tb, hT, hN⟩ := ty
  refine PySem.W.cmp_K (op := .Eq) (tb := tb) room.units0 hF I.ok.mod.kin J hT hN at_ isf ?_
  have r2 : Vals [V.ref a, y] [Value.ref a, u] := .cons rfl (.cons ry .nil)
  refine thn (run_fn F room bi .nil pas I r2 hsp) ?_
  rintro w s2 ⟨z, H2, I2, rz, k, ez, q⟩
  subst ez
  have ew : w = Value.bool k := rz
  subst ew
  exact ⟨.bl k, H2, I2, rfl, q⟩
end
/-! ### enumerate(tuple) -/
/-- the tuple at a, each item in a new pair with its number -/
def ItE (K : PySem.W.Frag) (a : Addr) : It :=
  ⟨fun i H => ∃ (xs : List V) (x : V), SqT K H a xs ∧ xs[i]? = some x, fun i H v H' => ∃ N x, v = .ref N ∧ H N = none ∧ H' = upd H N (.tup [.int (i : Nat), x]) ∧ ∀ xs, SqT K H a xs → xs[i]? = some x, fun i H => ∃ xs : List V, SqT K H a xs ∧ xs.length ≤ i⟩
theorem walk_enumT {K : PySem.W.Frag} {a : Addr} {xs : List V} : Walk (ItE K a) xs.length (fun H => SqT K H a xs) (YPair (fun i => some (.int (i : Nat))) (fun i => xs[i]?)) := by
  constructor
  · intro i H hi q
    exact ⟨xs, xs[i], q, by simp [hi]⟩
  · intro H q
    exact ⟨xs, q, Nat.le_refl _⟩
  · rintro i H v H' hi q ⟨N, x, h1, h2, h3, h4⟩
    exact ⟨N, .int (i : Nat), x, h1, h2, h3, rfl, h4 xs q⟩
theorem ne_cls {h : Heap} {a b : Addr} {o u : Obj} (ha : h.get? a = some o) (hb : h.get? b = some u) (d : o.cls ≠ u.cls) : a ≠ b := by
  intro e
  subst e
  rw [ha] at hb
  exact d (congrArg Obj.cls (Option.some.inj hb))
theorem turn_enumT {P : Program} {w : World} {K : PySem.W.Frag} {elts : List Expr} {kk : Nat} {tp : Pos} (a e it : Addr) :
    Turn P w K (.Tuple elts kk tp) (ItE K a) [e, it] e (fun i h => (∃ old, IsEnum h e it ((i : Nat) : Int) old) ∧ h.IsTupleIter it a i ∧ e ≠ it) where
  mem := List.mem_cons_self
  obj := by
    rintro i h ⟨⟨old, he⟩, ⟨o, ho, hc, hd⟩, _⟩ b hb
    rcases List.mem_cons.mp hb with z | z
    · subst z
      exact ⟨_, he, fun v q => nomatch q⟩
    · rw [List.mem_singleton.mp z]
      exact ⟨o, ho, fun v q => by rw [hd] at q; cases q⟩
  keep := by
    rintro i h h' ⟨⟨old, he⟩, ⟨o, ho, hc, hd⟩, hne⟩ k
    exact ⟨⟨old, k e List.mem_cons_self _ he⟩, ⟨o, k it (List.mem_cons_of_mem _ List.mem_cons_self) o ho, hc, hd⟩, hne⟩
  item := by
    intro X hP hw hK calm i pins s σ H E I hf st hg
    subst hP hw hK
    obtain ⟨⟨old, he⟩, hit, hne⟩ := st
    obtain ⟨xs, x, hq, hx⟩ := hg
    obtain ⟨its, rv, ht, hz⟩ := I.tuple hq
    obtain ⟨u, hu, ru⟩ := rv.get hx
    obtain ⟨oi, hoi, hci, hdi⟩ := id hit
    obtain ⟨ot, hot, hct, hdt⟩ := id ht
    have le_e : e < s.heap.objs.size := Heap.lt_size he
    have le_i : it < s.heap.objs.size := Heap.lt_size hoi
    have hai : a ≠ it := ne_cls hot hoi (by rw [hct, hci]; decide +kernel)
    have hea : e ≠ a := ne_cls he hot (by rw [hct]; show Value.type "enumerate" ≠ Value.type "tuple"; decide +kernel)
    have hlt : i < its.toArray.size := by
      have z := (List.getElem?_eq_some_iff.mp hu).1
      simpa using z
    have hin : (X.A.in1).handled = none := I.ok.hd calm
    refine wpAny_pyNext_enum_itemD (Draws.tuple hin it a hai its.toArray) he ⟨hit, ht⟩ hlt hne (by simp [hne, hea]) ?_
    intro y h' tk hy hout hst hT hsz hk
    have ey : y = u := by
      have z : its.toArray[i]? = some u := by simpa using hu
      rw [z] at hy
      exact (Option.some.inj hy).symm
    subst ey
    refine ⟨_, rfl, wpAny_letOwnedTupleGo_enum (s := { s with heap := h', toks := tk + 1 }) hout ?_⟩
    intro h2 he2 sb
    have hT2 : h2.get? s.heap.objs.size = some { cls := .type "tuple", data := .seq #[.int i tk, y] } := (sb.2 _ (Nat.ne_of_gt le_e)).trans hT
    have hnew : ObjOk X.prog X.w (upd H s.heap.objs.size (.tup [.int (i : Nat), x])) h2 s.heap.objs.size (.tup [.int (i : Nat), x]) :=
      ⟨by show 2 ≤ sizeLine; decide, [.int i tk, y], .cons ⟨_, rfl⟩ (.cons ru .nil), ⟨_, hT2, rfl, _, rfl⟩⟩
    have I2 : Inv X pins σ (upd H s.heap.objs.size (.tup [.int (i : Nat), x])) { s with heap := h2, toks := tk + 1 } := by
      refine I.turnedNew (ch := [e, it]) ?_ hf (Nat.le_refl _) hnew
      intro b ob hb q
      exact (sb.2 b fun z => hb (by simp [z])).trans (hk b ob (fun z => hb (by simp [z])) (fun z => hb (by simp [z])) q)
    refine ⟨.ref s.heap.objs.size, _, I2, rfl, ⟨_, x, rfl, I.hok.fresh (Nat.le_refl _), rfl, ?_⟩, ⟨⟨y, ?_⟩, ?_, hne⟩, ?_⟩
    · intro ys hys
      rw [I.tuple_inj hys hq]
      exact hx
    · have e1 : ((i + 1 : Nat) : Int) = (i : Int) + 1 := by omega
      rw [e1]
      exact he2
    · obtain ⟨o2, ho2, hc2, hd2⟩ := hst.1
      exact ⟨o2, (sb.2 it (Ne.symm hne)).trans ho2, hc2, hd2⟩
    · intro b hb
      have hlt2 : b < s.heap.objs.size := by
        rcases List.mem_cons.mp hb with z | z
        · rw [z]; exact le_e
        · rw [List.mem_singleton.mp z]; exact le_i
      rw [upd_ne (Nat.ne_of_lt hlt2)]
      exact (hf b hb).1
  done := by
    intro X hP hw hK calm i pins s σ H E I hf st hg
    subst hP hw hK
    obtain ⟨⟨old, he⟩, hit, hne⟩ := st
    obtain ⟨xs, hq, hx⟩ := hg
    obtain ⟨its, rv, ht, hz⟩ := I.tuple hq
    obtain ⟨oi, hoi, hci, hdi⟩ := id hit
    obtain ⟨ot, hot, hct, hdt⟩ := id ht
    have hai : a ≠ it := ne_cls hot hoi (by rw [hct, hci]; decide +kernel)
    have hin : (X.A.in1).handled = none := I.ok.hd calm
    have hn : its.toArray[i]? = none := by
      have z := rv.length
      simp
      omega
    obtain ⟨f0, f1, f2, f3, f4, f5⟩ := hf it (List.mem_cons_of_mem _ List.mem_cons_self)
    have D : Draws X.prog X.w X.A.in1 it [it, a] i (fun j v => its.toArray[j]? = some v ∧ False) (fun j h => j = i ∧ h.IsTupleIter it a i ∧ h.IsTuple a its.toArray) := by
      constructor
      · rintro j h ⟨_, ⟨o, ho, _⟩, _⟩
        exact ⟨o, ho⟩
      · rintro j h h' ⟨ej, q1, q2⟩ hk
        exact ⟨ej, q1.at fun o z => hk it (by simp) o z, q2.at fun o z => hk a (by simp) o z⟩
      · rintro j s' Q' E' hj ⟨ej, _⟩ _
        omega
      · rintro s' Q' E' ⟨_, q1, q2⟩ hE
        exact wpAny_nextOf_tuple_end hin q1 q2 hn hE
    exact wpAny_pyNext_enum_endD D he ⟨rfl, hit, ht⟩ fun h' eb => ⟨rfl, I.turned (t' := s.toks) (fun b o hb q => eb b o hb q) f0 f1 f3 f4 f5⟩
  self := by
    rintro A i s Q E ⟨⟨_, he⟩, _⟩ h
    exact wpAny_pyIter_enum he h
set_option maxHeartbeats 4000000 in
theorem meets_enumT {v : Value} {o : Obj} {G : Heap → Prop} (B : Begins v o G) :
    Meets (Builtin.«enumerate.__new__» ⟨[.type "enumerate", v], []⟩) (fun _ R s => G s.heap ∧
      R (.ok (.ret (.ref (s.heap.push o).objs.size))) { s with heap := (s.heap.push o).push { cls := .type "enumerate", data := .fields #[.none, .bool false, .ref s.heap.objs.size, rawInt 0, .none, .none] } }) :=
  .of_wp fun prog w A R s h => by
    obtain ⟨hp, g, d, tk, os⟩ := s
    obtain ⟨h1, h2⟩ := h
    have hsub := sub_enumerate
    have it1 : ∀ {A' : Around} {E : Value → Shared → Prop} {Q : Value → Shared → Prop}, Q (.ref hp.objs.size) ⟨hp.push o, g, d, tk, os⟩ → wpAny (model prog w) A' (pyIter v) Q E ⟨hp, g, d, tk, os⟩ :=
      fun q => B.iter prog w _ _ ⟨hp, g, d, tk, os⟩ _ h1 q
    wp_walk using it1
    refine wpAny_stack_any fun st => wpAny_pure ?_
    split
    · rename_i c _ _ _ _ _
      cases (c == Value.type "enumerate")
      · wp_walk using it1
        exact ⟨_, rfl, h2⟩
      · wp_walk using it1
        exact ⟨_, rfl, h2⟩
    · wp_walk using it1
      exact ⟨_, rfl, h2⟩
theorem call_enumT {prog : Program} {w : World} {A : Around} {E : Value → Shared → Prop} {s : Shared} {t : Addr} {items : Array Value} {Q : Value → Shared → Prop} (ht : s.heap.IsTuple t items)
    (h : ∀ h', IsEnum h' (s.heap.objs.size + 1) s.heap.objs.size 0 .none → h'.IsTupleIter s.heap.objs.size t 0 →
      (∀ b o, s.heap.get? b = some o → h'.get? b = some o) → Q (.ref (s.heap.objs.size + 1)) { s with heap := h' }) :
    wpAny (model prog w) A (call (.type "enumerate") [.ref t]) Q E s := by
  refine callType_new F.called_enumerate (by decide) (F.typeCall_enumerate_1 _) (F.newCall_enumerate_1 _) (fun obj => F.args_object_init_2 obj _) F.entry_enumerate_new (meets_enumT (begins_tuple t items)) ⟨ht, ?_⟩
  show _ ∧ _
  have hz : (s.heap.push { cls := .type "tuple_iterator", data := .fields #[.ref t, .int 0 0] }).objs.size = s.heap.objs.size + 1 := Heap.size_push ..
  rw [hz]
  have he : IsEnum ((s.heap.push { cls := .type "tuple_iterator", data := .fields #[.ref t, .int 0 0] }).push
      { cls := .type "enumerate", data := .fields #[.none, .bool false, .ref s.heap.objs.size, rawInt 0, .none, .none] }) (s.heap.objs.size + 1) s.heap.objs.size 0 .none := by
    have z := Heap.get?_push_size (s.heap.push { cls := .type "tuple_iterator", data := .fields #[.ref t, .int 0 0] }) (o := { cls := .type "enumerate", data := .fields #[.none, .bool false, .ref s.heap.objs.size, rawInt 0, .none, .none] }) rfl
    rw [hz] at z
    exact z
  refine ⟨⟨_, he, rfl⟩, h _ he ⟨_, Heap.get?_push_of_some _ (Heap.get?_push_size _ rfl), rfl, rfl⟩ ?_⟩
  intro b o x
  exact Heap.get?_push_of_some _ (Heap.get?_push_of_some _ x)
def iEnumT (K : PySem.W.Frag) (ta : TA) : TI := fun σ H R => ta σ H fun vs H1 => ∃ a xs, vs = [.ref a] ∧ SqT K H1 a xs ∧ R (ItE K a) H1
theorem pi_enumT {X : Cx} {e : Expr} {ta : TA} {p pos tp : Pos} {elts : List Expr} {kk : Nat} (hg : Gl X "enumerate") (hm : X.mg "enumerate" = none) (ha : PA X [e] ta) (hs : starEach [e] X.env = [(false, eval e X.env)] := by rfl) :
    PI X (.Tuple elts kk tp) (.Call (.Name "enumerate" p) [e] [] pos) (iEnumT X.K ta) := by
  constructor
  intro pins s σ H R I h
  refine Call_ (ld_blt I hg hm boot_enumerate (PyProof.Rows.callWith_type1 (thn (ha.run pos pins s σ H _ I h) ?_) hs rfl))
  rintro us s1 ⟨vs, H1, I1, r1, a, xs, ex, hq, q⟩
  subst ex
  obtain ⟨u, rfl, ru⟩ := vals1 r1
  cases ru
  obtain ⟨its, rv, ht, hz⟩ := I1.tuple hq
  refine call_enumT ht fun h' he hit hk => wpAny_pyIter_enum he ?_
  have I2 : Inv X pins σ H1 { s1 with heap := h' } := I1.kept (t' := s1.toks) hk
  refine ⟨s1.heap.objs.size + 1, [s1.heap.objs.size + 1, s1.heap.objs.size], _, _, H1, rfl, I2, turn_enumT a (s1.heap.objs.size + 1) s1.heap.objs.size, ⟨⟨.none, he⟩, hit, Nat.succ_ne_self _⟩, ?_, q⟩
  intro b hb
  have hle : s1.heap.objs.size ≤ b := by
    rcases List.mem_cons.mp hb with z | z
    · rw [z]; exact Nat.le_add_right _ _
    · rw [List.mem_singleton.mp z]; exact Nat.le_refl _
  exact I1.fpOk hle (I1.hok.fresh hle)
end Dp
namespace Dp
open PySem SX
/-! ### texts as lists of signs -/
def lit (s : String) : List Nat := s.toList.map Char.toNat
theorem lit_S (s : String) : Str.ofString s = S (lit s) := Str.ofString_eq_toList s
def num (i : Int) : List Nat := TL.numL i.toNat
theorem num_S {i : Int} (h : 0 ≤ i) : Str.ofString (toString i) = S (num i) := by
  have e : i = ((i.toNat : Nat) : Int) := by omega
  have z : Str.ofString (toString ((i.toNat : Nat) : Int)) = S (TL.numL i.toNat) := SX.num_S i.toNat
  rw [← e] at z
  exact z
theorem num_len {i : Int} (h1 : i < 10000000) : (num i).length ≤ 7 := TL.numL_len (by decide) (by omega)
theorem num_ne (i : Int) : num i ≠ [] := TL.numL_ne _
theorem num_dig (i : Int) : ∀ c ∈ num i, 48 ≤ c ∧ c ≤ 57 := TL.numL_digits _
theorem num_int {i : Int} (h : 0 ≤ i) (h1 : i < 10000000) : intText? (S (num i)) = some i := by
  have z := int_S (a := num i) (List.all_eq_true.mpr fun c hc => by
    have q := num_dig i c hc
    simp [q.1, q.2]) (num_ne i) (Nat.le_trans (num_len h1) (by decide))
  have v : NumText.digitsVal (num i) = i.toNat := TL.numL_val _
  rw [v] at z
  rw [z]
  congr 1
  omega
theorem numL_zero : ∀ (n : Nat) (r : List Nat), TL.numL n = 48 :: r → r = [] := by
  intro n
  induction n using Nat.strongRecOn with
  | _ n ih =>
    intro r h
    by_cases hn : n < 10
    · rw [TL.numL_lt hn] at h
      injection h with _ h2
      exact h2.symm
    · rw [TL.numL_step (by omega)] at h
      exfalso
      cases e : TL.numL (n / 10) with
      | nil => exact TL.numL_ne _ e
      | cons c t =>
        rw [e] at h
        injection h with h1 h2
        rw [h1] at e
        have z := ih (n / 10) (by omega) t e
        rw [z] at e
        have hv := TL.numL_val (n / 10)
        rw [e] at hv
        have : (n / 10) = 0 := by
          rw [← hv]
          decide
        omega
theorem num_zero {i : Int} {r : List Nat} (h : num i = 48 :: r) : r = [] := numL_zero _ r h
/-! ### worlds -/
structure Sat where
  name : List Nat
  store : Int
  battery : Int
  level : Int
  reserve : Int
  charge : Int
  settle : Int
  light : List (Int × Int)
structure Sta where
  name : List Nat
  ant : Int
  turn : Int
structure Rec where
  name : List Nat
  sat : Nat
  ear : Int
  lat : Int
  len : Int
  size : Int
  energy : Int
  worth : Int
  rank : Int
  dead : Int
structure Pas where
  name : List Nat
  sat : Nat
  sta : Nat
  first : Int
  last : Int
  room : Int
  energy : Int
  fee : Int
structure Wd where
  hor : Int
  sats : List Sat
  stas : List Sta
  recs : List Rec
  pass : List Pas
def Wd.sn (W : Wd) : List (List Nat) := W.sats.map (·.name)
def Wd.tn (W : Wd) : List (List Nat) := W.stas.map (·.name)
def lightW (l : List (Int × Int)) : List (List Nat) := l.flatMap fun p => [num p.1, num p.2]
def satW (s : Sat) : List (List Nat) := [lit "satellite", s.name, lit "store", num s.store, lit "battery", num s.battery, lit "level", num s.level, lit "reserve", num s.reserve, lit "charge", num s.charge, lit "settle", num s.settle, lit "light"] ++ lightW s.light
def staW (s : Sta) : List (List Nat) := [lit "station", s.name, lit "antennas", num s.ant, lit "turn", num s.turn]
def recW (sn : List (List Nat)) (r : Rec) : List (List Nat) := [lit "recording", r.name, lit "by", sn.getD r.sat [], lit "from", num r.ear, lit "to", num r.lat, lit "length", num r.len, lit "size", num r.size, lit "energy", num r.energy,
  lit "worth", num r.worth, lit "rank", num r.rank, lit "until", num r.dead]
def pasW (sn tn : List (List Nat)) (p : Pas) : List (List Nat) := [lit "pass", p.name, lit "by", sn.getD p.sat [], lit "over", tn.getD p.sta [], lit "from", num p.first, lit "to", num p.last, lit "room", num p.room, lit "energy", num p.energy, lit "fee", num p.fee]
def horW (h : Int) : List (List Nat) := [lit "horizon", num h]
def restW (W : Wd) : List (List (List Nat)) := W.sats.map satW ++ (W.stas.map staW ++ (W.recs.map (recW W.sn) ++ W.pass.map (pasW W.sn W.tn)))
def worldW (W : Wd) : List (List (List Nat)) := horW W.hor :: restW W
def lineOf (ws : List (List Nat)) : List Nat := TL.joinL [32] ws
def textOf (W : Wd) : List Nat := (worldW W).flatMap fun ws => lineOf ws ++ [10]
/-! ### which worlds -/
def isL (c : Nat) : Prop := (97 ≤ c ∧ c ≤ 122) ∨ (65 ≤ c ∧ c ≤ 90)
def isD (c : Nat) : Prop := 48 ≤ c ∧ c ≤ 57
structure NameOk (l : List Nat) : Prop where
  hd : ∃ c r, l = c :: r ∧ isL c
  al : ∀ c ∈ l, isL c ∨ isD c
  few : l.length ≤ 15
def LightOk (hor : Int) : Int → List (Int × Int) → Prop
  | _, [] => True
  | m, p :: r => m ≤ p.1 ∧ p.1 < p.2 ∧ p.2 ≤ hor ∧ LightOk hor p.2 r
structure SatOk (hor : Int) (s : Sat) : Prop where
  name : NameOk s.name
  store : 0 ≤ s.store ∧ s.store ≤ 1000000
  battery : 0 ≤ s.battery ∧ s.battery ≤ 1000000
  level : 0 ≤ s.level ∧ s.level ≤ s.battery
  reserve : 0 ≤ s.reserve ∧ s.reserve ≤ s.level
  charge : 0 ≤ s.charge ∧ s.charge ≤ 1000
  settle : 0 ≤ s.settle ∧ s.settle ≤ 60
  light : LightOk hor 0 s.light
  few : s.light.length ≤ 3
structure StaOk (s : Sta) : Prop where
  name : NameOk s.name
  ant : 1 ≤ s.ant ∧ s.ant ≤ 3
  turn : 0 ≤ s.turn ∧ s.turn ≤ 60
structure RecOk (hor : Int) (ns : Nat) (r : Rec) : Prop where
  name : NameOk r.name
  sat : r.sat < ns
  ear : 0 ≤ r.ear ∧ r.ear ≤ hor - 1
  lat : r.ear ≤ r.lat ∧ r.lat ≤ r.ear + 20 ∧ r.lat ≤ hor - 1
  len : 1 ≤ r.len ∧ r.len ≤ hor - r.lat
  size : 0 ≤ r.size ∧ r.size ≤ 1000000
  energy : 0 ≤ r.energy ∧ r.energy ≤ 1000000
  worth : 1 ≤ r.worth ∧ r.worth ≤ 1000
  rank : 1 ≤ r.rank ∧ r.rank ≤ 3
  dead : 0 ≤ r.dead ∧ r.dead ≤ hor
structure PasOk (hor : Int) (ns nt : Nat) (p : Pas) : Prop where
  name : NameOk p.name
  sat : p.sat < ns
  sta : p.sta < nt
  span : 0 ≤ p.first ∧ p.first < p.last ∧ p.last ≤ hor
  room : 0 ≤ p.room ∧ p.room ≤ 1000000
  energy : 0 ≤ p.energy ∧ p.energy ≤ 1000000
  fee : 0 ≤ p.fee ∧ p.fee ≤ 1000
structure WOk (W : Wd) : Prop where
  hor : 1 ≤ W.hor ∧ W.hor ≤ 500
  nsat : W.sats.length ≤ 3
  nsta : W.stas.length ≤ 3
  nrec : W.recs.length ≤ 10
  npas : W.pass.length ≤ 10
  sats : ∀ s ∈ W.sats, SatOk W.hor s
  stas : ∀ s ∈ W.stas, StaOk s
  recs : ∀ r ∈ W.recs, RecOk W.hor W.sats.length r
  pass : ∀ p ∈ W.pass, PasOk W.hor W.sats.length W.stas.length p
  dsat : (W.sats.map (·.name)).Nodup
  dsta : (W.stas.map (·.name)).Nodup
  drec : (W.recs.map (·.name)).Nodup
  dpas : (W.pass.map (·.name)).Nodup
/-! ### words that may stand in a line -/
def WordOk (w : List Nat) : Prop := w ≠ [] ∧ w.length ≤ 15 ∧ ∀ c ∈ w, 33 ≤ c
instance (w : List Nat) : Decidable (WordOk w) := by unfold WordOk; infer_instance
theorem NameOk.word {l : List Nat} (h : NameOk l) : WordOk l := by
  obtain ⟨⟨c, r, e, _⟩, al, few⟩ := h
  refine ⟨by rw [e]; simp, few, fun d hd => ?_⟩
  rcases al d hd with (q | q) | q
  · omega
  · omega
  · have z : 48 ≤ d := q.1
    omega
theorem num_word {i : Int} (h1 : i < 10000000) : WordOk (num i) := ⟨num_ne i, Nat.le_trans (num_len h1) (by decide), fun c hc => by
  have z := num_dig i c hc
  omega⟩
def LineOk (ws : List (List Nat)) : Prop := ws ≠ [] ∧ ws.length ≤ 24 ∧ ∀ w ∈ ws, WordOk w
theorem lightW_len : ∀ l : List (Int × Int), (lightW l).length = 2 * l.length
  | [] => rfl
  | p :: r => by
    have z := lightW_len r
    show ([num p.1, num p.2] ++ lightW r).length = _
    rw [List.length_append, z, List.length_cons]
    show 2 + 2 * r.length = 2 * (r.length + 1)
    omega
theorem light_le {hor : Int} (hh : hor ≤ 500) : ∀ {l : List (Int × Int)} {m : Int}, LightOk hor m l → ∀ p ∈ l, p.1 < 10000000 ∧ p.2 < 10000000
  | [], _, _, p, hp => by cases hp
  | q :: r, m, h, p, hp => by
    obtain ⟨h1, h2, h3, h4⟩ := h
    rcases List.mem_cons.mp hp with e | e
    · rw [e]; omega
    · exact light_le hh h4 p e
theorem lightW_mem {l : List (Int × Int)} {w : List Nat} (h : w ∈ lightW l) : ∃ p ∈ l, w = num p.1 ∨ w = num p.2 := by
  obtain ⟨p, hp, hw⟩ := List.mem_flatMap.mp h
  refine ⟨p, hp, ?_⟩
  rcases List.mem_cons.mp hw with e | e
  · exact .inl e
  · exact .inr (List.mem_singleton.mp e)
theorem lits_ok : ∀ w ∈ [lit "satellite", lit "store", lit "battery", lit "level", lit "reserve", lit "charge", lit "settle", lit "light", lit "station", lit "antennas", lit "turn", lit "recording", lit "by", lit "from", lit "to", lit "length",
    lit "size", lit "energy", lit "worth", lit "rank", lit "until", lit "pass", lit "over", lit "room", lit "fee", lit "horizon"], WordOk w := by decide +kernel
theorem lok (s : String) (h : lit s ∈ [lit "satellite", lit "store", lit "battery", lit "level", lit "reserve", lit "charge", lit "settle", lit "light", lit "station", lit "antennas", lit "turn", lit "recording", lit "by", lit "from", lit "to", lit "length",
    lit "size", lit "energy", lit "worth", lit "rank", lit "until", lit "pass", lit "over", lit "room", lit "fee", lit "horizon"] := by decide +kernel) : WordOk (lit s) := lits_ok _ h
theorem all_nil {P : List Nat → Prop} : ∀ w ∈ ([] : List (List Nat)), P w := fun _ h => by cases h
theorem all_cons {P : List Nat → Prop} {a : List Nat} {r : List (List Nat)} (h : P a) (k : ∀ w ∈ r, P w) : ∀ w ∈ a :: r, P w := fun w hw => by
  rcases List.mem_cons.mp hw with e | e
  · rw [e]; exact h
  · exact k w e
theorem satW_ok {hor : Int} (hh : hor ≤ 500) {s : Sat} (h : SatOk hor s) : LineOk (satW s) := by
  obtain ⟨h1, h2, h3, h4, h5, h6, h7, h8, h9⟩ := h
  refine ⟨by unfold satW; simp, ?_, ?_⟩
  · unfold satW
    rw [List.length_append, lightW_len]
    show 15 + 2 * s.light.length ≤ 24
    omega
  · intro w hw
    unfold satW at hw
    rcases List.mem_append.mp hw with e | e
    · refine (all_cons (lok _) (all_cons h1.word (all_cons (lok _) (all_cons (num_word (by omega)) (all_cons (lok _) (all_cons (num_word (by omega)) (all_cons (lok _) (all_cons (num_word (by omega)) (all_cons (lok _) (all_cons (num_word (by omega))
        (all_cons (lok _) (all_cons (num_word (by omega)) (all_cons (lok _) (all_cons (num_word (by omega)) (all_cons (lok _) all_nil)))))))))))))) : ∀ w ∈ _, WordOk w) w e
    · obtain ⟨p, hp, q⟩ := lightW_mem e
      have z := light_le hh h8 p hp
      rcases q with q | q
      · rw [q]; exact num_word z.1
      · rw [q]; exact num_word z.2
theorem staW_ok {s : Sta} (h : StaOk s) : LineOk (staW s) := by
  obtain ⟨h1, h2, h3⟩ := h
  refine ⟨by unfold staW; simp, by show 6 ≤ 24; decide, ?_⟩
  exact all_cons (lok _) (all_cons h1.word (all_cons (lok _) (all_cons (num_word (by omega)) (all_cons (lok _) (all_cons (num_word (by omega)) all_nil)))))
theorem getD_name {l : List (List Nat)} {i : Nat} (hi : i < l.length) (h : ∀ n ∈ l, NameOk n) : NameOk (l.getD i []) := by
  have e : l.getD i [] = l[i] := by simp [List.getD, hi]
  rw [e]
  exact h _ (List.getElem_mem hi)
theorem recW_ok {hor : Int} (hh : hor ≤ 500) {sn : List (List Nat)} {r : Rec} (h : RecOk hor sn.length r) (hn : ∀ n ∈ sn, NameOk n) : LineOk (recW sn r) := by
  obtain ⟨h1, h2, h3, h4, h5, h6, h7, h8, h9, h10⟩ := h
  have z := getD_name h2 hn
  refine ⟨by unfold recW; simp, by show 20 ≤ 24; decide, ?_⟩
  exact all_cons (lok _) (all_cons h1.word (all_cons (lok _) (all_cons z.word (all_cons (lok _) (all_cons (num_word (by omega)) (all_cons (lok _) (all_cons (num_word (by omega)) (all_cons (lok _) (all_cons (num_word (by omega))
    (all_cons (lok _) (all_cons (num_word (by omega)) (all_cons (lok _) (all_cons (num_word (by omega)) (all_cons (lok _) (all_cons (num_word (by omega)) (all_cons (lok _) (all_cons (num_word (by omega)) (all_cons (lok _) (all_cons (num_word (by omega)) all_nil)))))))))))))))))))
theorem pasW_ok {hor : Int} (hh : hor ≤ 500) {sn tn : List (List Nat)} {p : Pas} (h : PasOk hor sn.length tn.length p) (hn : ∀ n ∈ sn, NameOk n) (ht : ∀ n ∈ tn, NameOk n) : LineOk (pasW sn tn p) := by
  obtain ⟨h1, h2, h3, h4, h5, h6, h7⟩ := h
  have z := getD_name h2 hn
  have y := getD_name h3 ht
  refine ⟨by unfold pasW; simp, by show 16 ≤ 24; decide, ?_⟩
  exact all_cons (lok _) (all_cons h1.word (all_cons (lok _) (all_cons z.word (all_cons (lok _) (all_cons y.word (all_cons (lok _) (all_cons (num_word (by omega)) (all_cons (lok _) (all_cons (num_word (by omega))
    (all_cons (lok _) (all_cons (num_word (by omega)) (all_cons (lok _) (all_cons (num_word (by omega)) (all_cons (lok _) (all_cons (num_word (by omega)) all_nil)))))))))))))))
theorem horW_ok {h : Int} (hh : h ≤ 500) : LineOk (horW h) :=
  ⟨by unfold horW; simp, by show 2 ≤ 24; decide, all_cons (lok _) (all_cons (num_word (by omega)) all_nil)⟩
theorem WOk.sn {W : Wd} (h : WOk W) : ∀ n ∈ W.sn, NameOk n := fun n hn => by
  obtain ⟨s, hs, e⟩ := List.mem_map.mp hn
  rw [← e]
  exact (h.sats s hs).name
theorem WOk.tn {W : Wd} (h : WOk W) : ∀ n ∈ W.tn, NameOk n := fun n hn => by
  obtain ⟨s, hs, e⟩ := List.mem_map.mp hn
  rw [← e]
  exact (h.stas s hs).name
theorem WOk.rest {W : Wd} (h : WOk W) : ∀ ws ∈ restW W, LineOk ws := fun ws hw => by
  unfold restW at hw
  rcases List.mem_append.mp hw with e | e
  · obtain ⟨s, hs, e⟩ := List.mem_map.mp e
    rw [← e]
    exact satW_ok h.hor.2 (h.sats s hs)
  rcases List.mem_append.mp e with e | e
  · obtain ⟨s, hs, e⟩ := List.mem_map.mp e
    rw [← e]
    exact staW_ok (h.stas s hs)
  rcases List.mem_append.mp e with e | e
  · obtain ⟨s, hs, e⟩ := List.mem_map.mp e
    rw [← e]
    exact recW_ok h.hor.2 (by unfold Wd.sn; rw [List.length_map]; exact h.recs s hs) h.sn
  · obtain ⟨s, hs, e⟩ := List.mem_map.mp e
    rw [← e]
    exact pasW_ok h.hor.2 (by unfold Wd.sn Wd.tn; rw [List.length_map, List.length_map]; exact h.pass s hs) h.sn h.tn
theorem WOk.lines {W : Wd} (h : WOk W) : ∀ ws ∈ worldW W, LineOk ws := fun ws hw => by
  rcases List.mem_cons.mp (show ws ∈ horW W.hor :: restW W from hw) with e | e
  · rw [e]; exact horW_ok h.hor.2
  · exact h.rest ws e
theorem WOk.many {W : Wd} (h : WOk W) : (worldW W).length ≤ 27 := by
  have h1 := h.nsat
  have h2 := h.nsta
  have h3 := h.nrec
  have h4 := h.npas
  show (horW W.hor :: restW W).length ≤ 27
  unfold restW
  rw [List.length_cons, List.length_append, List.length_append, List.length_append, List.length_map, List.length_map, List.length_map, List.length_map]
  omega
/-! ### lines and texts -/
theorem lineOf_cons (w : List Nat) : ∀ ws : List (List Nat), lineOf (w :: ws) = w ++ ws.flatMap fun x => 32 :: x
  | [] => by
    show w = w ++ []
    rw [List.append_nil]
  | v :: r => by
    have z := lineOf_cons v r
    show w ++ ([32] ++ lineOf (v :: r)) = _
    rw [z]
    simp
theorem line_len {ws : List (List Nat)} (h : LineOk ws) : (lineOf ws).length ≤ 400 := by
  have key : ∀ l : List (List Nat), (∀ w ∈ l, WordOk w) → (l.flatMap fun x => 32 :: x).length ≤ 16 * l.length := by
    intro l
    induction l with
    | nil => intro _; exact Nat.zero_le _
    | cons a r ih =>
      intro hl
      have z := ih fun w hw => hl w (List.mem_cons_of_mem _ hw)
      have y := (hl a List.mem_cons_self).2.1
      rw [List.flatMap_cons, List.length_append, List.length_cons, List.length_cons]
      omega
  obtain ⟨h1, h2, h3⟩ := h
  cases ws with
  | nil => exact absurd rfl h1
  | cons a r =>
    have z := key r fun w hw => h3 w (List.mem_cons_of_mem _ hw)
    have y := (h3 a List.mem_cons_self).2.1
    rw [lineOf_cons, List.length_append]
    rw [List.length_cons] at h2
    omega
theorem line_split {ws : List (List Nat)} (h : LineOk ws) : TL.spl [32] 0 [] (lineOf ws) = ws := by
  refine TL.spl_join h.1 fun p hp hm => ?_
  have z := (h.2.2 p hp).2.2 32 hm
  omega
theorem line_signs {ws : List (List Nat)} (h : LineOk ws) : 10 ∉ lineOf ws := by
  obtain ⟨h1, h2, h3⟩ := h
  cases ws with
  | nil => exact absurd rfl h1
  | cons a r =>
    rw [lineOf_cons]
    intro hm
    rcases List.mem_append.mp hm with e | e
    · have z := (h3 a List.mem_cons_self).2.2 10 e
      omega
    · obtain ⟨x, hx, hm2⟩ := List.mem_flatMap.mp e
      rcases List.mem_cons.mp hm2 with q | q
      · omega
      · have z := (h3 x (List.mem_cons_of_mem _ hx)).2.2 10 q
        omega
theorem line_ne {ws : List (List Nat)} (h : LineOk ws) : lineOf ws ≠ [] := by
  obtain ⟨h1, h2, h3⟩ := h
  cases ws with
  | nil => exact absurd rfl h1
  | cons a r =>
    rw [lineOf_cons]
    have z := (h3 a List.mem_cons_self).1
    simp [z]
def glue (ls : List (List Nat)) : List Nat := ls.flatMap fun l => l ++ [10]
theorem glue_join : ∀ ls : List (List Nat), glue ls = TL.joinL [10] (ls ++ [[]])
  | [] => rfl
  | l :: r => by
    have z := glue_join r
    show (l ++ [10]) ++ glue r = TL.joinL [10] (l :: (r ++ [[]]))
    rw [z]
    cases r with
    | nil => simp [TL.joinL]
    | cons a t =>
      show (l ++ [10]) ++ TL.joinL [10] (a :: (t ++ [[]])) = l ++ ([10] ++ TL.joinL [10] (a :: (t ++ [[]])))
      rw [List.append_assoc]
theorem textOf_glue (W : Wd) : textOf W = glue ((worldW W).map lineOf) := by
  unfold textOf glue
  rw [List.flatMap_map]
theorem text_split {W : Wd} (h : WOk W) : TL.spl [10] 0 [] (textOf W) = (worldW W).map lineOf ++ [[]] := by
  rw [textOf_glue, glue_join]
  refine TL.spl_join (by simp) fun p hp => ?_
  rcases List.mem_append.mp hp with e | e
  · obtain ⟨ws, hw, e⟩ := List.mem_map.mp e
    rw [← e]
    exact line_signs (h.lines ws hw)
  · rw [List.mem_singleton.mp e]
    simp
theorem glue_len : ∀ ls : List (List Nat), (∀ l ∈ ls, l.length ≤ 400) → (glue ls).length ≤ 401 * ls.length
  | [], _ => Nat.zero_le _
  | l :: r, h => by
    have z := glue_len r fun x hx => h x (List.mem_cons_of_mem _ hx)
    have y := h l List.mem_cons_self
    show ((l ++ [10]) ++ glue r).length ≤ 401 * (r.length + 1)
    rw [List.length_append, List.length_append, List.length_singleton]
    omega
theorem text_len {W : Wd} (h : WOk W) : (textOf W).length ≤ 11000 := by
  rw [textOf_glue]
  have z := glue_len ((worldW W).map lineOf) fun l hl => by
    obtain ⟨ws, hw, e⟩ := List.mem_map.mp hl
    rw [← e]
    exact line_len (h.lines ws hw)
  have y := h.many
  rw [List.length_map] at z
  omega
theorem text_ne {W : Wd} (h : WOk W) : textOf W ≠ [] := by
  intro e
  have z : textOf W = (lineOf (horW W.hor) ++ [10]) ++ (restW W).flatMap fun ws => lineOf ws ++ [10] := rfl
  rw [z] at e
  simp at e
end Dp
namespace Dp
open PySem SX
/-! ### the program's own way to write a line -/
def satA (s : Sat) : List Nat := lit "satellite " ++ (s.name ++ (lit " store " ++ (num s.store ++ (lit " battery " ++ (num s.battery ++ (lit " level " ++ (num s.level ++ (lit " reserve " ++ (num s.reserve ++ (lit " charge " ++ (num s.charge ++ (lit " settle " ++ (num s.settle ++ lit " light")))))))))))))
def lightS (l : List (Int × Int)) : List Nat := l.flatMap fun p => lit " " ++ (num p.1 ++ (lit " " ++ num p.2))
theorem l1 : lit "satellite " = lit "satellite" ++ [32] := by decide +kernel
theorem l2 : lit " store " = 32 :: (lit "store" ++ [32]) := by decide +kernel
theorem l3 : lit " battery " = 32 :: (lit "battery" ++ [32]) := by decide +kernel
theorem l4 : lit " level " = 32 :: (lit "level" ++ [32]) := by decide +kernel
theorem l5 : lit " reserve " = 32 :: (lit "reserve" ++ [32]) := by decide +kernel
theorem l6 : lit " charge " = 32 :: (lit "charge" ++ [32]) := by decide +kernel
theorem l7 : lit " settle " = 32 :: (lit "settle" ++ [32]) := by decide +kernel
theorem l8 : lit " light" = 32 :: lit "light" := by decide +kernel
theorem l9 : lit " " = [32] := by decide +kernel
theorem l10 : lit "station " = lit "station" ++ [32] := by decide +kernel
theorem l11 : lit " antennas " = 32 :: (lit "antennas" ++ [32]) := by decide +kernel
theorem l12 : lit " turn " = 32 :: (lit "turn" ++ [32]) := by decide +kernel
theorem l13 : lit "recording " = lit "recording" ++ [32] := by decide +kernel
theorem l14 : lit " by " = 32 :: (lit "by" ++ [32]) := by decide +kernel
theorem l15 : lit " from " = 32 :: (lit "from" ++ [32]) := by decide +kernel
theorem l16 : lit " to " = 32 :: (lit "to" ++ [32]) := by decide +kernel
theorem l17 : lit " length " = 32 :: (lit "length" ++ [32]) := by decide +kernel
theorem l18 : lit " size " = 32 :: (lit "size" ++ [32]) := by decide +kernel
theorem l19 : lit " energy " = 32 :: (lit "energy" ++ [32]) := by decide +kernel
theorem l20 : lit " worth " = 32 :: (lit "worth" ++ [32]) := by decide +kernel
theorem l21 : lit " rank " = 32 :: (lit "rank" ++ [32]) := by decide +kernel
theorem l22 : lit " until " = 32 :: (lit "until" ++ [32]) := by decide +kernel
theorem l23 : lit "pass " = lit "pass" ++ [32] := by decide +kernel
theorem l24 : lit " over " = 32 :: (lit "over" ++ [32]) := by decide +kernel
theorem l25 : lit " room " = 32 :: (lit "room" ++ [32]) := by decide +kernel
theorem l26 : lit " fee " = 32 :: (lit "fee" ++ [32]) := by decide +kernel
theorem l27 : lit "horizon " = lit "horizon" ++ [32] := by decide +kernel
theorem satA_line (s : Sat) : satA s ++ lightS s.light = lineOf (satW s) := by
  have e : lightS s.light = (lightW s.light).flatMap fun x => 32 :: x := by
    unfold lightS lightW
    rw [List.flatMap_assoc]
    congr 1
    funext p
    rw [l9]
    simp
  rw [e]
  unfold satA satW
  rw [List.cons_append, lineOf_cons]
  simp only [l1, l2, l3, l4, l5, l6, l7, l8, List.flatMap_append, List.flatMap_cons, List.flatMap_nil, List.cons_append, List.append_assoc, List.nil_append, List.append_nil]
theorem lightS_snoc (l : List (Int × Int)) (p : Int × Int) : lightS (l ++ [p]) = lightS l ++ (lit " " ++ (num p.1 ++ (lit " " ++ num p.2))) := by
  unfold lightS
  rw [List.flatMap_append, List.flatMap_cons, List.flatMap_nil, List.append_nil]
theorem satA_len {hor : Int} (hh : hor ≤ 500) {s : Sat} (h : SatOk hor s) : (satA s).length ≤ 225 := by
  obtain ⟨h1, h2, h3, h4, h5, h6, h7, h8, h9⟩ := h
  have a0 := h1.few
  have a1 := num_len (i := s.store) (by omega)
  have a2 := num_len (i := s.battery) (by omega)
  have a3 := num_len (i := s.level) (by omega)
  have a4 := num_len (i := s.reserve) (by omega)
  have a5 := num_len (i := s.charge) (by omega)
  have a6 := num_len (i := s.settle) (by omega)
  have b1 : (lit "satellite ").length = 10 := by decide +kernel
  have b2 : (lit " store ").length = 7 := by decide +kernel
  have b3 : (lit " battery ").length = 9 := by decide +kernel
  have b4 : (lit " level ").length = 7 := by decide +kernel
  have b5 : (lit " reserve ").length = 9 := by decide +kernel
  have b6 : (lit " charge ").length = 8 := by decide +kernel
  have b7 : (lit " settle ").length = 8 := by decide +kernel
  have b8 : (lit " light").length = 6 := by decide +kernel
  unfold satA
  simp only [List.length_append]
  omega
theorem take_snoc {α : Type} {l : List α} {i : Nat} {x : α} (h : l[i]? = some x) : l.take (i + 1) = l.take i ++ [x] := by
  rw [List.take_add_one, h]
  rfl
theorem staA_line (s : Sta) : lit "station " ++ (s.name ++ (lit " antennas " ++ (num s.ant ++ (lit " turn " ++ num s.turn)))) = lineOf (staW s) := by
  unfold staW
  rw [lineOf_cons]
  simp only [l10, l11, l12, List.flatMap_append, List.flatMap_cons, List.flatMap_nil, List.cons_append, List.append_assoc, List.nil_append, List.append_nil]
theorem recA_line (sn : List (List Nat)) (r : Rec) : lit "recording " ++ (r.name ++ (lit " by " ++ (sn.getD r.sat [] ++ (lit " from " ++ (num r.ear ++ (lit " to " ++ (num r.lat ++ (lit " length " ++ (num r.len ++ (lit " size " ++ (num r.size ++ (lit " energy " ++ (num r.energy ++
    (lit " worth " ++ (num r.worth ++ (lit " rank " ++ (num r.rank ++ (lit " until " ++ num r.dead)))))))))))))))))) = lineOf (recW sn r) := by
  unfold recW
  rw [lineOf_cons]
  simp only [l13, l14, l15, l16, l17, l18, l19, l20, l21, l22, List.flatMap_append, List.flatMap_cons, List.flatMap_nil, List.cons_append, List.append_assoc, List.nil_append, List.append_nil]
theorem pasA_line (sn tn : List (List Nat)) (p : Pas) : lit "pass " ++ (p.name ++ (lit " by " ++ (sn.getD p.sat [] ++ (lit " over " ++ (tn.getD p.sta [] ++ (lit " from " ++ (num p.first ++ (lit " to " ++ (num p.last ++ (lit " room " ++ (num p.room ++ (lit " energy " ++ (num p.energy ++
    (lit " fee " ++ num p.fee)))))))))))))) = lineOf (pasW sn tn p) := by
  unfold pasW
  rw [lineOf_cons]
  simp only [l14, l15, l16, l19, l23, l24, l25, l26, List.flatMap_append, List.flatMap_cons, List.flatMap_nil, List.cons_append, List.append_assoc, List.nil_append, List.append_nil]
theorem horA_line (h : Int) : lit "horizon " ++ num h = lineOf (horW h) := by
  unfold horW
  rw [lineOf_cons]
  simp only [l27, List.flatMap_cons, List.flatMap_nil, List.cons_append, List.append_assoc, List.nil_append, List.append_nil]
theorem joinL_nil : ∀ ls : List (List Nat), TL.joinL [] ls = ls.flatten
  | [] => rfl
  | [p] => by simp [TL.joinL]
  | p :: q :: r => by
    have z := joinL_nil (q :: r)
    show p ++ ([] ++ TL.joinL [] (q :: r)) = _
    rw [z]
    simp
theorem join_glue (ls : List (List Nat)) : TL.joinL [] (ls.map fun l => l ++ [10]) = glue ls := by
  rw [joinL_nil, glue, List.flatMap_def]
end Dp
namespace Dp
open PySem PySem.Spec PyProof.Rows L2
/-! ### defs as contracts -/
section
variable {P : Program} {w : World} {K : PySem.W.Frag} {mg : Str → Option Value} {base : Heap}
theorem calOf {x : Str} {st : Stmt} {f : Addr} {fd : FuncData} {N ps : List Str} {k : Nat} {sp : Sp} (F : FunD K x x (defArgs st) (defBody st) (defScope st) [] [] f fd) (hm : mg x = some (.ref f)) (b : Binds K fd ps []) (sc : FnScope N ps (defScope st))
    (len : ∀ vs H Q E, sp vs H Q E → vs.length = ps.length)
    (body : ∀ (cdv : Value) (A : Around) (outer : List Env) (s : Shared) (H : Hp) (vs : List V) (Q : VK) (E : XK), Room k (A.deeper (envOfC x (defScope st) s.heap.objs.size f cdv)) → sp vs H Q E →
      ∃ t, PSs (cxOf C8.CX0 P w K mg base N x (defScope st) f cdv A outer s H E).nox (defBody st) t ∧ t ⟨fun _ H' => Q .non H', Q, fun _ _ => False, fun _ _ => False⟩ (start N vs) H) : C8.Cal P w K mg base (k + 1) x sp [] :=
  ⟨f, fd, ps, [], F.ok sc len fun cdv A outer s H vs Q E hr h => let ⟨t, h1, h2⟩ := body cdv A outer s H vs Q E hr h; ⟨t, h1.nox, h2⟩, hm, F.kp, b, .nil⟩
theorem metOf {m qual : Str} {C : Addr} {st : Stmt} {f : Addr} {fd : FuncData} {N ps : List Str} {k : Nat} {sp : Sp} (F : FunD K m qual (defArgs st) (defBody st) (defScope st) [] [] f fd) (c : Cls K C) (me : Meth K C m f) (b : Binds K fd ps []) (sc : FnScope N ps (defScope st))
    (len : ∀ vs H Q E, sp vs H Q E → vs.length = ps.length)
    (body : ∀ (cdv : Value) (A : Around) (outer : List Env) (s : Shared) (H : Hp) (vs : List V) (Q : VK) (E : XK), Room k (A.deeper (envOfC qual (defScope st) s.heap.objs.size f cdv)) → sp vs H Q E →
      ∃ t, PSs (cxOf C8.CX0 P w K mg base N qual (defScope st) f cdv A outer s H E).nox (defBody st) t ∧ t ⟨fun _ H' => Q .non H', Q, fun _ _ => False, fun _ _ => False⟩ (start N vs) H) : C8.Met P w K mg base (k + 1) C m sp [] :=
  ⟨f, fd, ps, [], c, me, F.ok sc len fun cdv A outer s H vs Q E hr h => let ⟨t, h1, h2⟩ := body cdv A outer s H vs Q E hr h; ⟨t, h1.nox, h2⟩, b, .nil⟩
theorem makOf {x qual : Str} {C : Addr} {st : Stmt} {f : Addr} {fd : FuncData} {N ps : List Str} {k : Nat} {sp : Sp} (F : FunD K "__init__" qual (defArgs st) (defBody st) (defScope st) [] [] f fd) (M : Mk K C f) (hm : mg x = some (.ref C)) (b : Binds K fd ps []) (sc : FnScope N ps (defScope st))
    (len : ∀ vs H Q E, sp vs H Q E → vs.length = ps.length)
    (body : ∀ (cdv : Value) (A : Around) (outer : List Env) (s : Shared) (H : Hp) (vs : List V) (Q : VK) (E : XK), Room k (A.deeper (envOfC qual (defScope st) s.heap.objs.size f cdv)) → sp vs H Q E →
      ∃ t, PSs (cxOf C8.CX0 P w K mg base N qual (defScope st) f cdv A outer s H E).nox (defBody st) t ∧ t ⟨fun _ H' => Q .non H', Q, fun _ _ => False, fun _ _ => False⟩ (start N vs) H) : C8.Mak P w K mg base (k + 1) x C sp [] :=
  ⟨f, fd, ps, [], M, F.ok sc len fun cdv A outer s H vs Q E hr h => let ⟨t, h1, h2⟩ := body cdv A outer s H vs Q E hr h; ⟨t, h1.nox, h2⟩, hm, b, .nil⟩
end
theorem cxK {CX : CXT} {P : Program} {w : World} {K : PySem.W.Frag} {mg : Str → Option Value} {base : Heap} {N : List Str} {q : Str} {sc : Scope} {f : Addr} {cd : Value} {A : Around} {outer : List Env} {s : Shared} {H : Hp} {E : XK} : (cxOf CX P w K mg base N q sc f cd A outer s H E).nox.K = K := rfl
/-! rules whose written part is said apart (a comprehension's block) -/
theorem pg_tupK {X : Cx} {K : PySem.W.Frag} {pos : Pos} {es : List Expr} {k : Nat} {t : TGs} {n : Nat} (hK : X.K = K) (hc : X.calm = true) (h : PGs X es t)
    (hn : (assignEach es X.env).length = n := by rfl) (hst : (assignEach es X.env).findIdx? (·.1) = none := by rfl) : PG X (.Tuple es k pos) (gTup K n t) := by
  subst hK
  exact pg_tup hc h hn hst
theorem pe_fldK {X : Cx} {K : PySem.W.Frag} {e : Expr} {f : Str} {pos : Pos} {ta : TE} (hK : X.K = K) (he : PE X e ta) (hb : attributeBase e f X.env (eval e X.env) = eval e X.env) : PE X (.Attribute e f pos) (tFld K ta f) := by
  subst hK
  exact pe_fld he hb
/-! ### readings, one construct a lemma -/
section
variable {t u : TS} {n b c : L2.St → Hp → Prop} {r : VK} {σ : L2.St} {H : Hp} {te ta tb : TE} {Q : VK} {v : V} {i j : Nat} {K : PySem.W.Frag} {f : Str} {a C dx : Addr} {fs fs' : List (Str × V)}
theorem x_seq (h : t ⟨u ⟨n, r, b, c⟩, r, b, c⟩ σ H) : tSeq t u ⟨n, r, b, c⟩ σ H := h
theorem x_set (h : te σ H fun x H1 => n (σ.set i (some x)) H1) : tAsg te (gName i) ⟨n, r, b, c⟩ σ H := h
theorem x_asg {g : TG} (h : te σ H fun x H1 => g x σ H1 n) : tAsg te g ⟨n, r, b, c⟩ σ H := h
theorem x_ret (h : te σ H r) : tRet te ⟨n, r, b, c⟩ σ H := h
theorem x_drop (h : te σ H fun _ H1 => n σ H1) : tDrop te ⟨n, r, b, c⟩ σ H := h
theorem x_if {tc : TT} (h : tc σ H fun k H1 => if k = true then t ⟨n, r, b, c⟩ σ H1 else u ⟨n, r, b, c⟩ σ H1) : tIfS tc t u ⟨n, r, b, c⟩ σ H := h
theorem x_next (h : n σ H) : tNext ⟨n, r, b, c⟩ σ H := h
theorem x_var (h : σ[i]? = some (some v)) (q : Q v H) : tVar i σ H Q := ⟨v, h, q⟩
theorem x_c (q : Q v H) : tC v σ H Q := q
theorem x_fld (h : ta σ H fun x H1 => ∃ a C dx fs v, x = .ref a ∧ H1 a = some (.ins C dx fs) ∧ Cls K C ∧ NoAttr K C f ∧ fs.lookup f = some v ∧ Q v H1) : tFld K ta f σ H Q := h
theorem x_fldE {Z : V → Prop} (hH : H a = some (.ins C dx fs)) (hc : Cls K C) (hn : NoAttr K C f) (hl : fs.lookup f = some v) (q : Z v) :
    ∃ a' C dx fs v, V.ref a = .ref a' ∧ H a' = some (.ins C dx fs) ∧ Cls K C ∧ NoAttr K C f ∧ fs.lookup f = some v ∧ Z v := ⟨a, C, dx, fs, v, rfl, hH, hc, hn, hl, q⟩
theorem x_op {R : R2} (h : ta σ H fun x H1 => tb σ H1 fun y H2 => R x y H2 Q) : tOp R ta tb σ H Q := h
theorem x_un {R : V → Hp → VK → Prop} (h : ta σ H fun x H1 => R x H1 Q) : tUn R ta σ H Q := h
theorem x_rU {g : Int → V} {z : Int} (q : Q (g z) H) : rU g (.int z) H Q := ⟨z, rfl, q⟩
theorem x_rI0 {g : Int → Int → V} {y z : Int} (q : Q (g y z) H) : rI0 g (.int y) (.int z) H Q := ⟨y, z, rfl, rfl, q⟩
theorem x_rI {Cn : Int → Int → Prop} {g : Int → Int → V} {y z : Int} (hc : Cn y z) (q : Q (g y z) H) : rI Cn g (.int y) (.int z) H Q := ⟨y, z, rfl, rfl, hc, q⟩
theorem x_rEq {x y : V} (hs : scal x y = true) (q : Q (.bl (decide (x = y))) H) : rEq x y H Q := ⟨hs, q⟩
theorem x_rNe {x y : V} (hs : scal x y = true) (q : Q (.bl (!decide (x = y))) H) : rNe x y H Q := ⟨hs, q⟩
theorem x_test {Qb : Bool → Hp → Prop} (h : te σ H fun x H' => ∃ k, x = .bl k ∧ Qb k H') : tTest te σ H Qb := h
theorem x_tB {Qb : Bool → Hp → Prop} (h : te σ H fun x H' => ∃ k, x = .bl k ∧ Qb k H') : tB te σ H Qb := h
theorem x_bl {k : Bool} {Z : Bool → Prop} (q : Z k) : ∃ k', V.bl k = .bl k' ∧ Z k' := ⟨k, rfl, q⟩
theorem x_not {tc : TT} {Qb : Bool → Hp → Prop} (h : tc σ H fun k H1 => Qb (!k) H1) : tNot tc σ H Qb := h
theorem x_and {tc td : TT} {Qb : Bool → Hp → Prop} (h : tc σ H fun k H1 => if k = true then td σ H1 Qb else Qb false H1) : tAnd tc td σ H Qb := h
theorem x_or {tc td : TT} {Qb : Bool → Hp → Prop} (h : tc σ H fun k H1 => if k = true then Qb true H1 else td σ H1 Qb) : tOr tc td σ H Qb := h
theorem x_orV (h : ta σ H fun x H1 => ∃ k, x = .bl k ∧ if k = true then Q (.bl true) H1 else tb σ H1 Q) : tOrV ta tb σ H Q := h
theorem x_andV (h : ta σ H fun x H1 => ∃ k, x = .bl k ∧ if k = true then tb σ H1 Q else Q (.bl false) H1) : tAndV ta tb σ H Q := h
theorem x_notV (h : ta σ H fun x H1 => ∃ k, x = .bl k ∧ Q (.bl (!k)) H1) : tNotV ta σ H Q := h
theorem x_chain {R R' : R2} {tc : TE} (h : ta σ H fun x H1 => tb σ H1 fun y H2 => R x y H2 fun z H3 => ∃ k, z = .bl k ∧ (if k = true then tc σ H3 fun w H4 => R' y w H4 Q else Q (.bl false) H3)) : tChain R R' ta tb tc σ H Q := h
theorem x_yes {k : Bool} {A B : Prop} (e : k = true) (h : A) : if k = true then A else B := by
  rw [if_pos e]
  exact h
theorem x_nay {k : Bool} {A B : Prop} (e : k = false) (h : B) : if k = true then A else B := by
  rw [if_neg (by rw [e]; decide)]
  exact h
theorem x_nil {Qa : List V → Hp → Prop} (q : Qa [] H) : tNil σ H Qa := q
theorem x_cons {tr : TA} {Qa : List V → Hp → Prop} (h : ta σ H fun x H1 => tr σ H1 fun xs H2 => Qa (x :: xs) H2) : tCons ta tr σ H Qa := h
theorem x_lst {tr : TA} (h : tr σ H fun xs H1 => xs.length ≤ sizeLine ∧ ∀ p, H1 p = none → Q (.ref p) (upd H1 p (.lst xs))) : tLst tr σ H Q := h
theorem x_tup {tr : TA} (h : tr σ H fun xs H1 => xs.length ≤ sizeLine ∧ ∀ p, H1 p = none → Q (.ref p) (upd H1 p (.tup xs))) : tTup tr σ H Q := h
theorem x_call {sp : Sp} {dvs : List V} {E : XK} {tr : TA} (h : tr σ H fun vs H1 => sp (vs ++ dvs) H1 Q E) : tCall sp dvs E tr σ H Q := h
theorem x_meth {m : Str} {sp : Sp} {dvs : List V} {E : XK} {tr : TA} (h : ta σ H fun x H1 => ∃ a dx fs, x = .ref a ∧ H1 a = some (.ins C dx fs) ∧ fs.lookup m = none ∧ tr σ H1 fun vs H2 => sp (x :: (vs ++ dvs)) H2 Q E) :
    tMeth C m sp dvs E ta tr σ H Q := h
theorem x_methE {m : Str} {Z : Prop} (hH : H a = some (.ins C dx fs)) (hl : fs.lookup m = none) (q : Z) : ∃ a' dx fs, V.ref a = .ref a' ∧ H a' = some (.ins C dx fs) ∧ fs.lookup m = none ∧ Z := ⟨a, dx, fs, rfl, hH, hl, q⟩
theorem x_make {sp : Sp} {dvs : List V} {E : XK} {tr : TA} (h : tr σ H fun vs H1 => ∀ x dx, H1 x = none → H1 dx = none → dx ≠ x →
    sp (.ref x :: (vs ++ dvs)) (upd (upd H1 dx (.own x)) x (.ins C dx [])) (fun v H2 => v = .non ∧ Q (.ref x) H2) E) : tMake C sp dvs E tr σ H Q := h
theorem x_cb {R : List V → Hp → VK → Prop} {tr : TA} (h : tr σ H fun vs H1 => R vs H1 Q) : tCB R tr σ H Q := h
theorem x_sfld {tv : TE} (h : tv σ H fun y H1 => ta σ H1 fun x H2 => ∃ a C dx fs, x = .ref a ∧ H2 a = some (.ins C dx fs) ∧ Cls K C ∧ NoAttr K C f ∧ fs.length < 1000 ∧ n σ (upd H2 a (.ins C dx (putF f y fs)))) :
    sFld K ta tv f ⟨n, r, b, c⟩ σ H := h
theorem x_sfldE {Z : Addr → Addr → Addr → List (Str × V) → Prop} (hH : H a = some (.ins C dx fs)) (hc : Cls K C) (hn : NoAttr K C f) (hz : fs.length < 1000) (q : Z a C dx fs) :
    ∃ a' C dx fs, V.ref a = .ref a' ∧ H a' = some (.ins C dx fs) ∧ Cls K C ∧ NoAttr K C f ∧ fs.length < 1000 ∧ Z a' C dx fs := ⟨a, C, dx, fs, rfl, hH, hc, hn, hz, q⟩
theorem x_sfldaug {tv : TE} {rd : V → V → Hp → VK → Prop} (h : ta σ H fun x H1 => ∃ a C dx fs v, x = .ref a ∧ H1 a = some (.ins C dx fs) ∧ Cls K C ∧ NoAttr K C f ∧ fs.lookup f = some v ∧
    tv σ H1 fun y H2 => rd v y H2 fun z H3 => ∃ dx' fs', H3 a = some (.ins C dx' fs') ∧ fs'.length < 1000 ∧ n σ (upd H3 a (.ins C dx' (putF f z fs')))) : sFldAug K ta tv rd f ⟨n, r, b, c⟩ σ H := h
theorem x_augE {Z : Addr → Addr → V → Prop} (hH : H a = some (.ins C dx fs)) (hc : Cls K C) (hn : NoAttr K C f) (hl : fs.lookup f = some v) (q : Z a C v) :
    ∃ a' C dx fs v, V.ref a = .ref a' ∧ H a' = some (.ins C dx fs) ∧ Cls K C ∧ NoAttr K C f ∧ fs.lookup f = some v ∧ Z a' C v := ⟨a, C, dx, fs, v, rfl, hH, hc, hn, hl, q⟩
theorem x_augP {Z : Addr → List (Str × V) → Prop} (hH : H a = some (.ins C dx fs)) (hz : fs.length < 1000) (q : Z dx fs) : ∃ dx' fs', H a = some (.ins C dx' fs') ∧ fs'.length < 1000 ∧ Z dx' fs' := ⟨dx, fs, hH, hz, q⟩
theorem x_rAdd {y z : Int} (q : Q (.int (y + z)) H) : rAdd (.int y) (.int z) H Q := ⟨y, z, rfl, rfl, q⟩
theorem x_bm {T : String} {R : V → List V → Hp → VK → Prop} {tr : TA} (h : ta σ H fun x H1 => tyV K T x H1 ∧ tr σ H1 fun xs H2 => R x xs H2 Q) : tBM K T R ta tr σ H Q := h
theorem x_tyL {Z : Prop} {xs : List V} (hH : H a = some (.lst xs)) (q : Z) : tyV K "list" (.ref a) H ∧ Z := ⟨.inl ⟨rfl, _, SqL.of hH⟩, q⟩
theorem x_app {xs : List V} {y : V} (hH : H a = some (.lst xs)) (hz : xs.length < 100000) (q : Q .non (upd H a (.lst (xs ++ [y])))) : rAppend (.ref a) [y] H Q := ⟨a, xs, y, rfl, rfl, hH, Nat.lt_of_lt_of_le hz (by decide), q⟩
theorem x_ext {xs zs : List V} {d : Addr} (hH : H a = some (.lst xs)) (hD : H d = some (.lst zs)) (hz : xs.length + zs.length ≤ 100000) (q : Q .non (upd H a (.lst (xs ++ zs)))) : rExtend (.ref a) [.ref d] H Q :=
  ⟨a, d, xs, zs, rfl, rfl, hH, hD, Nat.le_trans hz (by decide), q⟩
theorem x_m1 {R : V → List V → Hp → VK → Prop} (h : ta σ H fun x H1 => (∃ a, x = .str a) ∧ tb σ H1 fun y H2 => R x [y] H2 Q) : tM1 R ta tb σ H Q := h
theorem x_isS {Z : Prop} {z : Str} (q : Z) : (∃ a, V.str z = .str a) ∧ Z := ⟨⟨z, rfl⟩, q⟩
theorem x_slice {R : V → Option Int → Option Int → Hp → VK → Prop} {tl th : TO} (h : ta σ H fun x H1 => tl σ H1 fun l H2 => th σ H2 fun u H3 => R x l u H3 Q) : tSl R ta tl th σ H Q := h
theorem x_noPart {Qo : Option Int → Hp → Prop} (q : Qo none H) : tNoPart σ H Qo := q
theorem x_part {Qo : Option Int → Hp → Prop} (h : ta σ H fun x H1 => ∃ i, x = .int i ∧ Qo (some i) H1) : tPart ta σ H Qo := h
theorem x_int {Z : Int → Prop} {z : Int} (q : Z z) : ∃ i, V.int z = .int i ∧ Z i := ⟨z, rfl, q⟩
theorem x_slL {xs : List V} {lo hi : Option Int} (hH : H a = some (.lst xs)) (q : ∀ p, H p = none → Q (.ref p) (upd H p (.lst (cutV xs lo hi)))) : rSlL K (.ref a) lo hi H Q := ⟨a, xs, rfl, SqL.of hH, q⟩
theorem x_gName {Qg : L2.St → Hp → Prop} (q : Qg (σ.set i (some v)) H) : gName i v σ H Qg := q
theorem x_gtup {n' : Nat} {tg : TGs} {xs : List V} {Qg : L2.St → Hp → Prop} (hH : H a = some (.tup xs)) (hl : xs.length = n') (q : tg xs σ H Qg) : gTup K n' tg (.ref a) σ H Qg := ⟨a, xs, rfl, SqT.of hH, hl, q⟩
theorem x_gcons {tg : TG} {tr : TGs} {xs : List V} {Qg : L2.St → Hp → Prop} (q : tg v σ H fun σ' H' => tr xs σ' H' Qg) : gCons tg tr (v :: xs) σ H Qg := ⟨v, xs, rfl, q⟩
theorem x_gnil {Qg : L2.St → Hp → Prop} (q : Qg σ H) : gNil [] σ H Qg := ⟨rfl, q⟩
theorem x_for {wi : TI} {g : TG} (h : wi σ H fun J H1 => ∃ W : Nat → Nat → L2.St → Hp → Prop, (∃ m, W 0 m σ H1) ∧ ∀ i m σ H, W i m σ H →
    (J.stop i H ∧ n σ H) ∨ (J.go i H ∧ ∃ N : L2.St → Hp → Prop, (∀ σ' H', N σ' H' → ∃ m', m' < m ∧ W (i + 1) m' σ' H') ∧ ∀ x H', J.yld i H x H' → g x σ H' fun σ2 H2 => t ⟨N, r, n, N⟩ σ2 H2)) : tFor wi g t ⟨n, r, b, c⟩ σ H := h
theorem x_lc {wi : TI} {g : TG} {tt : TT} {vs : List Nat} (h : wi σ H fun J H1 => ∀ D, H1 D = none → ∃ W : Nat → Nat → Hp → Prop, (∃ m, W 0 m (upd H1 D (.lst []))) ∧ ∀ i m H, W i m H →
    (J.stop i H ∧ Q (.ref D) H) ∨ (J.go i H ∧ ∃ Nx : Hp → Prop, (∀ H', Nx H' → ∃ m', m' < m ∧ W (i + 1) m' H') ∧ ∀ x H', J.yld i H x H' → g x (wipe σ vs) H' fun σ2 H2 => wipe σ2 vs = wipe σ vs ∧ tt σ2 H2 fun b H3 =>
      if b = true then te σ2 H3 fun y H4 => ∃ acc, H4 D = some (.lst acc) ∧ acc.length < sizeLine ∧ Nx (upd H4 D (.lst (acc ++ [y]))) else Nx H3)) : tLc wi g tt te vs σ H Q := h
theorem x_iList {tl : TE} {R : It → Hp → Prop} (h : tl σ H fun x H1 => ∃ a, x = .ref a ∧ (∃ xs, SqL K H1 a xs) ∧ R (Itl K a) H1) : iList K tl σ H R := h
theorem x_iTup {tl : TE} {R : It → Hp → Prop} (h : tl σ H fun x H1 => ∃ a, x = .ref a ∧ (∃ xs, SqT K H1 a xs) ∧ R (Itt K a) H1) : iTup K tl σ H R := h
theorem x_iStr {tl : TE} {R : It → Hp → Prop} (h : tl σ H fun v H1 => ∃ x, v = .str x ∧ R (Its x) H1) : iStr tl σ H R := h
theorem x_iListE {xs : List V} {Z : Addr → Prop} (hH : H a = some (.lst xs)) (q : Z a) : ∃ a', V.ref a = .ref a' ∧ (∃ xs, SqL K H a' xs) ∧ Z a' := ⟨a, rfl, ⟨xs, SqL.of hH⟩, q⟩
theorem x_iTupE {xs : List V} {Z : Addr → Prop} (hH : H a = some (.tup xs)) (q : Z a) : ∃ a', V.ref a = .ref a' ∧ (∃ xs, SqT K H a' xs) ∧ Z a' := ⟨a, rfl, ⟨xs, SqT.of hH⟩, q⟩
theorem x_iEnum {ta : TA} {R : It → Hp → Prop} (h : ta σ H fun vs H1 => ∃ a xs, vs = [.ref a] ∧ SqL K H1 a xs ∧ R (Ite K a) H1) : iEnum K ta σ H R := h
theorem x_iEnumT {ta : TA} {R : It → Hp → Prop} (h : ta σ H fun vs H1 => ∃ a xs, vs = [.ref a] ∧ SqT K H1 a xs ∧ R (ItE K a) H1) : iEnumT K ta σ H R := h
theorem x_iEnumE {xs : List V} {Z : Addr → Prop} (hH : H a = some (.lst xs)) (q : Z a) : ∃ a' xs, [V.ref a] = [.ref a'] ∧ SqL K H a' xs ∧ Z a' := ⟨a, xs, rfl, SqL.of hH, q⟩
theorem x_iEnumTE {xs : List V} {Z : Addr → Prop} (hH : H a = some (.tup xs)) (q : Z a) : ∃ a' xs, [V.ref a] = [.ref a'] ∧ SqT K H a' xs ∧ Z a' := ⟨a, xs, rfl, SqT.of hH, q⟩
theorem x_str {Z : Str → Prop} {z : Str} (q : Z z) : ∃ x, V.str z = .str x ∧ Z x := ⟨z, rfl, q⟩
theorem x_rng1 {ta : TA} {R : It → Hp → Prop} (h : ta σ H fun vs H1 => ∃ j : Int, vs = [.int j] ∧ -(2 ^ 62) ≤ j ∧ j < 2 ^ 62 ∧ R (Itr 0 j.toNat) H1) : iRng1 ta σ H R := h
theorem x_rng2 {ta : TA} {R : It → Hp → Prop} (h : ta σ H fun vs H1 => ∃ i j : Int, vs = [.int i, .int j] ∧ (-(2 ^ 62) ≤ i ∧ i < 2 ^ 62 ∧ -(2 ^ 62) ≤ j ∧ j < 2 ^ 62) ∧ R (Itr i (j - i).toNat) H1) : iRng2 ta σ H R := h
theorem x_rng1E {z : Int} {Z : Int → Prop} (h0 : -1000 ≤ z) (h1 : z < 1000) (q : Z z) : ∃ j : Int, [V.int z] = [.int j] ∧ -(2 ^ 62) ≤ j ∧ j < 2 ^ 62 ∧ Z j := ⟨z, rfl, by omega, by omega, q⟩
theorem x_rng2E {y z : Int} {Z : Int → Int → Prop} (h0 : -1000 ≤ y ∧ y < 1000 ∧ -1000 ≤ z ∧ z < 1000) (q : Z y z) : ∃ i j : Int, [V.int y, V.int z] = [.int i, .int j] ∧ (-(2 ^ 62) ≤ i ∧ i < 2 ^ 62 ∧ -(2 ^ 62) ≤ j ∧ j < 2 ^ 62) ∧ Z i j :=
  ⟨y, z, rfl, ⟨by omega, by omega, by omega, by omega⟩, q⟩
theorem x_tYes {Z Y : Hp → Prop} (h : Z H) : tYes σ H fun k H3 => if k = true then Z H3 else Y H3 := by
  show (if true = true then Z H else Y H)
  rw [if_pos rfl]
  exact h
/-! built-in functions, items -/
theorem x_ixL {xs : List V} {z : Int} {v : V} (hH : H a = some (.lst xs)) (ha : atI xs z = some v) (q : Q v H) : rIxL K (.ref a) (.int z) H Q := ⟨a, xs, z, v, rfl, rfl, SqL.of hH, ha, q⟩
theorem x_ixT {xs : List V} {z : Int} {v : V} (hH : H a = some (.tup xs)) (ha : atI xs z = some v) (q : Q v H) : rIxT K (.ref a) (.int z) H Q := ⟨a, xs, z, v, rfl, rfl, SqT.of hH, ha, q⟩
theorem x_lenL {Z : List V → Prop} {xs : List V} (hH : H a = some (.lst xs)) (q : Z xs) : ∃ p ys, [V.ref a] = [.ref p] ∧ (SqL K H p ys ∨ SqT K H p ys) ∧ Z ys := ⟨a, xs, rfl, .inl (SqL.of hH), q⟩
theorem x_lenS {Z : Str → Prop} {z : Str} (hz : z.length ≤ sizeLine) (q : Z z) : ∃ z', [V.str z] = [.str z'] ∧ z'.length ≤ sizeLine ∧ Z z' := ⟨z, rfl, hz, q⟩
theorem x_int1 {Y : Bool → Prop} {Z : Int → Prop} {z : Int} (q : Z z) : (∃ i, [V.int z] = [.int i] ∧ Z i) ∨ ∃ k, [V.int z] = [.bl k] ∧ Y k := .inl ⟨z, rfl, q⟩
theorem x_int1b {Y : Bool → Prop} {Z : Int → Prop} {k : Bool} (q : Y k) : (∃ i, [V.bl k] = [.int i] ∧ Z i) ∨ ∃ k', [V.bl k] = [.bl k'] ∧ Y k' := .inr ⟨k, rfl, q⟩
end
/-! f-strings: acc the signs so far, at most k of them -/
/-- what a part of an f-string asks, its value being x -/
def JF (ts : List TE) (acc : Str) (σ : L2.St) (Q : Str → Hp → Prop) (x : V) (H : Hp) : Prop :=
  (∃ y : Str, x = .str y ∧ y.length ≤ sizeLine ∧ ∃ y' : Str, V.str y = .str y' ∧ (acc ++ y').length ≤ sizeLine ∧ tJs ts (acc ++ y') σ H Q) ∨
    ∃ i : Int, x = .int i ∧ i.natAbs.log2 < 1920 ∧ ∃ y' : Str, V.str (toString i) = .str y' ∧ (acc ++ y').length ≤ sizeLine ∧ tJs ts (acc ++ y') σ H Q
section
variable {ts : List TE} {te : TE} {σ : L2.St} {H : Hp} {Q : Str → Hp → Prop} {acc : List Nat} {k : Nat}
theorem x_js0 (q : ([] : List Nat).length ≤ 0 → tJs ts (SX.S []) σ H Q) : tJs ts Str.empty σ H Q := q (Nat.le_refl _)
theorem x_jsE {a : Str} (q : Q a H) : tJs [] a σ H Q := q
theorem x_jsF {a : Str} (h : te σ H fun x H1 => JF ts a σ Q x H1) : tJs (tFmt te :: ts) a σ H Q := h
theorem S_small {w : List Nat} (h : w.length ≤ 100000) : (SX.S w).length ≤ sizeLine := by
  rw [SX.S_len]
  exact Nat.le_trans h (by decide)
theorem x_jsL {s : String} (ha : acc.length ≤ k) (hl : (lit s).length ≤ 15) (hm : k + 15 ≤ 100000) (q : (acc ++ lit s).length ≤ k + 15 → tJs ts (SX.S (acc ++ lit s)) σ H Q) : tJs (tC (.str (Str.ofString s)) :: ts) (SX.S acc) σ H Q := by
  have z : (acc ++ lit s).length ≤ k + 15 := by
    rw [List.length_append]
    omega
  refine ⟨_, rfl, ?_, ?_⟩
  · rw [lit_S, SX.S_cat]
    exact S_small (Nat.le_trans z hm)
  · rw [lit_S, SX.S_cat]
    exact q z
theorem x_jfS {w : List Nat} (ha : acc.length ≤ k) (hl : w.length ≤ 15) (hm : k + 15 ≤ 100000) (q : (acc ++ w).length ≤ k + 15 → tJs ts (SX.S (acc ++ w)) σ H Q) : JF ts (SX.S acc) σ Q (.str (SX.S w)) H := by
  have z : (acc ++ w).length ≤ k + 15 := by
    rw [List.length_append]
    omega
  refine .inl ⟨_, rfl, S_small (by omega), _, rfl, ?_, ?_⟩
  · rw [SX.S_cat]
    exact S_small (Nat.le_trans z hm)
  · rw [SX.S_cat]
    exact q z
theorem small_log {i : Int} (h0 : 0 ≤ i) (h7 : i < 10000000) : i.natAbs.log2 < 1920 := by
  have z : i.natAbs < 2 ^ 1920 := by
    have h2 : (10000000 : Nat) ≤ 2 ^ 1920 := by decide +kernel
    omega
  by_cases hz : i.natAbs = 0
  · rw [hz]
    decide
  · exact (Nat.log2_lt hz).mpr z
theorem x_jfI {i : Int} (ha : acc.length ≤ k) (h : 0 ≤ i ∧ i < 10000000) (hm : k + 15 ≤ 100000) (q : (acc ++ num i).length ≤ k + 15 → tJs ts (SX.S (acc ++ num i)) σ H Q) : JF ts (SX.S acc) σ Q (.int i) H := by
  obtain ⟨h0, h7⟩ := h
  have zl := num_len h7
  have z : (acc ++ num i).length ≤ k + 15 := by
    rw [List.length_append]
    omega
  refine .inr ⟨_, rfl, small_log h0 h7, _, rfl, ?_, ?_⟩
  · rw [num_S h0, SX.S_cat]
    exact S_small (Nat.le_trans z hm)
  · rw [num_S h0, SX.S_cat]
    exact q z
end
theorem x_joined {ts : List TE} {σ : L2.St} {H : Hp} {Q : VK} (h : tJs ts Str.empty σ H fun out H1 => Q (.str out) H1) : (fun σ H Q => tJs ts Str.empty σ H fun out H1 => Q (.str out) H1) σ H Q := h
theorem x_addS {a b : List Nat} {Z : Str → Str → Prop} {k1 k2 : Nat} (ha : a.length ≤ k1) (hb : b.length ≤ k2) (hm : k1 + k2 ≤ 100000) (q : (a ++ b).length ≤ k1 + k2 → Z (SX.S a) (SX.S b)) : ∃ i j, V.str (SX.S a) = .str i ∧ V.str (SX.S b) = .str j ∧ i.length + j.length ≤ sizeLine ∧ Z i j := by
  refine ⟨_, _, rfl, rfl, ?_, q (by rw [List.length_append]; omega)⟩
  rw [SX.S_len, SX.S_len]
  exact Nat.le_trans (Nat.le_trans (Nat.add_le_add ha hb) hm) (by decide)
theorem x_gFld {K : PySem.W.Frag} {ta : TE} {f : Str} {v : V} {σ : L2.St} {H : Hp} {Q : L2.St → Hp → Prop} (h : ta σ H fun x H2 => ∃ a C dx fs, x = .ref a ∧ H2 a = some (.ins C dx fs) ∧ Cls K C ∧ NoAttr K C f ∧ fs.length < 1000 ∧
  Q σ (upd H2 a (.ins C dx (putF f v fs)))) : gFld K ta f v σ H Q := h
/-! texts split -/
theorem x_splitE {t : List Nat} {ws : List (List Nat)} {c : Nat} {z : Str} {H : Hp} {Q : VK} (hz : z = SX.S [c]) (hc : c < 256) (hl : t.length ≤ 100000) (hsp : TL.spl [c] 0 [] t = ws) (q : ∀ p, H p = none → Q (.ref p) (upd H p (.lst (ws.map fun w => V.str (SX.S w))))) :
    ∃ a b, V.str (SX.S t) = .str a ∧ [V.str z] = [.str b] ∧ (b.length == 0) = false ∧ a.length + 2 ≤ sizeLine ∧ rNewStrs (Txt.split a b) H Q := by
  subst hz
  refine ⟨_, _, rfl, rfl, rfl, ?_, fun p hp => ?_⟩
  · rw [SX.S_len]
    exact Nat.le_trans (Nat.add_le_add_right hl 2) (by decide)
  · rw [SX.split_S (by simp) (by simp [hc]), hsp, List.map_map]
    exact q p hp
theorem cut_last (xs : List V) (y : V) : cutV (xs ++ [y]) none (some (-1)) = xs := by
  have e1 : HT.sIx (xs ++ [y]).length (xs ++ [y]).length (some (-1)) = xs.length := by
    unfold HT.sIx
    rw [List.length_append, List.length_singleton]
    simp
    omega
  have e2 : HT.sIx (xs ++ [y]).length 0 none = 0 := rfl
  unfold cutV
  rw [e1, e2, List.drop_zero, Nat.sub_zero]
  simp
theorem at_last (xs : List V) (y : V) : atI (xs ++ [y]) (-1) = some y := by
  unfold atI ixN
  rw [List.length_append, List.length_singleton]
  rw [if_neg (by decide), if_pos (by omega)]
  have e : (-1 + ((xs.length + 1 : Nat) : Int)).toNat = xs.length := by omega
  rw [e]
  simp
/-! ### heaps -/
theorem same_upd {H H' : Hp} {p : Addr} {o : HO} (s : Same H H') (h : H' p = none) : Same H (L2.upd H' p o) := fun b u e => by
  rw [upd_ne (ne_of_none (s b u e) h)]
  exact s b u e
/-- an object that H does not know may change -/
theorem same_mut {H H' : Hp} {p : Addr} {o : HO} (s : Same H H') (h : H p = none) : Same H (L2.upd H' p o) := fun b u e => by
  rw [upd_ne (ne_of_none e h)]
  exact s b u e
theorem small {m : Nat} (h : m ≤ 100000) : m ≤ sizeLine := Nat.le_trans h (by decide)
theorem small_lt {m : Nat} (h : m ≤ 100000) : m < sizeLine := Nat.lt_of_le_of_lt h (by decide)
/-- but for X what was tracked is as it was -/
def Kp (X : Addr → Prop) (H H' : Hp) : Prop := ∀ b o, H b = some o → ¬ X b → H' b = some o
abbrev noX : Addr → Prop := fun _ => False
theorem Kp.refl (X : Addr → Prop) (H : Hp) : Kp X H H := fun _ _ e _ => e
theorem Kp.trans {X : Addr → Prop} {H H' H2 : Hp} (a : Kp X H H') (b : Kp X H' H2) : Kp X H H2 := fun c o e n => b c o (a c o e n) n
theorem kp_same {X : Addr → Prop} {H H' : Hp} (s : Same H H') : Kp X H H' := fun b o e _ => s b o e
theorem same_kp {H H' : Hp} (s : Kp noX H H') : Same H H' := fun b o e => s b o e fun q => q
theorem kp_upd {X : Addr → Prop} {H H' : Hp} {p : Addr} {o : HO} (s : Kp X H H') (h : H' p = none) : Kp X H (L2.upd H' p o) := fun b u e n => by
  rw [upd_ne (ne_of_none (s b u e n) h)]
  exact s b u e n
theorem kp_mut {X : Addr → Prop} {H H' : Hp} {p : Addr} {o : HO} (s : Kp X H H') (h : H p = none) : Kp X H (L2.upd H' p o) := fun b u e n => by
  rw [upd_ne (ne_of_none e h)]
  exact s b u e n
/-- the heap without D -/
def rm (D : Addr) (H : Hp) : Hp := fun b => if b = D then none else H b
theorem rm_at {D a : Addr} {H : Hp} (h : a ≠ D) : rm D H a = H a := if_neg h
theorem rm_of {D a : Addr} {H : Hp} {o : HO} (h : rm D H a = some o) : H a = some o ∧ a ≠ D := by
  unfold rm at h
  split at h
  · cases h
  · exact ⟨h, by assumption⟩
theorem rm_upd {D : Addr} {H : Hp} {o : HO} : rm D (upd H D o) = rm D H := by
  funext b
  unfold rm
  split
  · rfl
  · exact upd_ne (by assumption)
theorem rm_id {D : Addr} {H : Hp} (h : H D = none) : rm D H = H := by
  funext b
  unfold rm
  split
  · rename_i e
    rw [e, h]
  · rfl
theorem rm_same {D : Addr} {H : Hp} : Same (rm D H) H := fun _ _ e => (rm_of e).1
theorem rm_kp {X : Addr → Prop} {D : Addr} {H H' : Hp} (s : Kp X H H') : Kp X (rm D H) (rm D H') := fun b o e n => by
  obtain ⟨e1, e2⟩ := rm_of e
  rw [rm_at e2]
  exact s b o e1 n
theorem rm_kp' {X : Addr → Prop} {D : Addr} {H0 H H' : Hp} (s : Kp X H0 (rm D H)) (t : Kp X H H') : Kp X H0 (rm D H') := fun b o e n => rm_kp t b o (s b o e n) n
/-- a comprehension that keeps what I says and makes at turn i a value of which R is true; X may change; D, the new list, is seen by none -/
theorem lc_gen {J : It} {m : Nat} {G : Hp → Prop} {Y : Nat → Hp → V → Hp → Prop} (wk : Walk J m G Y) {g : TG} {te : TE} {vs : List Nat} {σ : L2.St} {H1 : Hp} {D : Addr} {Qd : Hp → Prop} (hm : m ≤ 100000) (hD : H1 D = none) (X : Addr → Prop) (I : Hp → Prop)
    (R : Nat → V → Hp → Prop) (hX : ¬ X D) (mono : ∀ i y H H', R i y H → Kp X H H' → R i y H') (h0 : I H1) (hG : ∀ H, Kp X H1 (rm D H) → I (rm D H) → G H) (hY : ∀ i H x H', Y i H x H' → Same H H')
    (turn : ∀ i x H H' (k : VK), i < m → Kp X H1 (rm D H) → I (rm D H) → (∃ acc, H D = some (.lst acc)) → Y i H x H' → (∀ y H4, Kp X H' H4 → I (rm D H4) → R i y (rm D H4) → k y H4) →
      g x (wipe σ vs) H' fun σ2 H2 => wipe σ2 vs = wipe σ vs ∧ te σ2 H2 k)
    (done : ∀ ys H', ys.length = m → H' D = some (.lst ys) → I (rm D H') → Kp X H1 (rm D H') → (∀ i y, ys[i]? = some y → R i y (rm D H')) → Qd H')
    (gm : ∀ x σ0 H' (Q1 Q2 : L2.St → Hp → Prop), (∀ σ2 H2, Q1 σ2 H2 → Q2 σ2 H2) → g x σ0 H' Q1 → g x σ0 H' Q2) :
    ∃ W : Nat → Nat → Hp → Prop, (∃ m, W 0 m (upd H1 D (.lst []))) ∧ ∀ i m H, W i m H →
      (J.stop i H ∧ Qd H) ∨ (J.go i H ∧ ∃ Nx : Hp → Prop, (∀ H', Nx H' → ∃ m', m' < m ∧ W (i + 1) m' H') ∧ ∀ x H', J.yld i H x H' → g x (wipe σ vs) H' fun σ2 H2 => wipe σ2 vs = wipe σ vs ∧ tYes σ2 H2 fun b H3 =>
        if b = true then te σ2 H3 fun y H4 => ∃ acc, H4 D = some (.lst acc) ∧ acc.length < sizeLine ∧ Nx (upd H4 D (.lst (acc ++ [y]))) else Nx H3) := by
  refine lc_it wk (fun i H => ∃ ys, H D = some (.lst ys) ∧ ys.length = i ∧ I (rm D H) ∧ Kp X H1 (rm D H) ∧ ∀ j y, ys[j]? = some y → R j y (rm D H)) ⟨[], upd_same, rfl, ?_, ?_, ?_⟩ ?_ ?_ ?_
  · rw [rm_upd, rm_id hD]
    exact h0
  · rw [rm_upd, rm_id hD]
    exact Kp.refl X H1
  · intro j y h
    simp at h
  · rintro i H _ ⟨ys, h1, h2, h3, h4, h5⟩
    exact hG H h4 h3
  · rintro i x H H' hi ⟨ys, h1, h2, h3, h4, h5⟩ hy
    have z := turn i x H H' (fun y H4 => ∃ acc, H4 D = some (.lst acc) ∧ acc.length < sizeLine ∧ ∃ ys, upd H4 D (.lst (acc ++ [y])) D = some (.lst ys) ∧ ys.length = i + 1 ∧ I (rm D (upd H4 D (.lst (acc ++ [y])))) ∧ Kp X H1 (rm D (upd H4 D (.lst (acc ++ [y])))) ∧
        ∀ j y', ys[j]? = some y' → R j y' (rm D (upd H4 D (.lst (acc ++ [y]))))) hi h4 h3 ⟨ys, h1⟩ hy ?_
    · exact gm _ _ _ _ _ (fun σ2 H2 q => ⟨q.1, x_tYes q.2⟩) z
    · intro y H4 k1 k2 k3
      have hs := hY i H x H' hy
      have e4 : H4 D = some (.lst ys) := k1 D _ (hs D _ h1) hX
      have t4 : Kp X H H4 := (kp_same hs).trans k1
      refine ⟨ys, e4, small_lt (by omega), ys ++ [y], upd_same, by rw [List.length_append, h2]; rfl, ?_, ?_, ?_⟩
      · rw [rm_upd]
        exact k2
      · rw [rm_upd]
        exact rm_kp' h4 t4
      · rw [rm_upd]
        intro j y' hj
        by_cases hlt : j < ys.length
        · rw [List.getElem?_append_left hlt] at hj
          exact mono j y' _ _ (h5 j y' hj) (rm_kp t4)
        · have ej : j = ys.length := by
            have q := (List.getElem?_eq_some_iff.mp hj).1
            rw [List.length_append, List.length_singleton] at q
            omega
          subst ej
          rw [List.getElem?_append_right (Nat.le_refl _)] at hj
          simp at hj
          subst hj
          rw [h2]
          exact k3
  · rintro H ⟨ys, h1, h2, h3, h4, h5⟩
    exact done ys H h2 h1 h3 h4 h5
theorem gm_name (i : Nat) : ∀ x σ0 H' (Q1 Q2 : L2.St → Hp → Prop), (∀ σ2 H2, Q1 σ2 H2 → Q2 σ2 H2) → gName i x σ0 H' Q1 → gName i x σ0 H' Q2 := fun _ _ _ _ _ h q => h _ _ q
theorem gm_two {K : PySem.W.Frag} (i j : Nat) : ∀ x σ0 H' (Q1 Q2 : L2.St → Hp → Prop), (∀ σ2 H2, Q1 σ2 H2 → Q2 σ2 H2) → gTup K 2 (gCons (gName i) (gCons (gName j) gNil)) x σ0 H' Q1 → gTup K 2 (gCons (gName i) (gCons (gName j) gNil)) x σ0 H' Q2 := by
  rintro x σ0 H' Q1 Q2 h ⟨a, xs, e, hs, hl, v, r, e1, v2, r2, e2, e3, q⟩
  exact ⟨a, xs, e, hs, hl, v, r, e1, v2, r2, e2, e3, h _ _ q⟩
theorem y_at {xs : List V} : ∀ i H x H', YAt xs i H x H' → Same H H' := fun _ _ _ _ y => by
  rw [y.1]
  exact Same.refl _
theorem y_fn {f : Nat → V} : ∀ i H x H', YFn f i H x H' → Same H H' := fun _ _ _ _ y => by
  rw [y.1]
  exact Same.refl _
theorem y_pair {xs ys : Nat → Option V} : ∀ i H x H', YPair xs ys i H x H' → Same H H' := by
  rintro i H v H' ⟨N, x, y, h1, h2, h3, _⟩
  rw [h3]
  exact same_upd (Same.refl _) h2
/-- a list of references -/
theorem refs_of {ys : List V} (h : ∀ y ∈ ys, ∃ a, y = V.ref a) : ∃ as : List Addr, ys = as.map V.ref := by
  induction ys with
  | nil => exact ⟨[], rfl⟩
  | cons y r ih =>
    obtain ⟨a, rfl⟩ := h y List.mem_cons_self
    obtain ⟨as, rfl⟩ := ih fun z hz => h z (List.mem_cons_of_mem _ hz)
    exact ⟨a :: as, rfl⟩
theorem nodup_of {α : Type} {l : List α} (h : ∀ (i j : Nat) (a : α), l[i]? = some a → l[j]? = some a → i = j) : l.Nodup := by
  induction l with
  | nil => exact List.nodup_nil
  | cons a r ih =>
    refine List.nodup_cons.mpr ⟨fun m => ?_, ih fun i j b h1 h2 => ?_⟩
    · obtain ⟨j, hj⟩ := List.mem_iff_getElem?.mp m
      have z := h 0 (j + 1) a rfl hj
      omega
    · have z := h (i + 1) (j + 1) b h1 h2
      omega
theorem ne_ins {H : Hp} {a b C C' dx dx' : Addr} {fs fs' : List (Str × V)} (h : H a = some (.ins C dx fs)) (h' : H b = some (.ins C' dx' fs')) (d : fs.length ≠ fs'.length) : a ≠ b := by
  refine ne_of h h' fun q => d ?_
  injection q with _ _ q
  rw [q]
theorem str_ne {a b : Str} (h : a ≠ b) : decide (V.str a = V.str b) = false := decide_eq_false fun q => h (V.str.inj q)
theorem str_eq {a b : Str} (h : a = b) : decide (V.str a = V.str b) = true := decide_eq_true (by rw [h])
theorem int_ne {a b : Int} (h : a ≠ b) : decide (V.int a = V.int b) = false := decide_eq_false fun q => h (V.int.inj q)
theorem int_eq {a b : Int} (h : a = b) : decide (V.int a = V.int b) = true := decide_eq_true (by rw [h])
abbrev txts (ws : List (List Nat)) : List V := ws.map fun w => V.str (SX.S w)
theorem atI_txts {ws : List (List Nat)} {i : Nat} {w : List Nat} (h : ws[i]? = some w) : atI (txts ws) (i : Int) = some (V.str (SX.S w)) := atI_nat (by rw [List.getElem?_map, h] <;> rfl)
end Dp
namespace Dp
open PySem PySem.Spec PyProof.Rows L2
section
variable {t : TS} {n b c : L2.St → Hp → Prop} {r : VK} {σ : L2.St} {H : Hp} {te ta tb : TE} {Q : VK} {v : V} {K : PySem.W.Frag} {a : Addr}
/-- a for, by a word of the turn, the slots and the heap -/
theorem for_gen {J : It} {m : Nat} {G : Hp → Prop} {Y : Nat → Hp → V → Hp → Prop} (wk : Walk J m G Y) {g : TG} (Pv : Nat → L2.St → Hp → Prop) (h0 : Pv 0 σ H) (hG : ∀ i σ H, i ≤ m → Pv i σ H → G H)
    (hs : ∀ i x σ H H', i < m → Pv i σ H → Y i H x H' → g x σ H' fun σ2 H2 => t ⟨Pv (i + 1), r, n, Pv (i + 1)⟩ σ2 H2) (hd : ∀ σ H, Pv m σ H → n σ H) :
    ∃ W : Nat → Nat → L2.St → Hp → Prop, (∃ m, W 0 m σ H) ∧ ∀ i m σ H, W i m σ H →
      (J.stop i H ∧ n σ H) ∨ (J.go i H ∧ ∃ N : L2.St → Hp → Prop, (∀ σ' H', N σ' H' → ∃ m', m' < m ∧ W (i + 1) m' σ' H') ∧ ∀ x H', J.yld i H x H' → g x σ H' fun σ2 H2 => t ⟨N, r, n, N⟩ σ2 H2) :=
  for_it (D := ⟨n, r, fun _ _ => False, fun _ _ => False⟩) wk Pv h0 hG hs hd
theorem x_tupOf {Z1 : List V → Prop} {Z2 : Addr → List V → Prop} {xs : List V} (hH : H a = some (.lst xs)) (q : Z1 xs) : ∃ p ys, [V.ref a] = [.ref p] ∧ ((SqL K H p ys ∧ Z1 ys) ∨ (SqT K H p ys ∧ Z2 p ys)) := ⟨a, xs, rfl, .inl ⟨SqL.of hH, q⟩⟩
theorem x_lenT {Z : List V → Prop} {xs : List V} (hH : H a = some (.tup xs)) (q : Z xs) : ∃ p ys, [V.ref a] = [.ref p] ∧ (SqL K H p ys ∨ SqT K H p ys) ∧ Z ys := ⟨a, xs, rfl, .inr (SqT.of hH), q⟩
theorem x_cval {f : Str} (h : ta σ H fun x H1 => ∃ C mc v u, x = .ref C ∧ ClX.CRead K C mc ∧ ClX.CVal K C mc f v u ∧ Q v H1) : ClX.tCVal K ta f σ H Q := h
theorem x_cvalE {f : Str} {Z : V → Prop} (rd : ClX.CRead K a (.type "type")) (h : ∃ u, ClX.CVal K a (.type "type") f v u) (q : Z v) : ∃ C mc v u, V.ref a = .ref C ∧ ClX.CRead K C mc ∧ ClX.CVal K C mc f v u ∧ Z v := by
  obtain ⟨u, h⟩ := h
  exact ⟨a, _, v, u, rfl, rd, h, q⟩
theorem x_joinE {z : Str} {ls : List (List Nat)} {s : List Nat} (hH : H a = some (.lst (txts ls))) (hz : z = SX.S s) (hl : (ls.map (·.length)).sum + ls.length * s.length ≤ 100000) (q : Q (.str (SX.S (TL.joinL s ls))) H) :
    ∃ a' p, ∃ ys : List Str, V.str z = .str a' ∧ [V.ref a] = [.ref p] ∧ (SqL K H p (ys.map V.str) ∨ SqT K H p (ys.map V.str)) ∧ (ys.map (·.length)).sum + ys.length * a'.length ≤ 16777216 ∧ Q (.str (Txt.join a' ys)) H := by
  subst hz
  refine ⟨_, a, ls.map SX.S, rfl, rfl, .inl (SqL.of ?_), ?_, ?_⟩
  · rw [List.map_map]
    exact hH
  · rw [SX.lens, List.length_map, SX.S_len]
    exact Nat.le_trans hl (by decide)
  · rw [SX.join_S]
    exact q
theorem x_min {y z : Int} {Z : Int → Int → Prop} (q : Z y z) : ∃ i j, [V.int y, V.int z] = [.int i, .int j] ∧ Z i j := ⟨y, z, rfl, q⟩
theorem x_strI {z : Int} {Z : Int → Prop} (h : z.natAbs.log2 < 1920) (q : Z z) : ∃ i, [V.int z] = [.int i] ∧ i.natAbs.log2 < 1920 ∧ Z i := ⟨z, rfl, h, q⟩
end
theorem S_empty : (Str.ofString "" : Str) = SX.S [] := by decide +kernel
end Dp
local macro_rules | `(tactic| walk_at "pf") => `(tactic| first | rw [Dp.pf_Line_number] | rw [Dp.pf_Line_words] | rw [Dp.pf_Line_place] | rw [Dp.pf_Line_column] | rw [Dp.pf_Satellite_name] | rw [Dp.pf_Satellite_store] | rw [Dp.pf_Satellite_battery] | rw [Dp.pf_Satellite_start_level] | rw [Dp.pf_Satellite_reserve] | rw [Dp.pf_Satellite_charge] | rw [Dp.pf_Satellite_settle] | rw [Dp.pf_Satellite_light] | rw [Dp.pf_Station_name] | rw [Dp.pf_Station_antennas] | rw [Dp.pf_Station_turn] | rw [Dp.pf_Recording_name] | rw [Dp.pf_Recording_satellite] | rw [Dp.pf_Recording_earliest] | rw [Dp.pf_Recording_latest] | rw [Dp.pf_Recording_length] | rw [Dp.pf_Recording_size] | rw [Dp.pf_Recording_energy] | rw [Dp.pf_Recording_worth] | rw [Dp.pf_Recording_rank] | rw [Dp.pf_Recording_deadline] | rw [Dp.pf_Pass_name] | rw [Dp.pf_Pass_satellite] | rw [Dp.pf_Pass_station] | rw [Dp.pf_Pass_span] | rw [Dp.pf_Pass_room] | rw [Dp.pf_Pass_energy] | rw [Dp.pf_Pass_fee] | rw [Dp.pf_Draft_horizon] | rw [Dp.pf_Draft_satellites] | rw [Dp.pf_Draft_stations] | rw [Dp.pf_Draft_recordings] | rw [Dp.pf_Draft_passes] | rw [Dp.pf_World_horizon] | rw [Dp.pf_World_satellites] | rw [Dp.pf_World_stations] | rw [Dp.pf_World_recordings] | rw [Dp.pf_World_passes] | rw [Dp.pf_World_choices] | rw [Dp.pf_World_text] | rw [Dp.pu_Line_place] | rw [Dp.pu_Line_column] | skip)
local macro_rules | `(tactic| walk_at "lz") => `(tactic| first | exact (show 4 < 1000 by decide) | exact (show 8 < 1000 by decide) | exact (show 3 < 1000 by decide) | exact (show 10 < 1000 by decide) | exact (show 7 < 1000 by decide) | exact (show 5 < 1000 by decide) | exact (show 0 < 1000 by decide) | exact (show 1 < 1000 by decide) | exact (show 2 < 1000 by decide) | exact (show 6 < 1000 by decide) | exact (show 9 < 1000 by decide))
local macro_rules | `(tactic| walk_at "cl") => `(tactic| first | with_reducible assumption | with_reducible exact Dp.Tx.cls_Line (by with_reducible assumption) | with_reducible exact Dp.Tx.cls_Satellite (by with_reducible assumption) | with_reducible exact Dp.Tx.cls_Station (by with_reducible assumption) | with_reducible exact Dp.Tx.cls_Recording (by with_reducible assumption) | with_reducible exact Dp.Tx.cls_Pass (by with_reducible assumption) | with_reducible exact Dp.Tx.cls_Draft (by with_reducible assumption) | with_reducible exact Dp.Tx.cls_World (by with_reducible assumption))
local macro_rules | `(tactic| walk_at "no") => `(tactic| first | with_reducible exact Dp.Tx.no_Line_number (by with_reducible assumption) | with_reducible exact Dp.Tx.no_Line_words (by with_reducible assumption) | with_reducible exact Dp.Tx.no_Line_place (by with_reducible assumption) | with_reducible exact Dp.Tx.no_Line_column (by with_reducible assumption) | with_reducible exact Dp.Tx.no_Satellite_name (by with_reducible assumption) | with_reducible exact Dp.Tx.no_Satellite_store (by with_reducible assumption) | with_reducible exact Dp.Tx.no_Satellite_battery (by with_reducible assumption) | with_reducible exact Dp.Tx.no_Satellite_start_level (by with_reducible assumption) | with_reducible exact Dp.Tx.no_Satellite_reserve (by with_reducible assumption) | with_reducible exact Dp.Tx.no_Satellite_charge (by with_reducible assumption) | with_reducible exact Dp.Tx.no_Satellite_settle (by with_reducible assumption) | with_reducible exact Dp.Tx.no_Satellite_light (by with_reducible assumption) | with_reducible exact Dp.Tx.no_Station_name (by with_reducible assumption) | with_reducible exact Dp.Tx.no_Station_antennas (by with_reducible assumption) | with_reducible exact Dp.Tx.no_Station_turn (by with_reducible assumption) | with_reducible exact Dp.Tx.no_Recording_name (by with_reducible assumption) | with_reducible exact Dp.Tx.no_Recording_satellite (by with_reducible assumption) | with_reducible exact Dp.Tx.no_Recording_earliest (by with_reducible assumption) | with_reducible exact Dp.Tx.no_Recording_latest (by with_reducible assumption) | with_reducible exact Dp.Tx.no_Recording_length (by with_reducible assumption) | with_reducible exact Dp.Tx.no_Recording_size (by with_reducible assumption) | with_reducible exact Dp.Tx.no_Recording_energy (by with_reducible assumption) | with_reducible exact Dp.Tx.no_Recording_worth (by with_reducible assumption) | with_reducible exact Dp.Tx.no_Recording_rank (by with_reducible assumption) | with_reducible exact Dp.Tx.no_Recording_deadline (by with_reducible assumption) | with_reducible exact Dp.Tx.no_Pass_name (by with_reducible assumption) | with_reducible exact Dp.Tx.no_Pass_satellite (by with_reducible assumption) | with_reducible exact Dp.Tx.no_Pass_station (by with_reducible assumption) | with_reducible exact Dp.Tx.no_Pass_span (by with_reducible assumption) | with_reducible exact Dp.Tx.no_Pass_room (by with_reducible assumption) | with_reducible exact Dp.Tx.no_Pass_energy (by with_reducible assumption) | with_reducible exact Dp.Tx.no_Pass_fee (by with_reducible assumption) | with_reducible exact Dp.Tx.no_Draft_horizon (by with_reducible assumption) | with_reducible exact Dp.Tx.no_Draft_satellites (by with_reducible assumption) | with_reducible exact Dp.Tx.no_Draft_stations (by with_reducible assumption) | with_reducible exact Dp.Tx.no_Draft_recordings (by with_reducible assumption) | with_reducible exact Dp.Tx.no_Draft_passes (by with_reducible assumption) | with_reducible exact Dp.Tx.no_World_horizon (by with_reducible assumption) | with_reducible exact Dp.Tx.no_World_satellites (by with_reducible assumption) | with_reducible exact Dp.Tx.no_World_stations (by with_reducible assumption) | with_reducible exact Dp.Tx.no_World_recordings (by with_reducible assumption) | with_reducible exact Dp.Tx.no_World_passes (by with_reducible assumption) | with_reducible exact Dp.Tx.no_World_choices (by with_reducible assumption) | with_reducible exact Dp.Tx.no_World_text (by with_reducible assumption))
local macro_rules | `(tactic| walk_at "lk") => `(tactic| first | with_reducible assumption | with_reducible exact Dp.lk_Line_number _ _ _ _ | with_reducible exact Dp.lk_Line_words _ _ _ _ | with_reducible exact Dp.lk_Line_place _ _ _ _ | with_reducible exact Dp.lk_Line_column _ _ _ _ | with_reducible exact Dp.lk_Satellite_name _ _ _ _ _ _ _ _ | with_reducible exact Dp.lk_Satellite_store _ _ _ _ _ _ _ _ | with_reducible exact Dp.lk_Satellite_battery _ _ _ _ _ _ _ _ | with_reducible exact Dp.lk_Satellite_start_level _ _ _ _ _ _ _ _ | with_reducible exact Dp.lk_Satellite_reserve _ _ _ _ _ _ _ _ | with_reducible exact Dp.lk_Satellite_charge _ _ _ _ _ _ _ _ | with_reducible exact Dp.lk_Satellite_settle _ _ _ _ _ _ _ _ | with_reducible exact Dp.lk_Satellite_light _ _ _ _ _ _ _ _ | with_reducible exact Dp.lk_Station_name _ _ _ | with_reducible exact Dp.lk_Station_antennas _ _ _ | with_reducible exact Dp.lk_Station_turn _ _ _ | with_reducible exact Dp.lk_Recording_name _ _ _ _ _ _ _ _ _ _ | with_reducible exact Dp.lk_Recording_satellite _ _ _ _ _ _ _ _ _ _ | with_reducible exact Dp.lk_Recording_earliest _ _ _ _ _ _ _ _ _ _ | with_reducible exact Dp.lk_Recording_latest _ _ _ _ _ _ _ _ _ _ | with_reducible exact Dp.lk_Recording_length _ _ _ _ _ _ _ _ _ _ | with_reducible exact Dp.lk_Recording_size _ _ _ _ _ _ _ _ _ _ | with_reducible exact Dp.lk_Recording_energy _ _ _ _ _ _ _ _ _ _ | with_reducible exact Dp.lk_Recording_worth _ _ _ _ _ _ _ _ _ _ | with_reducible exact Dp.lk_Recording_rank _ _ _ _ _ _ _ _ _ _ | with_reducible exact Dp.lk_Recording_deadline _ _ _ _ _ _ _ _ _ _ | with_reducible exact Dp.lk_Pass_name _ _ _ _ _ _ _ | with_reducible exact Dp.lk_Pass_satellite _ _ _ _ _ _ _ | with_reducible exact Dp.lk_Pass_station _ _ _ _ _ _ _ | with_reducible exact Dp.lk_Pass_span _ _ _ _ _ _ _ | with_reducible exact Dp.lk_Pass_room _ _ _ _ _ _ _ | with_reducible exact Dp.lk_Pass_energy _ _ _ _ _ _ _ | with_reducible exact Dp.lk_Pass_fee _ _ _ _ _ _ _ | with_reducible exact Dp.lk_Draft_horizon _ _ _ _ _ | with_reducible exact Dp.lk_Draft_satellites _ _ _ _ _ | with_reducible exact Dp.lk_Draft_stations _ _ _ _ _ | with_reducible exact Dp.lk_Draft_recordings _ _ _ _ _ | with_reducible exact Dp.lk_Draft_passes _ _ _ _ _ | with_reducible exact Dp.lk_World_horizon _ _ _ _ _ _ _ | with_reducible exact Dp.lk_World_satellites _ _ _ _ _ _ _ | with_reducible exact Dp.lk_World_stations _ _ _ _ _ _ _ | with_reducible exact Dp.lk_World_recordings _ _ _ _ _ _ _ | with_reducible exact Dp.lk_World_passes _ _ _ _ _ _ _ | with_reducible exact Dp.lk_World_choices _ _ _ _ _ _ _ | with_reducible exact Dp.lk_World_text _ _ _ _ _ _ _)
local macro_rules | `(tactic| walk_at "ln") => `(tactic| first | with_reducible assumption | with_reducible exact Dp.ln_Line_at_end _ _ _ _ | with_reducible exact Dp.ln_Line_peek _ _ _ _ | with_reducible exact Dp.ln_Line_skip _ _ _ _ | with_reducible exact Dp.ln_Line_expect _ _ _ _ | with_reducible exact Dp.ln_Line_take_number _ _ _ _ | with_reducible exact Dp.ln_Line_take_field _ _ _ _ | with_reducible exact Dp.ln_Line_take_new _ _ _ _ | with_reducible exact Dp.ln_Line_take_known _ _ _ _ | with_reducible exact Dp.ln_Line_finish _ _ _ _ | with_reducible exact Dp.ln_Satellite_line _ _ _ _ _ _ _ _ | with_reducible exact Dp.ln_Station_line _ _ _ | with_reducible exact Dp.ln_Recording_line _ _ _ _ _ _ _ _ _ _ | with_reducible exact Dp.ln_Pass_line _ _ _ _ _ _ _ | with_reducible exact Dp.ln_World_eq _ _ _ _ _ _ _)
local macro_rules | `(tactic| walk_at "hp") => `(tactic| first | with_reducible assumption | with_reducible exact L2.upd_same | ((with_reducible refine Eq.trans (L2.upd_ne ?h) ?_); (case h => with_reducible assumption); walk_at "hp") | assumption)
local macro_rules | `(tactic| walk_at "sx1") => `(tactic| first
  | with_reducible refine Dp.x_seq ?_
  | with_reducible refine Dp.x_set ?_
  | with_reducible refine Dp.x_asg ?_
  | with_reducible refine Dp.x_ret ?_
  | with_reducible refine Dp.x_drop ?_
  | with_reducible refine Dp.x_if ?_
  | with_reducible refine Dp.x_next ?_
  | ((with_reducible refine' Dp.x_var ?h ?_); (case h => exact rfl))
  | with_reducible refine Dp.x_c ?_
  | with_reducible refine Dp.x_fld ?_
  | with_reducible refine Dp.x_op ?_
  | with_reducible refine Dp.x_un ?_
  | with_reducible refine Dp.x_cons ?_
  | with_reducible refine Dp.x_nil ?_
  | with_reducible refine Dp.x_cb ?_
  | with_reducible refine Dp.x_test ?_
  | with_reducible refine Dp.x_tB ?_
  | with_reducible refine Dp.x_not ?_
  | with_reducible refine Dp.x_and ?_
  | with_reducible refine Dp.x_or ?_
  | with_reducible refine Dp.x_orV ?_
  | with_reducible refine Dp.x_andV ?_
  | with_reducible refine Dp.x_notV ?_
  | with_reducible refine Dp.x_chain ?_
  | with_reducible refine Dp.x_lst ?_
  | with_reducible refine Dp.x_tup ?_
  | with_reducible refine Dp.x_call ?_
  | with_reducible refine Dp.x_meth ?_
  | with_reducible refine Dp.x_make ?_
  | with_reducible refine Dp.x_sfld ?_
  | with_reducible refine Dp.x_sfldaug ?_
  | with_reducible refine Dp.x_rU ?_
  | with_reducible refine Dp.x_rI0 ?_
  | ((with_reducible refine' Dp.x_rEq ?h ?_); (case h => exact rfl))
  | ((with_reducible refine' Dp.x_rNe ?h ?_); (case h => exact rfl))
  | with_reducible refine Dp.x_bl ?_
  | ((with_reducible refine' Dp.x_sfldE ?h ?c ?n ?l ?_); (case h => walk_at "hp"); (case c => walk_at "cl"); (case n => walk_at "no"); (case l => walk_at "lz"); walk_at "pf")
  | ((with_reducible refine' Dp.x_fldE ?h ?c ?n ?l ?_); (case h => walk_at "hp"); (case c => walk_at "cl"); (case n => walk_at "no"); (case l => walk_at "lk"))
  | ((with_reducible refine' Dp.x_augE ?h ?c ?n ?l ?_); (case h => walk_at "hp"); (case c => walk_at "cl"); (case n => walk_at "no"); (case l => walk_at "lk"))
  | ((with_reducible refine' Dp.x_augP ?h ?l ?_); (case h => walk_at "hp"); (case l => walk_at "lz"); walk_at "pf")
  | with_reducible refine Dp.x_rAdd ?_
  | with_reducible refine Dp.x_gFld ?_
  | ((with_reducible refine Dp.x_js0 ?_); intro _)
  | with_reducible refine Dp.x_jsF ?_
  | with_reducible refine Dp.x_jsE ?_
  | ((with_reducible refine' Dp.x_jsL ?h ?l ?m ?_); (case h => with_reducible assumption); (case l => decide +kernel); (case m => decide); intro _)
  | ((with_reducible refine' Dp.x_jfS ?h ?l ?m ?_); (case h => with_reducible assumption); (case l => with_reducible assumption); (case m => decide); intro _)
  | ((with_reducible refine' Dp.x_jfI ?h ?l ?m ?_); (case h => with_reducible assumption); (case l => with_reducible assumption); (case m => decide); intro _)
  | with_reducible refine Dp.x_m1 ?_
  | with_reducible refine Dp.x_isS ?_
  | with_reducible refine Dp.x_slice ?_
  | with_reducible refine Dp.x_noPart ?_
  | with_reducible refine Dp.x_part ?_
  | with_reducible refine Dp.x_int ?_
  | ((with_reducible refine' Dp.x_slL ?h ?_); (case h => walk_at "hp"))
  | with_reducible refine Dp.x_gName ?_
  | ((with_reducible refine' Dp.x_gtup ?h ?l ?_); (case h => walk_at "hp"); (case l => exact rfl))
  | with_reducible refine Dp.x_gcons ?_
  | with_reducible refine Dp.x_gnil ?_
  | with_reducible refine Dp.x_for ?_
  | with_reducible refine Dp.x_lc ?_
  | with_reducible refine Dp.x_iList ?_
  | with_reducible refine Dp.x_iTup ?_
  | with_reducible refine Dp.x_iStr ?_
  | ((with_reducible refine' Dp.x_iListE ?h ?_); (case h => walk_at "hp"))
  | ((with_reducible refine' Dp.x_iTupE ?h ?_); (case h => walk_at "hp"))
  | with_reducible refine Dp.x_str ?_
  | with_reducible refine Dp.x_iEnum ?_
  | with_reducible refine Dp.x_iEnumT ?_
  | ((with_reducible refine' Dp.x_iEnumE ?h ?_); (case h => walk_at "hp"))
  | ((with_reducible refine' Dp.x_iEnumTE ?h ?_); (case h => walk_at "hp"))
  | with_reducible refine Dp.x_rng1 ?_
  | with_reducible refine Dp.x_rng2 ?_
  | with_reducible refine Dp.x_bm ?_
  | ((with_reducible refine' Dp.x_tyL ?h ?_); (case h => walk_at "hp"))
  | ((with_reducible refine' Dp.x_methE ?h ?l ?_); (case h => walk_at "hp"); (case l => walk_at "ln"))
  | ((with_reducible refine' Dp.x_ixL ?h ?a ?_); (case h => walk_at "hp"); (case a => assumption))
  | ((with_reducible refine' Dp.x_ixT ?h ?a ?_); (case h => walk_at "hp"); (case a => assumption))
  | ((with_reducible refine' Dp.x_lenL ?h ?_); (case h => walk_at "hp"))
  | with_reducible refine Dp.x_int1 ?_)
local macro_rules | `(tactic| walk_at "sx") => `(tactic| repeat walk_at "sx1")
namespace Dp
open PySem PySem.Spec PyProof.Rows L2 SX
/-! ### the words of a line -/
/-- the line at a: its words ws, i of them read -/
def LnAt (K : PySem.W.Frag) (H : Hp) (a : Addr) (ws : List (List Nat)) (i : Nat) : Prop :=
  ∃ (dx l : Addr) (nu co : Int), H a = some (.ins (cLine K) dx (fLine (.int nu) (.ref l) (.int (i : Int)) (.int co))) ∧ H l = some (.lst (txts ws))
/-- since H0 only the line at a has moved on -/
structure LnSt (K : PySem.W.Frag) (a : Addr) (ws : List (List Nat)) (i : Nat) (H0 H : Hp) : Prop where
  at_ : LnAt K H a ws i
  keep : ∀ b o, H0 b = some o → b ≠ a → H b = some o
theorem LnSt.refl {K : PySem.W.Frag} {a : Addr} {ws : List (List Nat)} {i : Nat} {H : Hp} (h : LnAt K H a ws i) : LnSt K a ws i H H := ⟨h, fun _ _ e _ => e⟩
theorem LnAt.same {K : PySem.W.Frag} {a : Addr} {ws : List (List Nat)} {i : Nat} {H H' : Hp} (h : LnAt K H a ws i) (s : Same H H') : LnAt K H' a ws i := by
  obtain ⟨dx, l, nu, co, h1, h2⟩ := h
  exact ⟨dx, l, nu, co, s _ _ h1, s _ _ h2⟩
theorem LnSt.same {K : PySem.W.Frag} {a : Addr} {ws : List (List Nat)} {i : Nat} {H0 H H' : Hp} (h : LnSt K a ws i H0 H) (s : Same H H') : LnSt K a ws i H0 H' := ⟨h.at_.same s, fun b o e n => s _ _ (h.keep b o e n)⟩
theorem LnSt.trans {K : PySem.W.Frag} {a : Addr} {ws : List (List Nat)} {i j : Nat} {H0 H H' : Hp} (h : LnSt K a ws i H0 H) (k : LnSt K a ws j H H') : LnSt K a ws j H0 H' := ⟨k.at_, fun b o e n => k.keep b o (h.keep b o e n) n⟩
def spIsNumber : Sp := fun vs H Q _ => ∃ n : Int, vs = [.str (S (num n))] ∧ 0 ≤ n ∧ n < 10000000 ∧ ∀ H', Same H H' → Q (.bl true) H'
def spIsName : Sp := fun vs H Q _ => ∃ w : List Nat, vs = [.str (S w)] ∧ NameOk w ∧ ∀ H', Same H H' → Q (.bl true) H'
def spAtEnd (K : PySem.W.Frag) : Sp := fun vs H Q _ => ∃ (a : Addr) (ws : List (List Nat)) (i : Nat), vs = [.ref a] ∧ LnAt K H a ws i ∧ Q (.bl (decide (i = ws.length))) H
def spPeek (K : PySem.W.Frag) : Sp := fun vs H Q _ => ∃ (a : Addr) (ws : List (List Nat)) (i : Nat) (w : List Nat), vs = [.ref a] ∧ LnAt K H a ws i ∧ ws[i]? = some w ∧ w ≠ [] ∧ Q (.str (S w)) H
def spSkip (K : PySem.W.Frag) : Sp := fun vs H Q _ => ∃ (a : Addr) (ws : List (List Nat)) (i : Nat) (w : List Nat) (H0 : Hp), vs = [.ref a] ∧ LnSt K a ws i H0 H ∧ ws[i]? = some w ∧ w.length ≤ 15 ∧
  ∀ H', LnSt K a ws (i + 1) H0 H' → Q .non H'
def spExpect (K : PySem.W.Frag) : Sp := fun vs H Q _ => ∃ (a : Addr) (ws : List (List Nat)) (i : Nat) (z : Str) (w : List Nat) (H0 : Hp), vs = [.ref a, .str z] ∧ z = S w ∧ LnSt K a ws i H0 H ∧ ws[i]? = some w ∧ WordOk w ∧
  ∀ H', LnSt K a ws (i + 1) H0 H' → Q .non H'
def spTakeNumber (K : PySem.W.Frag) : Sp := fun vs H Q _ => ∃ (a : Addr) (ws : List (List Nat)) (i : Nat) (n lo hi : Int) (H0 : Hp), vs = [.ref a, .int lo, .int hi] ∧ LnSt K a ws i H0 H ∧ ws[i]? = some (num n) ∧
  0 ≤ n ∧ n < 10000000 ∧ lo ≤ n ∧ n ≤ hi ∧ ∀ H', LnSt K a ws (i + 1) H0 H' → Q (.int n) H'
def spTakeField (K : PySem.W.Frag) : Sp := fun vs H Q _ => ∃ (a : Addr) (ws : List (List Nat)) (i : Nat) (z : Str) (w : List Nat) (n lo hi : Int) (H0 : Hp), vs = [.ref a, .str z, .int lo, .int hi] ∧ z = S w ∧ LnSt K a ws i H0 H ∧
  ws[i]? = some w ∧ WordOk w ∧ ws[i + 1]? = some (num n) ∧ 0 ≤ n ∧ n < 10000000 ∧ lo ≤ n ∧ n ≤ hi ∧ ∀ H', LnSt K a ws (i + 2) H0 H' → Q (.int n) H'
def spTakeNew (K : PySem.W.Frag) : Sp := fun vs H Q _ => ∃ (a t : Addr) (ws ns : List (List Nat)) (i : Nat) (w : List Nat) (H0 : Hp), vs = [.ref a, .ref t] ∧ LnSt K a ws i H0 H ∧ H t = some (.lst (txts ns)) ∧ ws[i]? = some w ∧
  NameOk w ∧ w ∉ ns ∧ ∀ H', LnSt K a ws (i + 1) H0 H' → Q (.str (S w)) H'
def spTakeKnown (K : PySem.W.Frag) : Sp := fun vs H Q _ => ∃ (a t : Addr) (ws ns : List (List Nat)) (i j : Nat) (w : List Nat) (H0 : Hp), vs = [.ref a, .ref t, .int 0] ∧ LnSt K a ws i H0 H ∧ H t = some (.lst (txts ns)) ∧ ws[i]? = some w ∧
  NameOk w ∧ ns[j]? = some w ∧ ns.Nodup ∧ ∀ H', LnSt K a ws (i + 1) H0 H' → Q (.int (j : Int)) H'
def spFinish (K : PySem.W.Frag) : Sp := fun vs H Q _ => ∃ (a : Addr) (ws : List (List Nat)), vs = [.ref a] ∧ LnAt K H a ws ws.length ∧ Q .non H
theorem txts_flat (ns : List (List Nat)) : (txts ns).all flatV = true := List.all_eq_true.mpr fun x hx => by
  obtain ⟨n, _, e⟩ := List.mem_map.mp hx
  rw [← e]
  rfl
theorem eqV_str (a b : Str) : eqV (.str a) (.str b) = decide (a = b) := by
  unfold eqV
  by_cases e : a = b
  · subst e
    simp
  · simp [e]
theorem inV_txts (w : List Nat) (ns : List (List Nat)) : inV (.str (S w)) (txts ns) = decide (w ∈ ns) := by
  unfold inV
  rw [List.any_map]
  induction ns with
  | nil => simp
  | cons a r ih =>
    rw [List.any_cons, ih]
    show (eqV (.str (S a)) (.str (S w)) || decide (w ∈ r)) = _
    rw [eqV_str]
    by_cases e : a = w
    · subst e
      simp
    · have e2 : ¬ S a = S w := fun q => e (S_inj q)
      have e3 : ¬ w = a := fun q => e q.symm
      simp [e2, e3]
theorem txts_out {w : List Nat} {ns : List (List Nat)} (h : w ∉ ns) : (if false = true then !inV (.str (S w)) (txts ns) else inV (.str (S w)) (txts ns)) = false := by
  rw [if_neg Bool.false_ne_true, inV_txts, decide_eq_false h]
theorem txts_in {w : List Nat} {ns : List (List Nat)} (h : w ∈ ns) : (if true = true then !inV (.str (S w)) (txts ns) else inV (.str (S w)) (txts ns)) = false := by
  rw [if_pos rfl, inV_txts, decide_eq_true h]
  rfl
theorem txts_index {K : PySem.W.Frag} {w : List Nat} {ns : List (List Nat)} {j : Nat} {H : Hp} {Q : VK} {c : Addr} (hj : ns[j]? = some w) (hd : ns.Nodup) (hc : H c = some (.lst (txts ns))) (q : Q (.int (j : Nat)) H) : rIndex K (.ref c) [.str (S w)] H Q := by
  refine ⟨c, txts ns, .str (S w), j, .str (S w), rfl, rfl, SqL.of hc, rfl, txts_flat ns, by rw [List.getElem?_map, hj] <;> rfl, by rw [eqV_str, decide_eq_true rfl], ?_, q⟩
  intro m z hm hz
  rw [List.getElem?_map] at hz
  cases e : ns[m]? with
  | none =>
    rw [e] at hz
    cases hz
  | some u =>
    rw [e] at hz
    have ez : V.str (S u) = z := Option.some.inj hz
    rw [← ez, eqV_str]
    refine decide_eq_false fun q => ?_
    have eu := S_inj q
    subst eu
    have := nd_ix hd e hj
    omega
section
variable {P : Program} {w : World} {K : PySem.W.Frag} {mg : Str → Option Value} {base : Heap}
theorem sc_Line_at_end : FnScope ["self"] ["self"] (defScope s_Line_at_end) := ⟨rfl, rfl, rfl, by decide +kernel, rfl, by decide +kernel, by decide +kernel⟩
theorem ok_at_end (T : Tx K mg) : C8.Met P w K mg base 1 (cLine K) "at_end" (spAtEnd K) [] := by
  obtain ⟨fd, F⟩ := T.f_Line_at_end
  refine metOf F T.cls_Line T.me_Line_at_end (F.bindsN (ps := ["self"]) fun _ _ _ _ _ _ us hl => match us, hl with | [_], _ => rfl) sc_Line_at_end ?_ ?_
  · rintro vs H Q E ⟨a, ws, i, rfl, _⟩
    rfl
  · rintro cdv A outer s H vs Q E hr ⟨a, ws, i, rfl, ⟨dx, l, nu, co, h1, h2⟩, k⟩
    refine ⟨_, pss_one (ps_ret (pe_cmpR op_eq (pe_fld (pv 0) rfl) (pe_callB call_len_seq (by rfl) T.free_len PySem.boot_len (pa_cons (pe_fld (pv 0) rfl) pa_nil)) (nomark _))), ?_⟩
    try dsimp only [cxK]
    walk_at "sx"
    have e : decide (V.int (i : Int) = V.int ((txts ws).length : Int)) = decide (i = ws.length) := by
      rw [List.length_map]
      refine decide_eq_decide.mpr ⟨fun q => ?_, fun q => by rw [q]⟩
      have z := V.int.inj q
      omega
    rw [e]
    exact k
theorem sc_Line_peek : FnScope ["self"] ["self"] (defScope s_Line_peek) := ⟨rfl, rfl, rfl, by decide +kernel, rfl, by decide +kernel, by decide +kernel⟩
theorem ok_peek (T : Tx K mg) (k_Line_at_end : C8.Met P w K mg base 1 (cLine K) "at_end" (spAtEnd K) []) : C8.Met P w K mg base 2 (cLine K) "peek" (spPeek K) [] := by
  obtain ⟨fd, F⟩ := T.f_Line_peek
  refine metOf F T.cls_Line T.me_Line_peek (F.bindsN (ps := ["self"]) fun _ _ _ _ _ _ us hl => match us, hl with | [_], _ => rfl) sc_Line_peek ?_ ?_
  · rintro vs H Q E ⟨a, ws, i, w, rfl, _⟩
    rfl
  · rintro cdv A outer s H vs Q E hr ⟨a, ws, i, v, rfl, ⟨dx, l, nu, co, h1, h2⟩, hv, hne, k⟩
    refine ⟨_, pss_cons (ps_if (pt_val (C8.pe_mt0 k_Line_at_end hr (by decide) (pv 0))) (pss_one (ps_never)) (pss_nil))
      (pss_cons (ps_if (pt_cmpR op_eq (pe_ix ix_list (pe_fld (pv 0) rfl) (pe_fld (pv 0) rfl) (fun _ _ => rfl)) (pe_str) (nomark _)) (pss_one (ps_never)) (pss_nil))
      (pss_one (ps_ret (pe_ix ix_list (pe_fld (pv 0) rfl) (pe_fld (pv 0) rfl) (fun _ _ => rfl))))), ?_⟩
    try dsimp only [cxK]
    have ha := atI_txts hv
    walk_at "sx"
    refine ⟨a, ws, i, rfl, ⟨dx, l, nu, co, h1, h2⟩, ?_⟩
    walk_at "sx"
    refine x_nay (decide_eq_false fun q => ?_) ?_
    · have z := (List.getElem?_eq_some_iff.mp hv).1
      omega
    walk_at "sx"
    refine x_nay (str_ne fun q => hne ?_) ?_
    · rw [show (Str.ofString "" : Str) = S [] from by decide +kernel] at q
      exact S_inj q
    walk_at "sx"
    exact k
theorem sc_Line_skip : FnScope ["self"] ["self"] (defScope s_Line_skip) := ⟨rfl, rfl, rfl, by decide +kernel, rfl, by decide +kernel, by decide +kernel⟩
theorem ok_skip (T : Tx K mg) : C8.Met P w K mg base 1 (cLine K) "skip" (spSkip K) [] := by
  obtain ⟨fd, F⟩ := T.f_Line_skip
  refine metOf F T.cls_Line T.me_Line_skip (F.bindsN (ps := ["self"]) fun _ _ _ _ _ _ us hl => match us, hl with | [_], _ => rfl) sc_Line_skip ?_ ?_
  · rintro vs H Q E ⟨a, ws, i, w, H0, rfl, _⟩
    rfl
  · rintro cdv A outer s H vs Q E hr ⟨a, ws, i, v, H0, rfl, ⟨⟨dx, l, nu, co, h1, h2⟩, kp⟩, hv, hz, k⟩
    refine ⟨_, pss_cons (ps_fldaug (pv 0) (pe_op op_add (pe_callB call_len_str (by rfl) T.free_len PySem.boot_len (pa_cons (pe_ix ix_list (pe_fld (pv 0) rfl) (pe_fld (pv 0) rfl) (fun _ _ => rfl)) pa_nil)) (pe_int)) in_add)
      (pss_one (ps_fldaug (pv 0) (pe_int) in_add)), ?_⟩
    try dsimp only [cxK]
    have ha := atI_txts hv
    walk_at "sx"
    refine x_lenS (by rw [S_len]; exact small (by omega)) ?_
    walk_at "sx"
    have nla : l ≠ a := ne_of h2 h1 (by intro q; cases q)
    refine k _ ⟨⟨dx, l, nu, _, upd_same, ?_⟩, ?_⟩
    · rw [upd_ne nla, upd_ne nla]
      exact h2
    · intro b o e hb
      rw [upd_ne hb, upd_ne hb]
      exact kp b o e hb
theorem sc_Line_expect : FnScope ["self", "word"] ["self", "word"] (defScope s_Line_expect) := ⟨rfl, rfl, rfl, by decide +kernel, rfl, by decide +kernel, by decide +kernel⟩
theorem ok_expect (T : Tx K mg) (k_Line_peek : C8.Met P w K mg base 2 (cLine K) "peek" (spPeek K) []) (k_Line_skip : C8.Met P w K mg base 1 (cLine K) "skip" (spSkip K) []) : C8.Met P w K mg base 3 (cLine K) "expect" (spExpect K) [] := by
  obtain ⟨fd, F⟩ := T.f_Line_expect
  refine metOf F T.cls_Line T.me_Line_expect (F.bindsN (ps := ["self", "word"]) fun _ _ _ _ _ _ us hl => match us, hl with | [_, _], _ => rfl) sc_Line_expect ?_ ?_
  · rintro vs H Q E ⟨a, ws, i, z, w, H0, rfl, _⟩
    rfl
  · rintro cdv A outer s H vs Q E hr ⟨a, ws, i, z, v, H0, rfl, rfl, L, hv, hok, k⟩
    refine ⟨_, pss_cons (ps_if (pt_cmpR op_ne (C8.pe_mt0 k_Line_peek hr (by decide) (pv 0)) (pv 1) (nomark _)) (pss_one (ps_never)) (pss_nil))
      (pss_one (ps_expr (C8.pe_mt0 k_Line_skip hr (by decide) (pv 0)))), ?_⟩
    try dsimp only [cxK]
    obtain ⟨dx, l, nu, co, h1, h2⟩ := L.at_
    walk_at "sx"
    refine ⟨a, ws, i, v, rfl, L.at_, hv, hok.1, ?_⟩
    walk_at "sx"
    refine x_nay (by rw [str_eq rfl]; rfl) ?_
    walk_at "sx"
    exact ⟨a, ws, i, v, H0, rfl, L, hv, hok.2.1, k⟩
theorem sc_Line_take_number : FnScope ["self", "least", "most", "word"] ["self", "least", "most"] (defScope s_Line_take_number) := ⟨rfl, rfl, rfl, by decide +kernel, rfl, by decide +kernel, by decide +kernel⟩
theorem ok_take_number (T : Tx K mg) (k_Line_peek : C8.Met P w K mg base 2 (cLine K) "peek" (spPeek K) []) (k_Line_skip : C8.Met P w K mg base 1 (cLine K) "skip" (spSkip K) []) (k_is_number : C8.Cal P w K mg base 1 "is_number" spIsNumber []) :
    C8.Met P w K mg base 3 (cLine K) "take_number" (spTakeNumber K) [] := by
  obtain ⟨fd, F⟩ := T.f_Line_take_number
  refine metOf F T.cls_Line T.me_Line_take_number (F.bindsN (ps := ["self", "least", "most"]) fun _ _ _ _ _ _ us hl => match us, hl with | [_, _, _], _ => rfl) sc_Line_take_number ?_ ?_
  · rintro vs H Q E ⟨a, ws, i, n, lo, hi, H0, rfl, _⟩
    rfl
  · rintro cdv A outer s H vs Q E hr ⟨a, ws, i, n, lo, hi, H0, rfl, L, hv, h0, h7, hlo, hhi, k⟩
    refine ⟨_, pss_cons (ps_set (i := 3) sc_Line_take_number.nd rfl (Or.inl rfl) (C8.pe_mt0 k_Line_peek hr (by decide) (pv 0)))
      (pss_cons (ps_if (pt_not (pt_val (C8.pe_c k_is_number hr (by decide) (by rfl) (pa_cons (pv 3) pa_nil)))) (pss_one (ps_never)) (pss_nil))
      (pss_cons (ps_if (pt_not (pt_chain op_le op_le (pv 1) (pe_callTy call_int_str (by rfl) T.free_int (by decide +kernel) (pa_cons (pv 3) pa_nil)) (pv 2))) (pss_one (ps_never)) (pss_nil))
      (pss_cons (ps_expr (C8.pe_mt0 k_Line_skip hr (by decide) (pv 0)))
      (pss_one (ps_ret (pe_callTy call_int_str (by rfl) T.free_int (by decide +kernel) (pa_cons (pv 3) pa_nil))))))), ?_⟩
    try dsimp only [cxK]
    obtain ⟨dx, l, nu, co, h1, h2⟩ := L.at_
    have hi : intText? (S (num n)) = some n := num_int h0 h7
    have hz : (S (num n)).length ≤ 640 := by
      have z := num_len h7
      rw [S_len]
      omega
    walk_at "sx"
    refine ⟨a, ws, i, _, rfl, L.at_, hv, num_ne n, ?_⟩
    walk_at "sx"
    refine ⟨n, rfl, h0, h7, fun H1 s1 => ?_⟩
    walk_at "sx"
    refine x_nay rfl ?_
    walk_at "sx"
    refine ⟨_, n, rfl, hi, hz, ?_⟩
    walk_at "sx"
    refine x_yes (decide_eq_true hlo) ?_
    walk_at "sx"
    refine x_nay (by rw [decide_eq_true hhi]; rfl) ?_
    have L1 := L.same s1
    obtain ⟨dx, l, nu, co, h1, h2⟩ := L1.at_
    walk_at "sx"
    refine ⟨a, ws, i, _, H0, rfl, L1, hv, Nat.le_trans (num_len h7) (by decide), fun H2 L2 => ?_⟩
    walk_at "sx"
    refine ⟨_, n, rfl, hi, hz, ?_⟩
    exact k _ L2
theorem sc_Line_take_field : FnScope ["self", "word", "least", "most"] ["self", "word", "least", "most"] (defScope s_Line_take_field) := ⟨rfl, rfl, rfl, by decide +kernel, rfl, by decide +kernel, by decide +kernel⟩
theorem ok_take_field (T : Tx K mg) (k_Line_expect : C8.Met P w K mg base 3 (cLine K) "expect" (spExpect K) []) (k_Line_take_number : C8.Met P w K mg base 3 (cLine K) "take_number" (spTakeNumber K) []) :
    C8.Met P w K mg base 4 (cLine K) "take_field" (spTakeField K) [] := by
  obtain ⟨fd, F⟩ := T.f_Line_take_field
  refine metOf F T.cls_Line T.me_Line_take_field (F.bindsN (ps := ["self", "word", "least", "most"]) fun _ _ _ _ _ _ us hl => match us, hl with | [_, _, _, _], _ => rfl) sc_Line_take_field ?_ ?_
  · rintro vs H Q E ⟨a, ws, i, z, w, n, lo, hi, H0, rfl, _⟩
    rfl
  · rintro cdv A outer s H vs Q E hr ⟨a, ws, i, z, v, n, lo, hi, H0, rfl, hz, L, hv, hok, hn, h0, h7, hlo, hhi, k⟩
    refine ⟨_, pss_cons (ps_expr (C8.pe_mt k_Line_expect hr (by decide) (pv 0) (pa_cons (pv 1) pa_nil)))
      (pss_one (ps_ret (C8.pe_mt k_Line_take_number hr (by decide) (pv 0) (pa_cons (pv 2) (pa_cons (pv 3) pa_nil))))), ?_⟩
    try dsimp only [cxK]
    obtain ⟨dx, l, nu, co, h1, h2⟩ := L.at_
    walk_at "sx"
    refine ⟨a, ws, i, z, v, H0, rfl, hz, L, hv, hok, fun H1 L1 => ?_⟩
    obtain ⟨dx, l, nu, co, h1, h2⟩ := L1.at_
    walk_at "sx"
    exact ⟨a, ws, i + 1, n, lo, hi, H0, rfl, L1, hn, h0, h7, hlo, hhi, k⟩
theorem sc_Line_take_new : FnScope ["self", "taken", "word"] ["self", "taken"] (defScope s_Line_take_new) := ⟨rfl, rfl, rfl, by decide +kernel, rfl, by decide +kernel, by decide +kernel⟩
theorem ok_take_new (T : Tx K mg) (k_Line_peek : C8.Met P w K mg base 2 (cLine K) "peek" (spPeek K) []) (k_Line_skip : C8.Met P w K mg base 1 (cLine K) "skip" (spSkip K) []) (k_is_name : C8.Cal P w K mg base 1 "is_name" spIsName []) :
    C8.Met P w K mg base 3 (cLine K) "take_new" (spTakeNew K) [] := by
  obtain ⟨fd, F⟩ := T.f_Line_take_new
  refine metOf F T.cls_Line T.me_Line_take_new (F.bindsN (ps := ["self", "taken"]) fun _ _ _ _ _ _ us hl => match us, hl with | [_, _], _ => rfl) sc_Line_take_new ?_ ?_
  · rintro vs H Q E ⟨a, t, ws, ns, i, w, H0, rfl, _⟩
    rfl
  · rintro cdv A outer s H vs Q E hr ⟨a, t, ws, ns, i, v, H0, rfl, L, ht, hv, hok, hno, k⟩
    refine ⟨_, pss_cons (ps_set (i := 2) sc_Line_take_new.nd rfl (Or.inl rfl) (C8.pe_mt0 k_Line_peek hr (by decide) (pv 0)))
      (pss_cons (ps_if (pt_not (pt_val (C8.pe_c k_is_name hr (by decide) (by rfl) (pa_cons (pv 2) pa_nil)))) (pss_one (ps_never)) (pss_nil))
      (pss_cons (ps_if (pt_cmpR op_in_seq (pv 2) (pv 1) (by rfl)) (pss_one (ps_never)) (pss_nil))
      (pss_cons (ps_expr (C8.pe_mt0 k_Line_skip hr (by decide) (pv 0)))
      (pss_one (ps_ret (pv 2)))))), ?_⟩
    try dsimp only [cxK]
    obtain ⟨dx, l, nu, co, h1, h2⟩ := L.at_
    walk_at "sx"
    refine ⟨a, ws, i, v, rfl, L.at_, hv, hok.word.1, ?_⟩
    walk_at "sx"
    refine ⟨v, rfl, hok, fun H1 s1 => ?_⟩
    walk_at "sx"
    refine x_nay rfl ?_
    walk_at "sx"
    refine ⟨t, txts ns, rfl, .inl (SqL.of (s1 _ _ ht)), rfl, txts_flat ns, ?_⟩
    walk_at "sx"
    refine x_nay (txts_out hno) ?_
    have L1 := L.same s1
    obtain ⟨dx, l, nu, co, h1, h2⟩ := L1.at_
    walk_at "sx"
    refine ⟨a, ws, i, v, H0, rfl, L1, hv, hok.few, fun H2 L2 => ?_⟩
    walk_at "sx"
    exact k _ L2
theorem sc_Line_take_known : FnScope ["self", "names", "least", "word"] ["self", "names", "least"] (defScope s_Line_take_known) := ⟨rfl, rfl, rfl, by decide +kernel, rfl, by decide +kernel, by decide +kernel⟩
theorem ok_take_known (T : Tx K mg) (k_Line_peek : C8.Met P w K mg base 2 (cLine K) "peek" (spPeek K) []) (k_Line_skip : C8.Met P w K mg base 1 (cLine K) "skip" (spSkip K) []) (k_is_name : C8.Cal P w K mg base 1 "is_name" spIsName []) :
    C8.Met P w K mg base 3 (cLine K) "take_known" (spTakeKnown K) [.int 0] := by
  obtain ⟨fd, F⟩ := T.f_Line_take_known
  obtain ⟨ds, rd, b⟩ := F.binds1 (ps := ["self", "names", "least"]) 2 0 (by intro q; cases q) rfl fun T kV doc pm an cdv ct us its hu hi => match us, its, hu, hi with | [_, _], [_], _, _ => ⟨_, rfl, rfl⟩
  refine ⟨_, fd, _, ds, T.cls_Line, T.me_Line_take_known, F.ok sc_Line_take_known ?_ ?_, b, rd⟩
  · rintro vs H Q E ⟨a, t, ws, ns, i, j, w, H0, rfl, _⟩
    rfl
  · rintro cdv A outer s H vs Q E hr ⟨a, t, ws, ns, i, j, v, H0, rfl, L, ht, hv, hok, hj, hd, k⟩
    refine ⟨_, PSs.nox (pss_cons (ps_set (i := 3) sc_Line_take_known.nd rfl (Or.inl rfl) (C8.pe_mt0 k_Line_peek hr (by decide) (pv 0)))
      (pss_cons (ps_if (pt_not (pt_val (C8.pe_c k_is_name hr (by decide) (by rfl) (pa_cons (pv 3) pa_nil)))) (pss_one (ps_never)) (pss_nil))
      (pss_cons (ps_if (pt_cmpR op_notIn_seq (pv 3) (pv 1) (by rfl)) (pss_one (ps_never)) (pss_nil))
      (pss_cons (ps_if (pt_cmpR op_lt (pe_bm PySem.F.plainAttrs_list PySem.F.slot_list_index PySem.F.type_list_index mt_index (pe_callTy call_list_of (by rfl) T.free_list (by decide +kernel) (pa_cons (pv 1) pa_nil)) (pa_cons (pv 3) pa_nil)) (pv 2) (nomark _)) (pss_one (ps_never)) (pss_nil))
      (pss_cons (ps_expr (C8.pe_mt0 k_Line_skip hr (by decide) (pv 0)))
      (pss_one (ps_ret (pe_bm PySem.F.plainAttrs_list PySem.F.slot_list_index PySem.F.type_list_index mt_index (pe_callTy call_list_of (by rfl) T.free_list (by decide +kernel) (pa_cons (pv 1) pa_nil)) (pa_cons (pv 3) pa_nil))))))))), ?_⟩
    try dsimp only [cxK]
    obtain ⟨dx, l, nu, co, h1, h2⟩ := L.at_
    have htr : t ≠ a := ne_of ht h1 (by intro q; cases q)
    walk_at "sx"
    refine ⟨a, ws, i, v, rfl, L.at_, hv, hok.word.1, ?_⟩
    walk_at "sx"
    refine ⟨v, rfl, hok, fun H1 s1 => ?_⟩
    walk_at "sx"
    refine x_nay rfl ?_
    walk_at "sx"
    have ht1 := s1 _ _ ht
    refine ⟨t, txts ns, rfl, .inl (SqL.of ht1), rfl, txts_flat ns, ?_⟩
    walk_at "sx"
    refine x_nay (txts_in (List.mem_of_getElem? hj)) ?_
    walk_at "sx"
    intro c hc
    walk_at "sx"
    refine txts_index hj hd upd_same ?_
    walk_at "sx"
    refine x_nay (decide_eq_false (by omega)) ?_
    have s2 : Same H (upd H1 c (.lst (txts ns))) := same_upd s1 hc
    have L1 := L.same s2
    obtain ⟨dx, l, nu, co, h1, h2⟩ := L1.at_
    walk_at "sx"
    refine ⟨a, ws, i, v, _, rfl, LnSt.refl L1.at_, hv, hok.few, fun H2 L2 => ?_⟩
    have ht2 := L2.keep _ _ (s2 _ _ ht) htr
    walk_at "sx"
    intro d hd'
    walk_at "sx"
    refine txts_index hj hd upd_same ?_
    exact k _ ((L1.trans L2).same (same_upd (Same.refl _) hd'))
theorem sc_Line_finish : FnScope ["self"] ["self"] (defScope s_Line_finish) := ⟨rfl, rfl, rfl, by decide +kernel, rfl, by decide +kernel, by decide +kernel⟩
theorem ok_finish (T : Tx K mg) (k_Line_at_end : C8.Met P w K mg base 1 (cLine K) "at_end" (spAtEnd K) []) : C8.Met P w K mg base 2 (cLine K) "finish" (spFinish K) [] := by
  obtain ⟨fd, F⟩ := T.f_Line_finish
  refine metOf F T.cls_Line T.me_Line_finish (F.bindsN (ps := ["self"]) fun _ _ _ _ _ _ us hl => match us, hl with | [_], _ => rfl) sc_Line_finish ?_ ?_
  · rintro vs H Q E ⟨a, ws, rfl, _⟩
    rfl
  · rintro cdv A outer s H vs Q E hr ⟨a, ws, rfl, L, k⟩
    refine ⟨_, pss_one (ps_if (pt_not (pt_val (C8.pe_mt0 k_Line_at_end hr (by decide) (pv 0)))) (pss_cons (ps_never)
        (pss_one (ps_never))) (pss_nil)), ?_⟩
    try dsimp only [cxK]
    obtain ⟨dx, l, nu, co, h1, h2⟩ := id L
    walk_at "sx"
    refine ⟨a, ws, ws.length, rfl, L, ?_⟩
    walk_at "sx"
    refine x_nay (by rw [decide_eq_true rfl]; rfl) ?_
    walk_at "sx"
    exact k
end
end Dp
namespace Dp
open PySem PySem.Spec PyProof.Rows L2 SX
/-! ### names and numbers -/
theorem let_mem : ∀ c, isL c → c ∈ (Str.ofString "abcdefghijklmnopqrstuvwxyzABCDEFGHIJKLMNOPQRSTUVWXYZ").cps.toList := by
  have h : ∀ c, c < 123 → ((97 ≤ c ∧ c ≤ 122) ∨ (65 ≤ c ∧ c ≤ 90)) → c ∈ (Str.ofString "abcdefghijklmnopqrstuvwxyzABCDEFGHIJKLMNOPQRSTUVWXYZ").cps.toList := by decide +kernel
  intro c hc
  refine h c ?_ hc
  rcases hc with q | q
  · omega
  · omega
theorem dig_mem : ∀ c, isD c → c ∈ (Str.ofString "0123456789").cps.toList := by
  have h : ∀ c, c < 58 → (48 ≤ c ∧ c ≤ 57) → c ∈ (Str.ofString "0123456789").cps.toList := by decide +kernel
  intro c hc
  have z : 48 ≤ c ∧ c ≤ 57 := hc
  exact h c (by omega) hc
theorem S_at {c : Nat} {l : List Nat} {i : Nat} (h : (S l).cps[i]? = some c) : c ∈ l := by
  have z : l[i]? = some c := by
    rw [← h]
    simp
  exact List.mem_of_getElem? z
theorem ne_empty {l : List Nat} (h : l ≠ []) : S l ≠ Str.ofString "" := fun q => by
  rw [show (Str.ofString "" : Str) = S [] from by decide +kernel] at q
  exact h (S_inj q)
theorem wipe_one (σ : L2.St) (i : Nat) (v : Option V) : wipe ((wipe σ [i]).set i v) [i] = wipe σ [i] := by
  show (((σ.set i none).set i v).set i none) = σ.set i none
  rw [List.set_set, List.set_set]
/-- all([.. for c in word]) where each is True -/
theorem call_all {K : PySem.W.Frag} {te : TE} {σ : L2.St} {H : Hp} {Q : VK} {l : List Nat} {i : Nat} (hl : l.length ≤ 100000) (hσ : σ[0]? = some (some (.str (S l))))
    (h : ∀ c ∈ l, ∀ (H' : Hp) (Qe : VK), Qe (.bl true) H' → te ((wipe σ [i]).set i (some (.str ⟨#[c]⟩))) H' Qe) (k : ∀ H', Same H H' → Q (.bl true) H') :
    tCB (rAll K) (tCons (tLc (iStr (tVar 0)) (gName i) tYes te [i]) tNil) σ H Q := by
  refine ⟨_, hσ, _, rfl, fun D hD => lc_it walk_str (fun j H' => ∃ bs : List Bool, H' D = some (.lst (bs.map V.bl)) ∧ bs.all id = true ∧ bs.length = j ∧ Same H H') ⟨[], upd_same, rfl, rfl, same_upd (Same.refl H) hD⟩ (fun _ _ _ _ => trivial) ?_ ?_⟩
  · rintro j x H1 H2 hj ⟨bs, h1, h2, h3, h4⟩ ⟨rfl, c, hc, rfl⟩
    refine ⟨wipe_one _ _ _, ?_⟩
    show te ((wipe σ [i]).set i (some (.str ⟨#[c]⟩))) H2 _
    refine h c (S_at hc) H2 _ ⟨_, h1, ?_, bs ++ [true], ?_, ?_, ?_, same_mut h4 hD⟩
    · rw [List.length_map]
      refine small_lt ?_
      have z : j < (S l).length := hj
      rw [S_len] at z
      omega
    · rw [List.map_append]
      exact upd_same
    · rw [List.all_append, h2]
      rfl
    · rw [List.length_append, h3]
      rfl
  · rintro H1 ⟨bs, h1, h2, h3, h4⟩
    refine ⟨D, bs, rfl, SqL.of h1, ?_⟩
    rw [h2]
    exact k _ h4
section
variable {P : Program} {w : World} {K : PySem.W.Frag} {mg : Str → Option Value} {base : Heap}
theorem sc_is_number : FnScope ["word", "char"] ["word"] (defScope s_is_number) := ⟨rfl, rfl, rfl, by decide +kernel, rfl, by decide +kernel, by decide +kernel⟩
theorem ok_is_number (T : Tx K mg) : C8.Cal P w K mg base 1 "is_number" spIsNumber [] := by
  obtain ⟨fd, F⟩ := T.f_is_number
  refine calOf F T.glo_is_number (F.bindsN (ps := ["word"]) fun _ _ _ _ _ _ us hl => match us, hl with | [_], _ => rfl) sc_is_number ?_ ?_
  · rintro vs H Q E ⟨n, rfl, _⟩
    rfl
  · rintro cdv A outer s H vs Q E hr ⟨n, rfl, h0, h7, k⟩
    refine ⟨_, pss_cons (ps_if (PW.pt (pw_or (pt_cmpR op_eq (pv 0) (pe_str) (nomark _)) (pw_or (pt_cmpR op_gt (pe_callB call_len_str (by rfl) T.free_len PySem.boot_len (pa_cons (pv 0) pa_nil)) (C8.pe_gc (by rfl) T.int_MOST_DIGITS) (nomark _)) (pw_or1 (PW.pt (pw_and (pt_cmpR op_eq (pe_ix ix_str (pv 0) (pe_int) (fun _ _ => rfl)) (pe_str) (nomark _)) (pw_and1 (pt_cmpR op_gt (pe_callB call_len_str (by rfl) T.free_len PySem.boot_len (pa_cons (pv 0) pa_nil)) (pe_int) (nomark _))))))))) (pss_one (ps_ret (pe_bl))) (pss_nil))
      (pss_one (ps_ret (pe_callB (cr_all rfl) (by rfl) T.free_all (by decide +kernel) (pa_cons (pe_lc (own := [("char", 1)]) (tt := tYes) rfl sc_is_number.nd (pi_str (pv 0)) (blkOk_by (own := [("char", 1)]) (N := ["word", "char"]) (sc := defScope s_is_number) (by decide +kernel)) (fun _ _ _ _ _ => pg_name (i := 1) sc_is_number.nd rfl (Or.inl rfl)) (fun _ _ _ _ _ => pts_nil) (fun _ _ _ _ _ => pe_cmpR op_in_sign (pv 1) (C8.pe_gc (by rfl) T.str_DIGITS) (by rfl))) pa_nil)))), ?_⟩
    try dsimp only [cxK]
    have hl := num_len h7
    have hz : (S (num n)).length ≤ sizeLine := by rw [S_len]; exact small (by omega)
    walk_at "sx"
    refine x_nay (str_ne (ne_empty (num_ne n))) ?_
    walk_at "sx"
    refine x_lenS hz ?_
    walk_at "sx"
    refine x_nay (decide_eq_false (by rw [S_len]; omega)) ?_
    walk_at "sx"
    obtain ⟨c0, r0, e0⟩ : ∃ c r, num n = c :: r := by
      cases e : num n with
      | nil => exact absurd e (num_ne n)
      | cons c r => exact ⟨c, r, rfl⟩
    refine ⟨_, 0, c0, rfl, rfl, hz, by rw [e0]; exact atI_nat (xs := c0 :: r0) (j := 0) rfl, ?_⟩
    have tail : ∀ Q' : VK, (∀ H', Same H H' → Q' (V.bl true) H') → tCB (rAll K) (tCons (tLc (iStr (tVar 0)) (gName 1) tYes (tOp (fun x y H Q => ∃ (c : Nat) (z : Str), x = V.str ⟨#[c]⟩ ∧ y = V.str z ∧ Q (V.bl (decide (c ∈ z.cps.toList))) H)
        (tVar 1) (tC (V.str (Str.ofString "0123456789")))) [1]) tNil) (L2.start ["word", "char"] [V.str (S (num n))]) H Q' := fun Q' k' => by
      refine call_all (l := num n) (Nat.le_trans hl (by decide)) rfl (fun c hc H' Qe q => ?_) k'
      refine ⟨_, rfl, c, _, rfl, rfl, ?_⟩
      rw [decide_eq_true (dig_mem c (num_dig n c hc))]
      exact q
    walk_at "sx"
    by_cases hc : c0 = 48
    · subst hc
      have er := num_zero e0
      refine x_yes (by decide +kernel) ?_
      walk_at "sx"
      refine x_lenS hz ?_
      walk_at "sx"
      refine x_nay (decide_eq_false (by rw [S_len, e0, er]; decide)) ?_
      walk_at "sx1"
      walk_at "sx1"
      exact tail _ k
    · refine x_nay (str_ne fun q => hc ?_) ?_
      · rw [show (Str.ofString "0" : Str) = S [48] from by decide +kernel] at q
        have z := S_inj (a := [c0]) q
        injection z
      refine x_nay rfl ?_
      walk_at "sx1"
      walk_at "sx1"
      exact tail _ k
theorem sc_is_name : FnScope ["word", "char"] ["word"] (defScope s_is_name) := ⟨rfl, rfl, rfl, by decide +kernel, rfl, by decide +kernel, by decide +kernel⟩
theorem ok_is_name (T : Tx K mg) : C8.Cal P w K mg base 1 "is_name" spIsName [] := by
  obtain ⟨fd, F⟩ := T.f_is_name
  refine calOf F T.glo_is_name (F.bindsN (ps := ["word"]) fun _ _ _ _ _ _ us hl => match us, hl with | [_], _ => rfl) sc_is_name ?_ ?_
  · rintro vs H Q E ⟨v, rfl, _⟩
    rfl
  · rintro cdv A outer s H vs Q E hr ⟨v, rfl, hok, k⟩
    refine ⟨_, pss_cons (ps_if (PW.pt (pw_or (pt_cmpR op_eq (pv 0) (pe_str) (nomark _)) (pw_or (pt_cmpR op_gt (pe_callB call_len_str (by rfl) T.free_len PySem.boot_len (pa_cons (pv 0) pa_nil)) (C8.pe_gc (by rfl) T.int_MOST_NAME) (nomark _)) (pw_or1 (pt_cmpR op_notIn_sign (pe_ix ix_str (pv 0) (pe_int) (fun _ _ => rfl)) (C8.pe_gc (by rfl) T.str_LETTERS) (by rfl)))))) (pss_one (ps_ret (pe_bl))) (pss_nil))
      (pss_one (ps_ret (pe_callB (cr_all rfl) (by rfl) T.free_all (by decide +kernel) (pa_cons (pe_lc (own := [("char", 1)]) (tt := tYes) rfl sc_is_name.nd (pi_str (pv 0)) (blkOk_by (own := [("char", 1)]) (N := ["word", "char"]) (sc := defScope s_is_name) (by decide +kernel)) (fun _ _ _ _ _ => pg_name (i := 1) sc_is_name.nd rfl (Or.inl rfl)) (fun _ _ _ _ _ => pts_nil) (fun _ _ _ _ _ => pe_or (pe_cmpR op_in_sign (pv 1) (C8.pe_gc (by rfl) T.str_LETTERS) (by rfl)) (pe_one (pe_cmpR op_in_sign (pv 1) (C8.pe_gc (by rfl) T.str_DIGITS) (by rfl))))) pa_nil)))), ?_⟩
    try dsimp only [cxK]
    have hl := hok.few
    have hz : (S v).length ≤ sizeLine := by rw [S_len]; exact small (by omega)
    walk_at "sx"
    refine x_nay (str_ne (ne_empty hok.word.1)) ?_
    walk_at "sx"
    refine x_lenS hz ?_
    walk_at "sx"
    refine x_nay (decide_eq_false (by rw [S_len]; omega)) ?_
    walk_at "sx"
    obtain ⟨c0, r0, e0, hL⟩ := hok.hd
    refine ⟨_, 0, c0, rfl, rfl, hz, by rw [e0]; exact atI_nat (xs := c0 :: r0) (j := 0) rfl, ?_⟩
    walk_at "sx"
    refine ⟨c0, _, rfl, rfl, ?_⟩
    walk_at "sx"
    refine x_nay (by rw [decide_eq_true (let_mem c0 hL)]; rfl) ?_
    walk_at "sx1"
    walk_at "sx1"
    refine call_all (l := v) (Nat.le_trans hl (by decide)) rfl (fun c hc H' Qe q => ?_) k
    refine ⟨_, rfl, c, _, rfl, rfl, _, rfl, ?_⟩
    by_cases hb : isL c
    · rw [decide_eq_true (let_mem c hb)]
      exact x_yes rfl q
    · have hd : isD c := (hok.al c hc).resolve_left hb
      split
      · exact q
      · refine ⟨_, rfl, c, _, rfl, rfl, ?_⟩
        rw [decide_eq_true (dig_mem c hd)]
        exact q
end
end Dp
namespace Dp
open PySem PySem.Spec PyProof.Rows L2 SX
/-! ### lines of a text, names of things -/
def spLine (K : PySem.W.Frag) : Sp := fun vs H Q _ => ∃ (p dx : Addr) (nu : Int) (t : List Nat) (ws : List (List Nat)), vs = [.ref p, .int nu, .str (S t)] ∧ H p = some (.ins (cLine K) dx []) ∧ t.length ≤ 1000 ∧ TL.spl [32] 0 [] t = ws ∧
  ∀ (H' : Hp) (l : Addr), H' p = some (.ins (cLine K) dx (fLine (.int nu) (.ref l) (.int 0) (.int 1))) → H' l = some (.lst (txts ws)) → H l = none → (∀ b o, H b = some o → b ≠ p → H' b = some o) → Q .non H'
/-- fresh lines of the words wss at the addresses as, behind the heap H0 -/
structure LinesAt (K : PySem.W.Frag) (H0 H : Hp) (as : List Addr) (wss : List (List (List Nat))) : Prop where
  len : as.length = wss.length
  nd : as.Nodup
  new : ∀ a ∈ as, H0 a = none
  at_ : ∀ (i : Nat) (a : Addr) (ws : List (List Nat)), as[i]? = some a → wss[i]? = some ws → LnAt K H a ws 0
def spLinesOf (K : PySem.W.Frag) : Sp := fun vs H Q _ => ∃ (t : List Nat) (wss : List (List (List Nat))), vs = [.str (S t)] ∧ t ≠ [] ∧ t.length ≤ 20000 ∧ TL.spl [10] 0 [] t = wss.map lineOf ++ [[]] ∧ (∀ ws ∈ wss, LineOk ws) ∧ wss.length ≤ 100 ∧
  ∀ H' p as, Same H H' → H p = none → H' p = some (.lst (as.map V.ref)) → LinesAt K H H' as wss → Q (.ref p) H'
section
variable {P : Program} {w : World} {K : PySem.W.Frag} {mg : Str → Option Value} {base : Heap}
theorem sc_Line_init : FnScope ["self", "number", "text"] ["self", "number", "text"] (defScope s_Line_init) := ⟨rfl, rfl, rfl, by decide +kernel, rfl, by decide +kernel, by decide +kernel⟩
theorem mk_Line (T : Tx K mg) : C8.Mak P w K mg base 1 "Line" (cLine K) (spLine K) [] := by
  obtain ⟨fd, F⟩ := T.f_Line_init
  refine makOf F T.mkr_Line T.glo_Line (F.bindsN (ps := ["self", "number", "text"]) fun _ _ _ _ _ _ us hl => match us, hl with | [_, _, _], _ => rfl) sc_Line_init ?_ ?_
  · rintro vs H Q E ⟨p, dx, nu, t, ws, rfl, _⟩
    rfl
  · rintro cdv A outer s H vs Q E hr ⟨p, dx, nu, t, ws, rfl, hp, hl, hsp, k⟩
    refine ⟨_, pss_cons (ps_fld (pv 0) (pv 1) rfl)
      (pss_cons (ps_fld (pv 0) (pe_split (pv 2) (pe_str)) rfl)
      (pss_cons (ps_fld (pv 0) (pe_int) rfl)
      (pss_one (ps_fld (pv 0) (pe_int) rfl)))), ?_⟩
    try dsimp only [cxK]
    walk_at "sx"
    refine x_splitE (by decide +kernel) (by decide) (Nat.le_trans hl (by decide)) hsp fun l hl' => ?_
    have npl : p ≠ l := ne_of_none upd_same hl'
    have hp1 : upd (upd H p (.ins (cLine K) dx [("number", V.int nu)])) l (.lst (txts ws)) p = some (.ins (cLine K) dx [("number", V.int nu)]) := by
      rw [upd_ne npl]
      exact upd_same
    walk_at "sx"
    have hl0 : H l = none := by
      rw [upd_ne npl.symm] at hl'
      exact hl'
    refine k _ l upd_same ?_ hl0 fun b o e hb => ?_
    · rw [upd_ne npl.symm, upd_ne npl.symm, upd_ne npl.symm, upd_same]
    · rw [upd_ne hb, upd_ne hb, upd_ne hb, upd_ne (ne_of_none e hl0), upd_ne hb]
      exact e
theorem sc_lines_of : FnScope ["text", "rows", "index", "row"] ["text"] (defScope s_lines_of) := ⟨rfl, rfl, rfl, by decide +kernel, rfl, by decide +kernel, by decide +kernel⟩
theorem ok_lines_of (T : Tx K mg) (k_Line : C8.Mak P w K mg base 1 "Line" (cLine K) (spLine K) []) : C8.Cal P w K mg base 3 "lines_of" (spLinesOf K) [] := by
  obtain ⟨fd, F⟩ := T.f_lines_of
  refine calOf F T.glo_lines_of (F.bindsN (ps := ["text"]) fun _ _ _ _ _ _ us hl => match us, hl with | [_], _ => rfl) sc_lines_of ?_ ?_
  · rintro vs H Q E ⟨t, wss, rfl, _⟩
    rfl
  · rintro cdv A outer s H vs Q E hr ⟨t, wss, rfl, hne, hl, hsp, hok, hmany, k⟩
    refine ⟨_, pss_cons (ps_if (pt_cmpR op_eq (pv 0) (pe_str) (nomark _)) (pss_one (ps_ret (pe_lst (pa_nil)))) (pss_nil))
      (pss_cons (ps_set (i := 1) sc_lines_of.nd rfl (Or.inl rfl) (pe_split (pv 0) (pe_str)))
      (pss_cons (ps_if (pt_cmpR op_ne (pe_ix ix_list (pv 1) (pe_un un_neg (pe_int)) (fun _ _ => rfl)) (pe_str) (nomark _)) (pss_one (ps_never)) (pss_nil))
      (pss_one (ps_ret (pe_lc (own := [("index", 2), ("row", 3)]) (tt := tYes) rfl sc_lines_of.nd (pi_enum (by rfl) T.free_enumerate (pa_cons (pe_slice sl_list (pv 1) po_none (po_some (pe_un un_neg (pe_int)))) pa_nil)) (blkOk_by (own := [("index", 2), ("row", 3)]) (N := ["text", "rows", "index", "row"]) (sc := defScope s_lines_of) (by decide +kernel)) (fun _ _ _ _ _ => pg_tupK (K := K) (n := 2) rfl rfl (pgs_cons (pg_name (i := 2) sc_lines_of.nd rfl (Or.inl rfl)) (pgs_cons (pg_name (i := 3) sc_lines_of.nd rfl (Or.inl rfl)) pgs_nil))) (fun _ _ _ _ _ => pts_nil) (fun _ _ _ _ _ => C8.pe_mk k_Line hr (by decide) (by rfl) (pa_cons (pe_op op_add (pv 2) (pe_int)) (pa_cons (pv 3) pa_nil)))))))), ?_⟩
    try dsimp only [cxK]
    walk_at "sx"
    refine x_nay (str_ne (ne_empty hne)) ?_
    walk_at "sx"
    refine x_splitE (by decide +kernel) (by decide) (Nat.le_trans hl (by decide)) hsp fun r hr' => ?_
    have ea : (List.map (fun w => V.str (S w)) (wss.map lineOf ++ [[]])) = txts (wss.map lineOf) ++ [V.str (S [])] := by simp
    rw [ea]
    have hat := at_last (txts (wss.map lineOf)) (V.str (S []))
    walk_at "sx"
    refine x_nay (by rw [str_eq (by decide +kernel)]; rfl) ?_
    walk_at "sx"
    intro q hq
    have hq1 : upd (upd H r (.lst (txts (wss.map lineOf) ++ [V.str (S [])]))) q (.lst (cutV (txts (wss.map lineOf) ++ [V.str (S [])]) none (some (-1)))) q = some (.lst (txts (wss.map lineOf))) := by
      rw [cut_last]
      exact upd_same
    have s0 : Same H (upd (upd H r (.lst (txts (wss.map lineOf) ++ [V.str (S [])]))) q (.lst (cutV (txts (wss.map lineOf) ++ [V.str (S [])]) none (some (-1))))) := same_upd (same_upd (Same.refl H) hr') hq
    generalize upd (upd H r (.lst (txts (wss.map lineOf) ++ [V.str (S [])]))) q (.lst (cutV (txts (wss.map lineOf) ++ [V.str (S [])]) none (some (-1)))) = H1 at hq1 s0 ⊢
    walk_at "sx"
    intro D hD
    refine lc_gen (walk_enum (K := K) (a := q) (xs := txts (wss.map lineOf))) (by rw [List.length_map, List.length_map]; omega) hD noX (fun _ => True) (fun i y H' => ∃ (a : Addr) (ws : List (List Nat)) (dx l : Addr), y = V.ref a ∧ wss[i]? = some ws ∧
      H' a = some (.ins (cLine K) dx (fLine (.int ((i : Int) + 1)) (.ref l) (.int 0) (.int 1))) ∧ H' l = some (.lst (txts ws)) ∧ H a = none) (fun z => z)
      ?_ trivial (fun H' kp _ => SqL.of (rm_of (kp _ _ hq1 fun z => z)).1) y_pair ?_ ?_ (gm_two 2 3)
    · rintro i y H' H'' ⟨a, ws, dx, l, h1, h2, h3, h4, h5⟩ kp
      exact ⟨a, ws, dx, l, h1, h2, same_kp kp _ _ h3, same_kp kp _ _ h4, h5⟩
    · rintro i x H2 H3 k' hi kp _ ⟨acc, hacc⟩ ⟨N, e, y, rfl, hN, rfl, e1, e2⟩ hk
      have e1 := Option.some.inj e1
      subst e1
      have e2 : (txts (wss.map lineOf))[i]? = some y := e2
      rw [List.getElem?_map, List.getElem?_map] at e2
      obtain ⟨ws, hws⟩ : ∃ ws, wss[i]? = some ws := ⟨wss[i]'(by rw [List.length_map, List.length_map] at hi; exact hi), List.getElem?_eq_getElem _⟩
      rw [hws] at e2
      have e2 := Option.some.inj e2
      subst e2
      have hlk := hok ws (List.mem_of_getElem? hws)
      walk_at "sx"
      refine ⟨rfl, ?_⟩
      walk_at "sx"
      intro p dx hp hdx hne'
      have sN : Same H (upd H2 N (.tup [.int (i : Nat), V.str (S (lineOf ws))])) := same_upd ((s0.trans (same_kp kp)).trans rm_same) hN
      have hDN : upd H2 N (.tup [.int (i : Nat), V.str (S (lineOf ws))]) D = some (.lst acc) := by
        rw [upd_ne (ne_of_none hacc hN)]
        exact hacc
      have npD : p ≠ D := (ne_of_none hDN hp).symm
      have ndD : dx ≠ D := (ne_of_none hDN hdx).symm
      refine ⟨p, dx, _, lineOf ws, ws, rfl, upd_same, Nat.le_trans (line_len hlk) (by decide), line_split hlk, fun H5 l h1 h2 h3 kp5 => ⟨rfl, ?_⟩⟩
      have nlD : l ≠ D := by
        refine (ne_of_none (o := .lst acc) ?_ h3).symm
        rw [upd_ne npD.symm, upd_ne ndD.symm]
        exact hDN
      refine hk _ H5 (kp_same (Same.made hp hdx kp5)) trivial ⟨p, ws, dx, l, rfl, hws, ?_, ?_, sN.free hp⟩
      · rw [rm_at npD]
        exact h1
      · rw [rm_at nlD]
        exact h2
    · rintro ys H' hlen hD' _ kp hR
      obtain ⟨as, rfl⟩ : ∃ as : List Addr, ys = as.map V.ref := refs_of fun y hy => by
        obtain ⟨i, hi⟩ := List.mem_iff_getElem?.mp hy
        obtain ⟨a, ws, dx, l, h1, _⟩ := hR i y hi
        exact ⟨a, h1⟩
      have hA : ∀ (i : Nat) (a : Addr), as[i]? = some a → ∃ (ws : List (List Nat)) (dx l : Addr), wss[i]? = some ws ∧ H' a = some (.ins (cLine K) dx (fLine (.int ((i : Int) + 1)) (.ref l) (.int 0) (.int 1))) ∧ H' l = some (.lst (txts ws)) ∧ H a = none := by
        intro i a hi
        obtain ⟨a', ws, dx, l, h1, h2, h3, h4, h5⟩ := hR i (V.ref a) (by rw [List.getElem?_map, hi]; rfl)
        have ea := V.ref.inj h1
        subst ea
        exact ⟨ws, dx, l, h2, (rm_of h3).1, (rm_of h4).1, h5⟩
      have hD0 : H D = none := s0.free hD
      refine k H' D as ((s0.trans (same_kp kp)).trans rm_same) hD0 hD' ⟨?_, nodup_of ?_, ?_, ?_⟩
      · rw [List.length_map, List.length_map, List.length_map] at hlen
        exact hlen
      · intro i j a h1 h2
        obtain ⟨_, _, _, _, q1, _⟩ := hA i a h1
        obtain ⟨_, _, _, _, q2, _⟩ := hA j a h2
        rw [q1] at q2
        have q3 := Option.some.inj q2
        injection q3 with _ _ q4
        unfold fLine at q4
        injection q4 with q5
        have q6 := V.int.inj (congrArg Prod.snd q5)
        omega
      · intro a ha
        obtain ⟨i, hi⟩ := List.mem_iff_getElem?.mp ha
        obtain ⟨_, _, _, _, _, _, q⟩ := hA i a hi
        exact q
      · intro i a ws h1 h2
        obtain ⟨ws', dx, l, q1, q2, q3, _⟩ := hA i a h1
        rw [h2] at q1
        have e := Option.some.inj q1
        subst e
        exact ⟨dx, l, _, _, q2, q3⟩
end
end Dp
namespace Dp
open PySem PySem.Spec PyProof.Rows L2 SX
/-! ### things and how they stand -/
def LightAt (H : Hp) (ps : List Addr) (l : List (Int × Int)) : Prop := ps.length = l.length ∧ ∀ (i : Nat) (p : Addr) (q : Int × Int), ps[i]? = some p → l[i]? = some q → H p = some (.tup [.int q.1, .int q.2])
def SatAt (K : PySem.W.Frag) (H : Hp) (a : Addr) (s : Sat) : Prop := ∃ (dx lt : Addr) (ps : List Addr),
  H a = some (.ins (cSatellite K) dx (fSatellite (.str (S s.name)) (.int s.store) (.int s.battery) (.int s.level) (.int s.reserve) (.int s.charge) (.int s.settle) (.ref lt))) ∧ H lt = some (.tup (ps.map V.ref)) ∧ LightAt H ps s.light
def StaAt (K : PySem.W.Frag) (H : Hp) (a : Addr) (s : Sta) : Prop := ∃ dx : Addr, H a = some (.ins (cStation K) dx (fStation (.str (S s.name)) (.int s.ant) (.int s.turn)))
def RecAt (K : PySem.W.Frag) (H : Hp) (a : Addr) (r : Rec) : Prop := ∃ dx : Addr,
  H a = some (.ins (cRecording K) dx (fRecording (.str (S r.name)) (.int (r.sat : Int)) (.int r.ear) (.int r.lat) (.int r.len) (.int r.size) (.int r.energy) (.int r.worth) (.int r.rank) (.int r.dead)))
def PasAt (K : PySem.W.Frag) (H : Hp) (a : Addr) (p : Pas) : Prop := ∃ dx sp : Addr,
  H a = some (.ins (cPass K) dx (fPass (.str (S p.name)) (.int (p.sat : Int)) (.int (p.sta : Int)) (.ref sp) (.int p.room) (.int p.energy) (.int p.fee))) ∧ H sp = some (.tup [.int p.first, .int p.last])
/-- what may change under things: a line's object, a list -/
def Odd (o : HO) : Prop := (∀ xs, o ≠ .tup xs) ∧ ∀ C dx fs, o = .ins C dx fs → fs.length = 4
theorem odd_lst (xs : List V) : Odd (.lst xs) := by
  constructor
  · intro _ q
    cases q
  · intro _ _ _ q
    cases q
theorem odd_line (C dx : Addr) (a b c d : V) : Odd (.ins C dx (fLine a b c d)) := by
  constructor
  · intro _ q
    cases q
  · intro _ _ _ q
    injection q with _ _ q
    rw [← q]
    rfl
/-- but for q, which holds an odd thing, all is as it was -/
def KpO (q : Addr) (H H' : Hp) : Prop := (∀ b o, H b = some o → b ≠ q → H' b = some o) ∧ (∀ o, H q = some o → Odd o)
theorem kpO_same {q : Addr} {H H' : Hp} (s : Same H H') (hq : H q = none) : KpO q H H' := ⟨fun b o e _ => s b o e, fun o e => by rw [hq] at e; cases e⟩
theorem KpO.tup {q a : Addr} {H H' : Hp} {xs : List V} (k : KpO q H H') (h : H a = some (.tup xs)) : H' a = some (.tup xs) := k.1 _ _ h fun e => by
  subst e
  exact (k.2 _ h).1 _ rfl
theorem KpO.ins {q a C dx : Addr} {H H' : Hp} {fs : List (Str × V)} (k : KpO q H H') (h : H a = some (.ins C dx fs)) (n : fs.length ≠ 4) : H' a = some (.ins C dx fs) := k.1 _ _ h fun e => by
  subst e
  exact n ((k.2 _ h).2 _ _ _ rfl)
theorem LightAt.kp {q : Addr} {H H' : Hp} {ps : List Addr} {l : List (Int × Int)} (h : LightAt H ps l) (k : KpO q H H') : LightAt H' ps l := ⟨h.1, fun i p z h1 h2 => k.tup (h.2 i p z h1 h2)⟩
theorem SatAt.kp {K : PySem.W.Frag} {q a : Addr} {H H' : Hp} {s : Sat} (h : SatAt K H a s) (k : KpO q H H') : SatAt K H' a s := by
  obtain ⟨dx, lt, ps, h1, h2, h3⟩ := h
  exact ⟨dx, lt, ps, k.ins h1 (by show 8 ≠ 4; decide), k.tup h2, h3.kp k⟩
theorem StaAt.kp {K : PySem.W.Frag} {q a : Addr} {H H' : Hp} {s : Sta} (h : StaAt K H a s) (k : KpO q H H') : StaAt K H' a s := by
  obtain ⟨dx, h1⟩ := h
  exact ⟨dx, k.ins h1 (by show 3 ≠ 4; decide)⟩
theorem RecAt.kp {K : PySem.W.Frag} {q a : Addr} {H H' : Hp} {s : Rec} (h : RecAt K H a s) (k : KpO q H H') : RecAt K H' a s := by
  obtain ⟨dx, h1⟩ := h
  exact ⟨dx, k.ins h1 (by show 10 ≠ 4; decide)⟩
theorem PasAt.kp {K : PySem.W.Frag} {q a : Addr} {H H' : Hp} {s : Pas} (h : PasAt K H a s) (k : KpO q H H') : PasAt K H' a s := by
  obtain ⟨dx, sp, h1, h2⟩ := h
  exact ⟨dx, sp, k.ins h1 (by show 7 ≠ 4; decide), k.tup h2⟩
/-- a thing with a name -/
def Named (K : PySem.W.Frag) (H : Hp) (a : Addr) (n : List Nat) : Prop := ∃ (C dx : Addr) (fs : List (Str × V)), H a = some (.ins C dx fs) ∧ Cls K C ∧ NoAttr K C "name" ∧ fs.lookup ("name" : Str) = some (.str (S n))
def spNamesOf (K : PySem.W.Frag) : Sp := fun vs H Q _ => ∃ (t : Addr) (as : List Addr) (ns : List (List Nat)), vs = [.ref t] ∧ H t = some (.lst (as.map V.ref)) ∧ as.length = ns.length ∧ ns.length ≤ 1000 ∧
  (∀ (i : Nat) (a : Addr) (n : List Nat), as[i]? = some a → ns[i]? = some n → Named K H a n) ∧ ∀ H' p, Same H H' → H p = none → H' p = some (.lst (txts ns)) → Q (.ref p) H'
def Stay (p : Addr) (H H' : Hp) : Prop := ∀ b o, H b = some o → b ≠ p → H' b = some o
def spSat (K : PySem.W.Frag) : Sp := fun vs H Q _ => ∃ (p dx pw lt : Addr) (nm : V) (a b l r c d : Int), vs = [.ref p, nm, .int a, .ref pw, .int c, .int d, .ref lt] ∧ H p = some (.ins (cSatellite K) dx []) ∧ H pw = some (.tup [.int b, .int l, .int r]) ∧
  ∀ H' : Hp, H' p = some (.ins (cSatellite K) dx (fSatellite nm (.int a) (.int b) (.int l) (.int r) (.int c) (.int d) (.ref lt))) → Stay p H H' → Q .non H'
def spSta (K : PySem.W.Frag) : Sp := fun vs H Q _ => ∃ (p dx : Addr) (nm a b : V), vs = [.ref p, nm, a, b] ∧ H p = some (.ins (cStation K) dx []) ∧
  ∀ H' : Hp, H' p = some (.ins (cStation K) dx (fStation nm a b)) → Stay p H H' → Q .non H'
def spRec (K : PySem.W.Frag) : Sp := fun vs H Q _ => ∃ (p dx t1 t2 t3 : Addr) (nm sa a b c d e f g h : V), vs = [.ref p, nm, sa, .ref t1, .ref t2, .ref t3] ∧ H p = some (.ins (cRecording K) dx []) ∧ H t1 = some (.tup [a, b, c]) ∧ H t2 = some (.tup [d, e]) ∧ H t3 = some (.tup [f, g, h]) ∧
  ∀ H' : Hp, H' p = some (.ins (cRecording K) dx (fRecording nm sa a b c d e f g h)) → Stay p H H' → Q .non H'
def spPas (K : PySem.W.Frag) : Sp := fun vs H Q _ => ∃ (p dx t : Addr) (nm sa st sp a b c : V), vs = [.ref p, nm, sa, st, sp, .ref t] ∧ H p = some (.ins (cPass K) dx []) ∧ H t = some (.tup [a, b, c]) ∧
  ∀ H' : Hp, H' p = some (.ins (cPass K) dx (fPass nm sa st sp a b c)) → Stay p H H' → Q .non H'
def spDraft (K : PySem.W.Frag) : Sp := fun vs H Q _ => ∃ (p dx : Addr) (h : V), vs = [.ref p, h] ∧ H p = some (.ins (cDraft K) dx []) ∧
  ∀ (H' : Hp) (l1 l2 l3 l4 : Addr), H' p = some (.ins (cDraft K) dx (fDraft h (.ref l1) (.ref l2) (.ref l3) (.ref l4))) → H' l1 = some (.lst []) → H' l2 = some (.lst []) → H' l3 = some (.lst []) → H' l4 = some (.lst []) →
    H l1 = none → H l2 = none → H l3 = none → H l4 = none → l1 ≠ l2 → l1 ≠ l3 → l1 ≠ l4 → l2 ≠ l3 → l2 ≠ l4 → l3 ≠ l4 → Stay p H H' → Q .non H'
section
variable {P : Program} {w : World} {K : PySem.W.Frag} {mg : Str → Option Value} {base : Heap}
theorem sc_names_of : FnScope ["things", "thing"] ["things"] (defScope s_names_of) := ⟨rfl, rfl, rfl, by decide +kernel, rfl, by decide +kernel, by decide +kernel⟩
theorem ok_names_of (T : Tx K mg) : C8.Cal P w K mg base 1 "names_of" (spNamesOf K) [] := by
  obtain ⟨fd, F⟩ := T.f_names_of
  refine calOf F T.glo_names_of (F.bindsN (ps := ["things"]) fun _ _ _ _ _ _ us hl => match us, hl with | [_], _ => rfl) sc_names_of ?_ ?_
  · rintro vs H Q E ⟨t, as, ns, rfl, _⟩
    rfl
  · rintro cdv A outer s H vs Q E hr ⟨t, as, ns, rfl, ht, hl, hz, hn, k⟩
    refine ⟨_, pss_one (ps_ret (pe_lc (own := [("thing", 1)]) (tt := tYes) rfl sc_names_of.nd (pi_list (pv 0)) (blkOk_by (own := [("thing", 1)]) (N := ["things", "thing"]) (sc := defScope s_names_of) (by decide +kernel)) (fun _ _ _ _ _ => pg_name (i := 1) sc_names_of.nd rfl (Or.inl rfl)) (fun _ _ _ _ _ => pts_nil) (fun _ _ _ _ _ => pe_fldK (K := K) rfl (pv 1) rfl))), ?_⟩
    try dsimp only [cxK]
    walk_at "sx"
    intro D hD
    refine lc_gen (walk_list (K := K) (a := t) (xs := as.map V.ref)) (by rw [List.length_map]; omega) hD noX (fun _ => True) (fun i y _ => ∃ n, y = V.str (S n) ∧ ns[i]? = some n) (fun z => z) ?_ trivial (fun H' kp _ => SqL.of (rm_of (kp _ _ ht fun z => z)).1) y_at ?_ ?_ (gm_name 1)
    · rintro i y H' H'' h _
      exact h
    · rintro i x H2 H3 k' hi kp _ _ ⟨rfl, e⟩ hk
      rw [List.getElem?_map] at e
      rw [List.length_map] at hi
      obtain ⟨a, ha⟩ : ∃ a, as[i]? = some a := ⟨as[i], List.getElem?_eq_getElem hi⟩
      obtain ⟨n, hn'⟩ : ∃ n, ns[i]? = some n := ⟨ns[i]'(by omega), List.getElem?_eq_getElem _⟩
      rw [ha] at e
      have e := Option.some.inj e
      subst e
      obtain ⟨C, dx, fs, h1, h2, h3, h4⟩ := hn i a n ha hn'
      have h1' := (rm_of (kp _ _ h1 fun z => z)).1
      refine ⟨rfl, ?_⟩
      walk_at "sx"
      exact ⟨a, C, dx, fs, _, rfl, h1', h2, h3, h4, hk _ _ (Kp.refl _ _) trivial ⟨n, rfl, hn'⟩⟩
    · rintro ys H' hlen hD' _ kp hR
      have e : ys = txts ns := by
        refine List.ext_getElem? fun i => ?_
        cases e1 : ys[i]? with
        | none =>
          have z := List.getElem?_eq_none_iff.mp e1
          rw [List.length_map] at hlen
          symm
          refine List.getElem?_eq_none_iff.mpr ?_
          rw [List.length_map]
          omega
        | some y =>
          obtain ⟨n, rfl, hn'⟩ := hR i y e1
          rw [List.getElem?_map, hn']
          rfl
      rw [e] at hD'
      exact k H' D ((same_kp kp).trans rm_same) hD hD'
theorem sc_Satellite_init : FnScope ["self", "name", "store", "power", "charge", "settle", "light"] ["self", "name", "store", "power", "charge", "settle", "light"] (defScope s_Satellite_init) := ⟨rfl, rfl, rfl, by decide +kernel, rfl, by decide +kernel, by decide +kernel⟩
theorem mk_Satellite (T : Tx K mg) : C8.Mak P w K mg base 1 "Satellite" (cSatellite K) (spSat K) [] := by
  obtain ⟨fd, F⟩ := T.f_Satellite_init
  refine makOf F T.mkr_Satellite T.glo_Satellite (F.bindsN (ps := ["self", "name", "store", "power", "charge", "settle", "light"]) fun _ _ _ _ _ _ us hl => match us, hl with | [_, _, _, _, _, _, _], _ => rfl) sc_Satellite_init ?_ ?_
  · rintro vs H Q E ⟨p, dx, pw, lt, nm, a, b, l, r, c, d, rfl, _⟩
    rfl
  · rintro cdv A outer s H vs Q E hr ⟨p, dx, pw, lt, nm, a, b, l, r, c, d, rfl, hp, hw, k⟩
    refine ⟨_, pss_cons (ps_fld (pv 0) (pv 1) rfl)
      (pss_cons (ps_fld (pv 0) (pv 2) rfl)
      (pss_cons (ps_asg (pv 3) (pg_tup (n := 3) rfl (pgs_cons (pg_fld (pv 0)) (pgs_cons (pg_fld (pv 0)) (pgs_cons (pg_fld (pv 0)) (pgs_nil))))))
      (pss_cons (ps_fld (pv 0) (pv 4) rfl)
      (pss_cons (ps_fld (pv 0) (pv 5) rfl)
      (pss_one (ps_fld (pv 0) (pv 6) rfl)))))), ?_⟩
    try dsimp only [cxK]
    have nw : pw ≠ p := ne_of hw hp (by intro q; cases q)
    walk_at "sx"
    refine k _ upd_same fun b o e hb => ?_
    repeat rw [upd_ne hb]
    exact e
theorem sc_Station_init : FnScope ["self", "name", "antennas", "turn"] ["self", "name", "antennas", "turn"] (defScope s_Station_init) := ⟨rfl, rfl, rfl, by decide +kernel, rfl, by decide +kernel, by decide +kernel⟩
theorem mk_Station (T : Tx K mg) : C8.Mak P w K mg base 1 "Station" (cStation K) (spSta K) [] := by
  obtain ⟨fd, F⟩ := T.f_Station_init
  refine makOf F T.mkr_Station T.glo_Station (F.bindsN (ps := ["self", "name", "antennas", "turn"]) fun _ _ _ _ _ _ us hl => match us, hl with | [_, _, _, _], _ => rfl) sc_Station_init ?_ ?_
  · rintro vs H Q E ⟨p, dx, nm, a, b, rfl, _⟩
    rfl
  · rintro cdv A outer s H vs Q E hr ⟨p, dx, nm, a, b, rfl, hp, k⟩
    refine ⟨_, pss_cons (ps_fld (pv 0) (pv 1) rfl)
      (pss_cons (ps_fld (pv 0) (pv 2) rfl)
      (pss_one (ps_fld (pv 0) (pv 3) rfl))), ?_⟩
    try dsimp only [cxK]
    walk_at "sx"
    refine k _ upd_same fun b o e hb => ?_
    repeat rw [upd_ne hb]
    exact e
theorem sc_Recording_init : FnScope ["self", "name", "satellite", "window", "amounts", "urgency"] ["self", "name", "satellite", "window", "amounts", "urgency"] (defScope s_Recording_init) := ⟨rfl, rfl, rfl, by decide +kernel, rfl, by decide +kernel, by decide +kernel⟩
theorem mk_Recording (T : Tx K mg) : C8.Mak P w K mg base 1 "Recording" (cRecording K) (spRec K) [] := by
  obtain ⟨fd, F⟩ := T.f_Recording_init
  refine makOf F T.mkr_Recording T.glo_Recording (F.bindsN (ps := ["self", "name", "satellite", "window", "amounts", "urgency"]) fun _ _ _ _ _ _ us hl => match us, hl with | [_, _, _, _, _, _], _ => rfl) sc_Recording_init ?_ ?_
  · rintro vs H Q E ⟨p, dx, t1, t2, t3, nm, sa, a, b, c, d, e, f, g, h, rfl, _⟩
    rfl
  · rintro cdv A outer s H vs Q E hr ⟨p, dx, t1, t2, t3, nm, sa, a, b, c, d, e, f, g, h, rfl, hp, h1, h2, h3, k⟩
    refine ⟨_, pss_cons (ps_fld (pv 0) (pv 1) rfl)
      (pss_cons (ps_fld (pv 0) (pv 2) rfl)
      (pss_cons (ps_asg (pv 3) (pg_tup (n := 3) rfl (pgs_cons (pg_fld (pv 0)) (pgs_cons (pg_fld (pv 0)) (pgs_cons (pg_fld (pv 0)) (pgs_nil))))))
      (pss_cons (ps_asg (pv 4) (pg_tup (n := 2) rfl (pgs_cons (pg_fld (pv 0)) (pgs_cons (pg_fld (pv 0)) (pgs_nil)))))
      (pss_one (ps_asg (pv 5) (pg_tup (n := 3) rfl (pgs_cons (pg_fld (pv 0)) (pgs_cons (pg_fld (pv 0)) (pgs_cons (pg_fld (pv 0)) (pgs_nil)))))))))), ?_⟩
    try dsimp only [cxK]
    have n1 : t1 ≠ p := ne_of h1 hp (by intro q; cases q)
    have n2 : t2 ≠ p := ne_of h2 hp (by intro q; cases q)
    have n3 : t3 ≠ p := ne_of h3 hp (by intro q; cases q)
    walk_at "sx"
    refine k _ upd_same fun b o e hb => ?_
    repeat rw [upd_ne hb]
    exact e
theorem sc_Pass_init : FnScope ["self", "name", "satellite", "station", "span", "amounts"] ["self", "name", "satellite", "station", "span", "amounts"] (defScope s_Pass_init) := ⟨rfl, rfl, rfl, by decide +kernel, rfl, by decide +kernel, by decide +kernel⟩
theorem mk_Pass (T : Tx K mg) : C8.Mak P w K mg base 1 "Pass" (cPass K) (spPas K) [] := by
  obtain ⟨fd, F⟩ := T.f_Pass_init
  refine makOf F T.mkr_Pass T.glo_Pass (F.bindsN (ps := ["self", "name", "satellite", "station", "span", "amounts"]) fun _ _ _ _ _ _ us hl => match us, hl with | [_, _, _, _, _, _], _ => rfl) sc_Pass_init ?_ ?_
  · rintro vs H Q E ⟨p, dx, t, nm, sa, st, sp, a, b, c, rfl, _⟩
    rfl
  · rintro cdv A outer s H vs Q E hr ⟨p, dx, t, nm, sa, st, sp, a, b, c, rfl, hp, h1, k⟩
    refine ⟨_, pss_cons (ps_fld (pv 0) (pv 1) rfl)
      (pss_cons (ps_fld (pv 0) (pv 2) rfl)
      (pss_cons (ps_fld (pv 0) (pv 3) rfl)
      (pss_cons (ps_fld (pv 0) (pv 4) rfl)
      (pss_one (ps_asg (pv 5) (pg_tup (n := 3) rfl (pgs_cons (pg_fld (pv 0)) (pgs_cons (pg_fld (pv 0)) (pgs_cons (pg_fld (pv 0)) (pgs_nil)))))))))), ?_⟩
    try dsimp only [cxK]
    have n1 : t ≠ p := ne_of h1 hp (by intro q; cases q)
    walk_at "sx"
    refine k _ upd_same fun b o e hb => ?_
    repeat rw [upd_ne hb]
    exact e
theorem sc_Draft_init : FnScope ["self", "horizon"] ["self", "horizon"] (defScope s_Draft_init) := ⟨rfl, rfl, rfl, by decide +kernel, rfl, by decide +kernel, by decide +kernel⟩
theorem mk_Draft (T : Tx K mg) : C8.Mak P w K mg base 1 "Draft" (cDraft K) (spDraft K) [] := by
  obtain ⟨fd, F⟩ := T.f_Draft_init
  refine makOf F T.mkr_Draft T.glo_Draft (F.bindsN (ps := ["self", "horizon"]) fun _ _ _ _ _ _ us hl => match us, hl with | [_, _], _ => rfl) sc_Draft_init ?_ ?_
  · rintro vs H Q E ⟨p, dx, h, rfl, _⟩
    rfl
  · rintro cdv A outer s H vs Q E hr ⟨p, dx, h, rfl, hp, k⟩
    refine ⟨_, pss_cons (ps_fld (pv 0) (pv 1) rfl)
      (pss_cons (ps_fld (pv 0) (pe_lst (pa_nil)) rfl)
      (pss_cons (ps_fld (pv 0) (pe_lst (pa_nil)) rfl)
      (pss_cons (ps_fld (pv 0) (pe_lst (pa_nil)) rfl)
      (pss_one (ps_fld (pv 0) (pe_lst (pa_nil)) rfl))))), ?_⟩
    try dsimp only [cxK]
    walk_at "sx"
    refine ⟨Nat.zero_le _, fun l1 hl1 => ?_⟩
    have n1 : p ≠ l1 := ne_of_none (by walk_at "hp") hl1
    have n1' := n1.symm
    have f1 : H l1 = none := by
      rw [upd_ne n1'] at hl1
      exact hl1
    walk_at "sx"
    refine ⟨Nat.zero_le _, fun l2 hl2 => ?_⟩
    have n2 : p ≠ l2 := ne_of_none (by walk_at "hp") hl2
    have n2' := n2.symm
    have n12 : l1 ≠ l2 := ne_of_none (by walk_at "hp") hl2
    have n12' := n12.symm
    have f2 : H l2 = none := by
      rw [upd_ne n2', upd_ne n12', upd_ne n2'] at hl2
      exact hl2
    walk_at "sx"
    refine ⟨Nat.zero_le _, fun l3 hl3 => ?_⟩
    have n3 : p ≠ l3 := ne_of_none (by walk_at "hp") hl3
    have n3' := n3.symm
    have n13 : l1 ≠ l3 := ne_of_none (by walk_at "hp") hl3
    have n13' := n13.symm
    have n23 : l2 ≠ l3 := ne_of_none (by walk_at "hp") hl3
    have n23' := n23.symm
    have f3 : H l3 = none := by
      rw [upd_ne n3', upd_ne n23', upd_ne n3', upd_ne n13', upd_ne n3'] at hl3
      exact hl3
    walk_at "sx"
    refine ⟨Nat.zero_le _, fun l4 hl4 => ?_⟩
    have n4 : p ≠ l4 := ne_of_none (by walk_at "hp") hl4
    have n4' := n4.symm
    have n14 : l1 ≠ l4 := ne_of_none (by walk_at "hp") hl4
    have n14' := n14.symm
    have n24 : l2 ≠ l4 := ne_of_none (by walk_at "hp") hl4
    have n24' := n24.symm
    have n34 : l3 ≠ l4 := ne_of_none (by walk_at "hp") hl4
    have n34' := n34.symm
    have f4 : H l4 = none := by
      rw [upd_ne n4', upd_ne n34', upd_ne n4', upd_ne n24', upd_ne n4', upd_ne n14', upd_ne n4'] at hl4
      exact hl4
    walk_at "sx"
    refine k _ l1 l2 l3 l4 upd_same (by walk_at "hp") (by walk_at "hp") (by walk_at "hp") (by walk_at "hp") f1 f2 f3 f4 n12 n13 n14 n23 n24 n34 fun b o e hb => ?_
    have m1 : b ≠ l1 := ne_of_none e f1
    have m2 : b ≠ l2 := ne_of_none e f2
    have m3 : b ≠ l3 := ne_of_none e f3
    have m4 : b ≠ l4 := ne_of_none e f4
    walk_at "hp"
end
end Dp
local macro_rules | `(tactic| walk_at "cv") => `(tactic| first | exact Dp.Tx.cv_MOST_HORIZON (by assumption) | exact Dp.Tx.cv_MOST_SATELLITES (by assumption) | exact Dp.Tx.cv_MOST_STATIONS (by assumption) | exact Dp.Tx.cv_MOST_RECORDINGS (by assumption) | exact Dp.Tx.cv_MOST_PASSES (by assumption) | exact Dp.Tx.cv_MOST_SHIFT (by assumption))
local macro_rules | `(tactic| walk_at "sx1") => `(tactic| first
  | ((with_reducible refine' Dp.x_addS ?h ?l ?m ?_); (case h => with_reducible assumption); (case l => with_reducible assumption); (case m => decide); intro _; rw [SX.S_cat])
  | ((with_reducible refine' Dp.x_tupOf ?h ?_); (case h => walk_at "hp"))
  | ((with_reducible refine' Dp.x_lenT ?h ?_); (case h => walk_at "hp"))
  | with_reducible refine Dp.x_cval ?_
  | ((with_reducible refine' Dp.x_cvalE ?h ?c ?_); (case h => exact Dp.Tx.cread (by assumption)); (case c => walk_at "cv"))
  | with_reducible refine Dp.x_min ?_)
namespace Dp
open PySem PySem.Spec PyProof.Rows L2 SX
/-! ### the lines of things -/
def Each {α : Type} (R : Addr → α → Prop) (as : List Addr) (l : List α) : Prop := as.length = l.length ∧ ∀ (i : Nat) (a : Addr) (x : α), as[i]? = some a → l[i]? = some x → R a x
theorem Each.at_ {α : Type} {R : Addr → α → Prop} {as : List Addr} {l : List α} (h : Each R as l) {i : Nat} {x : α} (hx : l[i]? = some x) : ∃ a, as[i]? = some a ∧ R a x := by
  have z := (List.getElem?_eq_some_iff.mp hx).1
  have y : i < as.length := by rw [h.1]; exact z
  exact ⟨as[i], List.getElem?_eq_getElem y, h.2 i _ x (List.getElem?_eq_getElem y) hx⟩
theorem Each.mono {α : Type} {R R' : Addr → α → Prop} {as : List Addr} {l : List α} (h : Each R as l) (k : ∀ a x, R a x → R' a x) : Each R' as l := ⟨h.1, fun i a x h1 h2 => k a x (h.2 i a x h1 h2)⟩
theorem SatAt.same {K : PySem.W.Frag} {a : Addr} {H H' : Hp} {s : Sat} (h : SatAt K H a s) (k : Same H H') : SatAt K H' a s := by
  obtain ⟨dx, lt, ps, h1, h2, h3⟩ := h
  exact ⟨dx, lt, ps, k _ _ h1, k _ _ h2, h3.1, fun i p q e1 e2 => k _ _ (h3.2 i p q e1 e2)⟩
theorem StaAt.same {K : PySem.W.Frag} {a : Addr} {H H' : Hp} {s : Sta} (h : StaAt K H a s) (k : Same H H') : StaAt K H' a s := by
  obtain ⟨dx, h1⟩ := h
  exact ⟨dx, k _ _ h1⟩
theorem RecAt.same {K : PySem.W.Frag} {a : Addr} {H H' : Hp} {s : Rec} (h : RecAt K H a s) (k : Same H H') : RecAt K H' a s := by
  obtain ⟨dx, h1⟩ := h
  exact ⟨dx, k _ _ h1⟩
theorem PasAt.same {K : PySem.W.Frag} {a : Addr} {H H' : Hp} {s : Pas} (h : PasAt K H a s) (k : Same H H') : PasAt K H' a s := by
  obtain ⟨dx, sp, h1, h2⟩ := h
  exact ⟨dx, sp, k _ _ h1, k _ _ h2⟩
/-- the world at wd, its attributes fs (its text may be not yet there) -/
def WAt (K : PySem.W.Frag) (H : Hp) (wd : Addr) (W : Wd) : Prop := ∃ (dx ts tt tr tp : Addr) (fs : List (Str × V)) (sas tas ras pas : List Addr), H wd = some (.ins (cWorld K) dx fs) ∧
  fs.lookup ("horizon" : Str) = some (.int W.hor) ∧ fs.lookup ("satellites" : Str) = some (.ref ts) ∧ fs.lookup ("stations" : Str) = some (.ref tt) ∧ fs.lookup ("recordings" : Str) = some (.ref tr) ∧ fs.lookup ("passes" : Str) = some (.ref tp) ∧
  H ts = some (.tup (sas.map V.ref)) ∧ H tt = some (.tup (tas.map V.ref)) ∧ H tr = some (.tup (ras.map V.ref)) ∧ H tp = some (.tup (pas.map V.ref)) ∧
  Each (SatAt K H) sas W.sats ∧ Each (StaAt K H) tas W.stas ∧ Each (RecAt K H) ras W.recs ∧ Each (PasAt K H) pas W.pass
theorem WAt.same {K : PySem.W.Frag} {wd : Addr} {H H' : Hp} {W : Wd} (h : WAt K H wd W) (k : Same H H') : WAt K H' wd W := by
  obtain ⟨dx, ts, tt, tr, tp, fs, sas, tas, ras, pas, h1, h2, h3, h4, h5, h6, h7, h8, h9, h10, h11, h12, h13, h14⟩ := h
  exact ⟨dx, ts, tt, tr, tp, fs, sas, tas, ras, pas, k _ _ h1, h2, h3, h4, h5, h6, k _ _ h7, k _ _ h8, k _ _ h9, k _ _ h10, h11.mono fun _ _ z => z.same k, h12.mono fun _ _ z => z.same k, h13.mono fun _ _ z => z.same k, h14.mono fun _ _ z => z.same k⟩
theorem light_rng {hor : Int} (hh : hor ≤ 500) : ∀ {l : List (Int × Int)} {m : Int}, 0 ≤ m → LightOk hor m l → ∀ p ∈ l, 0 ≤ p.1 ∧ p.1 < 10000000 ∧ 0 ≤ p.2 ∧ p.2 < 10000000
  | [], _, _, _, p, hp => by cases hp
  | q :: r, m, h0, h, p, hp => by
    obtain ⟨h1, h2, h3, h4⟩ := h
    rcases List.mem_cons.mp hp with e | e
    · rw [e]
      omega
    · exact light_rng hh (by omega) h4 p e
def spSatLine (K : PySem.W.Frag) : Sp := fun vs H Q _ => ∃ (a : Addr) (s : Sat) (hor : Int), vs = [.ref a] ∧ SatAt K H a s ∧ SatOk hor s ∧ hor ≤ 500 ∧ Q (.str (S (lineOf (satW s)))) H
def spStaLine (K : PySem.W.Frag) : Sp := fun vs H Q _ => ∃ (a : Addr) (s : Sta), vs = [.ref a] ∧ StaAt K H a s ∧ StaOk s ∧ Q (.str (S (lineOf (staW s)))) H
def spRecLine (K : PySem.W.Frag) : Sp := fun vs H Q _ => ∃ (a wd : Addr) (W : Wd) (r : Rec), vs = [.ref a, .ref wd] ∧ RecAt K H a r ∧ WAt K H wd W ∧ WOk W ∧ r ∈ W.recs ∧ Q (.str (S (lineOf (recW W.sn r)))) H
def spPasLine (K : PySem.W.Frag) : Sp := fun vs H Q _ => ∃ (a wd : Addr) (W : Wd) (p : Pas), vs = [.ref a, .ref wd] ∧ PasAt K H a p ∧ WAt K H wd W ∧ WOk W ∧ p ∈ W.pass ∧ Q (.str (S (lineOf (pasW W.sn W.tn p)))) H
section
variable {P : Program} {w : World} {K : PySem.W.Frag} {mg : Str → Option Value} {base : Heap}
theorem sc_Satellite_line : FnScope ["self", "words", "first", "end"] ["self"] (defScope s_Satellite_line) := ⟨rfl, rfl, rfl, by decide +kernel, rfl, by decide +kernel, by decide +kernel⟩
theorem ok_sat_line (T : Tx K mg) : C8.Met P w K mg base 1 (cSatellite K) "line" (spSatLine K) [] := by
  obtain ⟨fd, F⟩ := T.f_Satellite_line
  refine metOf F T.cls_Satellite T.me_Satellite_line (F.bindsN (ps := ["self"]) fun _ _ _ _ _ _ us hl => match us, hl with | [_], _ => rfl) sc_Satellite_line ?_ ?_
  · rintro vs H Q E ⟨a, s, hor, rfl, _⟩
    rfl
  · rintro cdv A outer st H vs Q E hr ⟨a, s, hor, rfl, hs, hok, hh, k⟩
    refine ⟨_, pss_cons (ps_set (i := 1) sc_Satellite_line.nd rfl (Or.inl rfl) (pe_joined (.cons (pe_str) (.cons (pe_fmt (pe_fld (pv 0) rfl)) (.cons (pe_str) (.cons (pe_fmt (pe_fld (pv 0) rfl)) (.cons (pe_str) (.cons (pe_fmt (pe_fld (pv 0) rfl)) (.cons (pe_str) (.cons (pe_fmt (pe_fld (pv 0) rfl)) (.nil)))))))))))
      (pss_cons (ps_set (i := 1) sc_Satellite_line.nd rfl (Or.inl rfl) (pe_op op_add_str (pv 1) (pe_joined (.cons (pe_str) (.cons (pe_fmt (pe_fld (pv 0) rfl)) (.cons (pe_str) (.cons (pe_fmt (pe_fld (pv 0) rfl)) (.cons (pe_str) (.cons (pe_fmt (pe_fld (pv 0) rfl)) (.cons (pe_str) (.nil)))))))))))
      (pss_cons (ps_for PassesOwn.never rfl (pi_tup (pe_fld (pv 0) rfl)) (pg_tup (n := 2) rfl (pgs_cons (pg_name (i := 2) sc_Satellite_line.nd rfl (Or.inl rfl)) (pgs_cons (pg_name (i := 3) sc_Satellite_line.nd rfl (Or.inl rfl)) pgs_nil)))
        (pss_one (ps_set (i := 1) sc_Satellite_line.nd rfl (Or.inl rfl) (pe_op op_add_str (pv 1) (pe_joined (.cons (pe_str) (.cons (pe_fmt (pv 2)) (.cons (pe_str) (.cons (pe_fmt (pv 3)) (.nil))))))))))
      (pss_one (ps_ret (pv 1))))), ?_⟩
    try dsimp only [cxK]
    obtain ⟨dx, lt, ps, h1, h2, h3, h4⟩ := hs
    obtain ⟨o1, o2, o3, o4, o5, o6, o7, o8, o9⟩ := id hok
    have o10 := o1.few
    have b1 : 0 ≤ s.store ∧ s.store < 10000000 := by omega
    have b2 : 0 ≤ s.battery ∧ s.battery < 10000000 := by omega
    have b3 : 0 ≤ s.level ∧ s.level < 10000000 := by omega
    have b4 : 0 ≤ s.reserve ∧ s.reserve < 10000000 := by omega
    have b5 : 0 ≤ s.charge ∧ s.charge < 10000000 := by omega
    have b6 : 0 ≤ s.settle ∧ s.settle < 10000000 := by omega
    walk_at "sx"
    simp only [List.nil_append, List.append_assoc]
    have ea : lit "satellite " ++ (s.name ++ (lit " store " ++ (num s.store ++ (lit " battery " ++ (num s.battery ++ (lit " level " ++ (num s.level ++ (lit " reserve " ++ (num s.reserve ++ (lit " charge " ++ (num s.charge ++ (lit " settle " ++ (num s.settle ++ lit " light"))))))))))))) = satA s := rfl
    rw [ea]
    have hla := satA_len hh hok
    refine for_gen (walk_tup (K := K) (a := lt) (xs := ps.map V.ref)) (fun i σ H' => H' = H ∧ ∃ v2 v3, σ = [some (V.ref a), some (V.str (S (satA s ++ lightS (s.light.take i)))), v2, v3] ∧ (satA s ++ lightS (s.light.take i)).length ≤ 225 + 60 * i) ?_ ?_ ?_ ?_
    · refine ⟨rfl, none, none, ?_, ?_⟩
      · show _ = [some (V.ref a), some (V.str (S (satA s ++ []))), none, none]
        rw [List.append_nil]
        rfl
      · show (satA s ++ []).length ≤ _
        rw [List.append_nil]
        omega
    · rintro i σ H' _ ⟨rfl, _⟩
      exact SqT.of h2
    · rintro i x σ H1 H2 hi ⟨rfl, v2, v3, rfl, hz⟩ ⟨rfl, hx⟩
      rw [List.getElem?_map] at hx
      rw [List.length_map] at hi
      obtain ⟨p, hp⟩ : ∃ p, ps[i]? = some p := ⟨ps[i], List.getElem?_eq_getElem hi⟩
      obtain ⟨q, hq⟩ : ∃ q, s.light[i]? = some q := ⟨s.light[i]'(by omega), List.getElem?_eq_getElem _⟩
      rw [hp] at hx
      have hx := Option.some.inj hx
      subst hx
      have h5 := h4 i p q hp hq
      have hr0 := light_rng hh (Int.le_refl 0) o8 q (List.mem_of_getElem? hq)
      have r1 : 0 ≤ q.1 ∧ q.1 < 10000000 := ⟨hr0.1, hr0.2.1⟩
      have r2 : 0 ≤ q.2 ∧ q.2 < 10000000 := hr0.2.2
      have hz' : (satA s ++ lightS (List.take i s.light)).length ≤ 1000 := by omega
      walk_at "sx"
      have e1 : satA s ++ lightS (List.take i s.light) ++ ([] ++ lit " " ++ num q.1 ++ lit " " ++ num q.2) = satA s ++ lightS (List.take (i + 1) s.light) := by
        rw [take_snoc hq, lightS_snoc]
        simp only [List.nil_append, List.append_assoc]
      refine ⟨rfl, some (.int q.1), some (.int q.2), ?_, ?_⟩
      · rw [← e1]
        rfl
      · rw [← e1, List.length_append]
        omega
    · rintro σ H' ⟨rfl, v2, v3, rfl, hz⟩
      walk_at "sx"
      rw [List.length_map, h3, List.take_length, satA_line]
      exact k
theorem sc_Station_line : FnScope ["self"] ["self"] (defScope s_Station_line) := ⟨rfl, rfl, rfl, by decide +kernel, rfl, by decide +kernel, by decide +kernel⟩
theorem ok_sta_line (T : Tx K mg) : C8.Met P w K mg base 1 (cStation K) "line" (spStaLine K) [] := by
  obtain ⟨fd, F⟩ := T.f_Station_line
  refine metOf F T.cls_Station T.me_Station_line (F.bindsN (ps := ["self"]) fun _ _ _ _ _ _ us hl => match us, hl with | [_], _ => rfl) sc_Station_line ?_ ?_
  · rintro vs H Q E ⟨a, s, rfl, _⟩
    rfl
  · rintro cdv A outer st H vs Q E hr ⟨a, s, rfl, ⟨dx, h1⟩, ⟨o1, o2, o3⟩, k⟩
    refine ⟨_, pss_one (ps_ret (pe_joined (.cons (pe_str) (.cons (pe_fmt (pe_fld (pv 0) rfl)) (.cons (pe_str) (.cons (pe_fmt (pe_fld (pv 0) rfl)) (.cons (pe_str) (.cons (pe_fmt (pe_fld (pv 0) rfl)) (.nil))))))))), ?_⟩
    try dsimp only [cxK]
    have o10 := o1.few
    have b1 : 0 ≤ s.ant ∧ s.ant < 10000000 := by omega
    have b2 : 0 ≤ s.turn ∧ s.turn < 10000000 := by omega
    walk_at "sx"
    simp only [List.nil_append, List.append_assoc]
    rw [staA_line]
    exact k
theorem sc_Recording_line : FnScope ["self", "world", "words"] ["self", "world"] (defScope s_Recording_line) := ⟨rfl, rfl, rfl, by decide +kernel, rfl, by decide +kernel, by decide +kernel⟩
theorem ok_rec_line (T : Tx K mg) : C8.Met P w K mg base 1 (cRecording K) "line" (spRecLine K) [] := by
  obtain ⟨fd, F⟩ := T.f_Recording_line
  refine metOf F T.cls_Recording T.me_Recording_line (F.bindsN (ps := ["self", "world"]) fun _ _ _ _ _ _ us hl => match us, hl with | [_, _], _ => rfl) sc_Recording_line ?_ ?_
  · rintro vs H Q E ⟨a, wd, W, r, rfl, _⟩
    rfl
  · rintro cdv A outer st H vs Q E hr ⟨a, wd, W, r, rfl, ⟨dx, h1⟩, ⟨dw, ts, tt, tr, tp, fs, sas, tas, ras, pas, w1, w2, w3, w4, w5, w6, w7, w8, w9, w10, w11, w12, w13, w14⟩, ok, hr', k⟩
    refine ⟨_, pss_cons (ps_set (i := 2) sc_Recording_line.nd rfl (Or.inl rfl) (pe_joined (.cons (pe_str) (.cons (pe_fmt (pe_fld (pv 0) rfl)) (.cons (pe_str) (.cons (pe_fmt (pe_fld (pe_ix ix_tup (pe_fld (pv 1) rfl) (pe_fld (pv 0) rfl) (fun _ _ => rfl)) rfl)) (.cons (pe_str) (.cons (pe_fmt (pe_fld (pv 0) rfl)) (.nil)))))))))
      (pss_cons (ps_set (i := 2) sc_Recording_line.nd rfl (Or.inl rfl) (pe_op op_add_str (pv 2) (pe_joined (.cons (pe_str) (.cons (pe_fmt (pe_fld (pv 0) rfl)) (.cons (pe_str) (.cons (pe_fmt (pe_fld (pv 0) rfl)) (.cons (pe_str) (.cons (pe_fmt (pe_fld (pv 0) rfl)) (.cons (pe_str) (.cons (pe_fmt (pe_fld (pv 0) rfl)) (.nil))))))))))))
      (pss_one (ps_ret (pe_op op_add_str (pv 2) (pe_joined (.cons (pe_str) (.cons (pe_fmt (pe_fld (pv 0) rfl)) (.cons (pe_str) (.cons (pe_fmt (pe_fld (pv 0) rfl)) (.cons (pe_str) (.cons (pe_fmt (pe_fld (pv 0) rfl)) (.nil)))))))))))), ?_⟩
    try dsimp only [cxK]
    obtain ⟨o1, o2, o3, o4, o5, o6, o7, o8, o9, o10⟩ := ok.recs r hr'
    have hh := ok.hor
    have o11 := o1.few
    obtain ⟨s0, hs0⟩ : ∃ s, W.sats[r.sat]? = some s := ⟨W.sats[r.sat], List.getElem?_eq_getElem o2⟩
    obtain ⟨sa, hsa, ds, lt, ps, g1, g2, g3⟩ := w11.at_ hs0
    have hsi : atI (sas.map V.ref) (r.sat : Int) = some (V.ref sa) := atI_nat (by rw [List.getElem?_map, hsa]; rfl)
    have en : W.sn.getD r.sat [] = s0.name := by
      unfold Wd.sn
      rw [List.getD_eq_getElem?_getD, List.getElem?_map, hs0]
      rfl
    have o12 := (ok.sats s0 (List.mem_of_getElem? hs0)).name.few
    have b1 : 0 ≤ r.ear ∧ r.ear < 10000000 := by omega
    have b2 : 0 ≤ r.lat ∧ r.lat < 10000000 := by omega
    have b3 : 0 ≤ r.len ∧ r.len < 10000000 := by omega
    have b4 : 0 ≤ r.size ∧ r.size < 10000000 := by omega
    have b5 : 0 ≤ r.energy ∧ r.energy < 10000000 := by omega
    have b6 : 0 ≤ r.worth ∧ r.worth < 10000000 := by omega
    have b7 : 0 ≤ r.rank ∧ r.rank < 10000000 := by omega
    have b8 : 0 ≤ r.dead ∧ r.dead < 10000000 := by omega
    walk_at "sx"
    simp only [List.nil_append, List.append_assoc]
    rw [← en, recA_line]
    exact k
theorem sc_Pass_line : FnScope ["self", "world", "words"] ["self", "world"] (defScope s_Pass_line) := ⟨rfl, rfl, rfl, by decide +kernel, rfl, by decide +kernel, by decide +kernel⟩
theorem ok_pas_line (T : Tx K mg) : C8.Met P w K mg base 1 (cPass K) "line" (spPasLine K) [] := by
  obtain ⟨fd, F⟩ := T.f_Pass_line
  refine metOf F T.cls_Pass T.me_Pass_line (F.bindsN (ps := ["self", "world"]) fun _ _ _ _ _ _ us hl => match us, hl with | [_, _], _ => rfl) sc_Pass_line ?_ ?_
  · rintro vs H Q E ⟨a, wd, W, p, rfl, _⟩
    rfl
  · rintro cdv A outer st H vs Q E hr ⟨a, wd, W, p, rfl, ⟨dx, sp, h1, h2⟩, ⟨dw, ts, tt, tr, tp, fs, sas, tas, ras, pas, w1, w2, w3, w4, w5, w6, w7, w8, w9, w10, w11, w12, w13, w14⟩, ok, hp', k⟩
    refine ⟨_, pss_cons (ps_set (i := 2) sc_Pass_line.nd rfl (Or.inl rfl) (pe_joined (.cons (pe_str) (.cons (pe_fmt (pe_fld (pv 0) rfl)) (.cons (pe_str) (.cons (pe_fmt (pe_fld (pe_ix ix_tup (pe_fld (pv 1) rfl) (pe_fld (pv 0) rfl) (fun _ _ => rfl)) rfl)) (.nil)))))))
      (pss_cons (ps_set (i := 2) sc_Pass_line.nd rfl (Or.inl rfl) (pe_op op_add_str (pv 2) (pe_joined (.cons (pe_str) (.cons (pe_fmt (pe_fld (pe_ix ix_tup (pe_fld (pv 1) rfl) (pe_fld (pv 0) rfl) (fun _ _ => rfl)) rfl)) (.cons (pe_str) (.cons (pe_fmt (pe_ix ix_tup (pe_fld (pv 0) rfl) (pe_int) (fun _ _ => rfl))) (.cons (pe_str) (.cons (pe_fmt (pe_ix ix_tup (pe_fld (pv 0) rfl) (pe_int) (fun _ _ => rfl))) (.nil))))))))))
      (pss_one (ps_ret (pe_op op_add_str (pv 2) (pe_joined (.cons (pe_str) (.cons (pe_fmt (pe_fld (pv 0) rfl)) (.cons (pe_str) (.cons (pe_fmt (pe_fld (pv 0) rfl)) (.cons (pe_str) (.cons (pe_fmt (pe_fld (pv 0) rfl)) (.nil)))))))))))), ?_⟩
    try dsimp only [cxK]
    obtain ⟨o1, o2, o3, o4, o5, o6, o7⟩ := ok.pass p hp'
    have hh := ok.hor
    have o11 := o1.few
    obtain ⟨s0, hs0⟩ : ∃ s, W.sats[p.sat]? = some s := ⟨W.sats[p.sat], List.getElem?_eq_getElem o2⟩
    obtain ⟨sa, hsa, ds, lt, ps, g1, g2, g3⟩ := w11.at_ hs0
    have hsi : atI (sas.map V.ref) (p.sat : Int) = some (V.ref sa) := atI_nat (by rw [List.getElem?_map, hsa]; rfl)
    obtain ⟨t0, ht0⟩ : ∃ s, W.stas[p.sta]? = some s := ⟨W.stas[p.sta], List.getElem?_eq_getElem o3⟩
    obtain ⟨ta, hta, dt, g4⟩ := w12.at_ ht0
    have hti : atI (tas.map V.ref) (p.sta : Int) = some (V.ref ta) := atI_nat (by rw [List.getElem?_map, hta]; rfl)
    have en : W.sn.getD p.sat [] = s0.name := by
      unfold Wd.sn
      rw [List.getD_eq_getElem?_getD, List.getElem?_map, hs0]
      rfl
    have et : W.tn.getD p.sta [] = t0.name := by
      unfold Wd.tn
      rw [List.getD_eq_getElem?_getD, List.getElem?_map, ht0]
      rfl
    have o12 := (ok.sats s0 (List.mem_of_getElem? hs0)).name.few
    have o13 := (ok.stas t0 (List.mem_of_getElem? ht0)).name.few
    have b1 : 0 ≤ p.first ∧ p.first < 10000000 := by omega
    have b2 : 0 ≤ p.last ∧ p.last < 10000000 := by omega
    have b3 : 0 ≤ p.room ∧ p.room < 10000000 := by omega
    have b4 : 0 ≤ p.energy ∧ p.energy < 10000000 := by omega
    have b5 : 0 ≤ p.fee ∧ p.fee < 10000000 := by omega
    have hi0 : atI [V.int p.first, V.int p.last] 0 = some (V.int p.first) := atI_nat (j := 0) rfl
    have hi1 : atI [V.int p.first, V.int p.last] 1 = some (V.int p.last) := atI_nat (j := 1) rfl
    walk_at "sx"
    simp only [List.nil_append, List.append_assoc]
    rw [← en, ← et, pasA_line]
    exact k
end
end Dp
namespace Dp
open PySem PySem.Spec PyProof.Rows L2 SX
/-! ### a world's options, its text, its making -/
theorem x_both {k : Bool} {A B : Prop} (h1 : k = true → A) (h2 : k = false → B) : if k = true then A else B := by
  cases k
  · exact x_nay rfl (h2 rfl)
  · exact x_yes rfl (h1 rfl)
theorem txts_of {α : Type} {l : List α} {f : α → List Nat} {ys : List V} (hl : ys.length = l.length) (h : ∀ (i : Nat) (y : V), ys[i]? = some y → ∃ x, l[i]? = some x ∧ y = V.str (S (f x))) : ys = txts (l.map f) := by
  apply List.ext_getElem?
  intro i
  rw [List.getElem?_map, List.getElem?_map]
  cases e : ys[i]? with
  | none =>
    have z := List.getElem?_eq_none_iff.mp e
    rw [List.getElem?_eq_none (by omega)]
    rfl
  | some y =>
    obtain ⟨x, hx, rfl⟩ := h i y e
    rw [hx]
    rfl
theorem sum_len : ∀ ls : List (List Nat), (∀ l ∈ ls, l.length ≤ 400) → (ls.map fun l => (l ++ [10]).length).sum ≤ 401 * ls.length
  | [], _ => Nat.le_refl _
  | l :: r, h => by
    have z := sum_len r fun x hx => h x (List.mem_cons_of_mem _ hx)
    have y := h l List.mem_cons_self
    rw [List.map_cons, List.sum_cons, List.length_cons, List.length_append, List.length_singleton]
    omega
section
variable {K : PySem.W.Frag} {a : Addr} {te : TE} {vs : List Nat} {σ : L2.St} {H1 : Hp}
/-- a comprehension of texts over a tuple of things -/
theorem lines_gen {α : Type} {xs : List Addr} {l : List α} {f : α → List Nat} {j : Nat} {Qd : Addr → Hp → Prop} (hl : xs.length = l.length) (hz : l.length ≤ 100000) (hT : H1 a = some (.tup (xs.map V.ref)))
    (turn : ∀ (i : Nat) (b : Addr) (x : α) (H2 : Hp) (k : VK), xs[i]? = some b → l[i]? = some x → Same H1 H2 → k (.str (S (f x))) H2 → wipe ((wipe σ vs).set j (some (.ref b))) vs = wipe σ vs ∧ te ((wipe σ vs).set j (some (.ref b))) H2 k)
    (done : ∀ (D : Addr) (H' : Hp), H1 D = none → Same H1 H' → H' D = some (.lst (txts (l.map f))) → Qd D H') : ∀ D, H1 D = none →
    ∃ W : Nat → Nat → Hp → Prop, (∃ m, W 0 m (upd H1 D (.lst []))) ∧ ∀ i m H, W i m H →
      ((Itt K a).stop i H ∧ Qd D H) ∨ ((Itt K a).go i H ∧ ∃ Nx : Hp → Prop, (∀ H', Nx H' → ∃ m', m' < m ∧ W (i + 1) m' H') ∧ ∀ x H', (Itt K a).yld i H x H' → gName j x (wipe σ vs) H' fun σ2 H2 => wipe σ2 vs = wipe σ vs ∧ tYes σ2 H2 fun b H3 =>
        if b = true then te σ2 H3 fun y H4 => ∃ acc, H4 D = some (.lst acc) ∧ acc.length < sizeLine ∧ Nx (upd H4 D (.lst (acc ++ [y]))) else Nx H3) := by
  intro D hD
  refine lc_gen (walk_tup (K := K) (a := a) (xs := xs.map V.ref)) (by rw [List.length_map]; omega) hD noX (fun _ => True) (fun i y _ => ∃ x, l[i]? = some x ∧ y = .str (S (f x))) (fun z => z) (fun _ _ _ _ h _ => h) trivial
    (fun H' kp _ => SqT.of (rm_of (kp _ _ hT fun z => z)).1) y_at ?_ ?_ (gm_name j)
  · rintro i x H2 H3 k hi kp _ _ ⟨rfl, hx⟩ hk
    rw [List.getElem?_map] at hx
    rw [List.length_map] at hi
    obtain ⟨b, hb⟩ : ∃ b, xs[i]? = some b := ⟨xs[i], List.getElem?_eq_getElem hi⟩
    obtain ⟨q, hq⟩ : ∃ q, l[i]? = some q := ⟨l[i]'(by omega), List.getElem?_eq_getElem _⟩
    rw [hb] at hx
    have hx := Option.some.inj hx
    subst hx
    exact turn i b q H3 k hb hq ((same_kp kp).trans rm_same) (hk _ _ (Kp.refl _ _) trivial ⟨q, hq, rfl⟩)
  · rintro ys H' hlen hD' _ kp hR
    rw [List.length_map] at hlen
    refine done D H' hD ((same_kp kp).trans rm_same) ?_
    rw [hD', txts_of (by omega) hR]
/-- a comprehension of texts over a list of texts -/
theorem texts_gen {ls : List (List Nat)} {f : List Nat → List Nat} {j : Nat} {Qd : Addr → Hp → Prop} (hz : ls.length ≤ 100000) (hT : H1 a = some (.lst (txts ls)))
    (turn : ∀ (w : List Nat) (H2 : Hp) (k : VK), w ∈ ls → Same H1 H2 → k (.str (S (f w))) H2 → wipe ((wipe σ vs).set j (some (.str (S w)))) vs = wipe σ vs ∧ te ((wipe σ vs).set j (some (.str (S w)))) H2 k)
    (done : ∀ (D : Addr) (H' : Hp), H1 D = none → Same H1 H' → H' D = some (.lst (txts (ls.map f))) → Qd D H') : ∀ D, H1 D = none →
    ∃ W : Nat → Nat → Hp → Prop, (∃ m, W 0 m (upd H1 D (.lst []))) ∧ ∀ i m H, W i m H →
      ((Itl K a).stop i H ∧ Qd D H) ∨ ((Itl K a).go i H ∧ ∃ Nx : Hp → Prop, (∀ H', Nx H' → ∃ m', m' < m ∧ W (i + 1) m' H') ∧ ∀ x H', (Itl K a).yld i H x H' → gName j x (wipe σ vs) H' fun σ2 H2 => wipe σ2 vs = wipe σ vs ∧ tYes σ2 H2 fun b H3 =>
        if b = true then te σ2 H3 fun y H4 => ∃ acc, H4 D = some (.lst acc) ∧ acc.length < sizeLine ∧ Nx (upd H4 D (.lst (acc ++ [y]))) else Nx H3) := by
  intro D hD
  refine lc_gen (walk_list (K := K) (a := a) (xs := txts ls)) (by rw [List.length_map]; omega) hD noX (fun _ => True) (fun i y _ => ∃ x, ls[i]? = some x ∧ y = .str (S (f x))) (fun z => z) (fun _ _ _ _ h _ => h) trivial
    (fun H' kp _ => SqL.of (rm_of (kp _ _ hT fun z => z)).1) y_at ?_ ?_ (gm_name j)
  · rintro i x H2 H3 k hi kp _ _ ⟨rfl, hx⟩ hk
    rw [List.getElem?_map] at hx
    rw [List.length_map] at hi
    obtain ⟨q, hq⟩ : ∃ q, ls[i]? = some q := ⟨ls[i], List.getElem?_eq_getElem _⟩
    rw [hq] at hx
    have hx := Option.some.inj hx
    subst hx
    exact turn q H3 k (List.mem_of_getElem? hq) ((same_kp kp).trans rm_same) (hk _ _ (Kp.refl _ _) trivial ⟨q, hq, rfl⟩)
  · rintro ys H' hlen hD' _ kp hR
    rw [List.length_map] at hlen
    refine done D H' hD ((same_kp kp).trans rm_same) ?_
    rw [hD', txts_of (by omega) hR]
end
def spFound (K : PySem.W.Frag) : Sp := fun vs H Q _ => ∃ (wd : Addr) (W : Wd) (n : Nat), vs = [.ref wd, .int (n : Int)] ∧ WAt K H wd W ∧ WOk W ∧ n < W.recs.length ∧ ∀ (H' : Hp) (t : Addr), Same H H' → Q (.ref t) H'
def spWorldText (K : PySem.W.Frag) : Sp := fun vs H Q _ => ∃ (wd : Addr) (W : Wd), vs = [.ref wd] ∧ WAt K H wd W ∧ WOk W ∧ ∀ H' : Hp, Same H H' → Q (.str (S (textOf W))) H'
section
variable {P : Program} {w : World} {K : PySem.W.Frag} {mg : Str → Option Value} {base : Heap}
theorem sc_found_options : FnScope ["world", "number", "recording", "found", "start", "index", "chance"] ["world", "number"] (defScope s_found_options) := ⟨rfl, rfl, rfl, by decide +kernel, rfl, by decide +kernel, by decide +kernel⟩
theorem ok_found_options (T : Tx K mg) : C8.Cal P w K mg base 1 "found_options" (spFound K) [] := by
  obtain ⟨fd, F⟩ := T.f_found_options
  refine calOf F T.glo_found_options (F.bindsN (ps := ["world", "number"]) fun _ _ _ _ _ _ us hl => match us, hl with | [_, _], _ => rfl) sc_found_options ?_ ?_
  · rintro vs H Q E ⟨wd, W, n, rfl, _⟩
    rfl
  · rintro cdv A outer st H vs Q E hr ⟨wd, W, n, rfl, ⟨dw, ts, tt, tr, tp, fs, sas, tas, ras, pas, w1, w2, w3, w4, w5, w6, w7, w8, w9, w10, w11, w12, w13, w14⟩, ok, hn, k⟩
    refine ⟨_, pss_cons (ps_set (i := 2) sc_found_options.nd rfl (Or.inl rfl) (pe_ix ix_tup (pe_fld (pv 0) rfl) (pv 1) (fun _ _ => rfl)))
      (pss_cons (ps_set (i := 3) sc_found_options.nd rfl (Or.inl rfl) (pe_lst (pa_nil)))
      (pss_cons (ps_for PassesOwn.never rfl (pi_range2 (by rfl) T.free_range (pa_cons (pe_fld (pv 2) rfl) (pa_cons (pe_op op_add (pe_fld (pv 2) rfl) (pe_int)) pa_nil))) (pg_name (i := 4) sc_found_options.nd rfl (Or.inl rfl))
        (pss_one (ps_for PassesOwn.never rfl (pi_enumT (by rfl) T.free_enumerate (pa_cons (pe_fld (pv 0) rfl) pa_nil)) (pg_tup (n := 2) rfl (pgs_cons (pg_name (i := 5) sc_found_options.nd rfl (Or.inl rfl)) (pgs_cons (pg_name (i := 6) sc_found_options.nd rfl (Or.inl rfl)) pgs_nil)))
          (pss_one (ps_if (PW.pt (pw_and (pt_cmpR op_eq (pe_fld (pv 6) rfl) (pe_fld (pv 2) rfl) (nomark _)) (pw_and1 (pt_cmpR op_le (pe_op op_add (pv 4) (pe_fld (pv 2) rfl)) (pe_ix ix_tup (pe_fld (pv 6) rfl) (pe_int) (fun _ _ => rfl)) (nomark _))))) (pss_one (ps_if (pt_cmpR op_le (pe_ix ix_tup (pe_fld (pv 6) rfl) (pe_int) (fun _ _ => rfl)) (pe_fld (pv 2) rfl) (nomark _)) (pss_one (ps_expr (pe_bm PySem.F.plainAttrs_list PySem.F.slot_list_append PySem.F.type_list_append mt_append (pv 3) (pa_cons (pe_tup (pa_cons (pv 4) (pa_cons (pv 5) pa_nil))) pa_nil)))) (pss_nil))) (pss_nil))))))
      (pss_one (ps_ret (pe_callTy call_tuple_of (by rfl) T.free_tuple (by decide +kernel) (pa_cons (pv 3) pa_nil)))))), ?_⟩
    try dsimp only [cxK]
    obtain ⟨r, hrn⟩ : ∃ r, W.recs[n]? = some r := ⟨W.recs[n], List.getElem?_eq_getElem hn⟩
    obtain ⟨o1, o2, o3, o4, o5, o6, o7, o8, o9, o10⟩ := ok.recs r (List.mem_of_getElem? hrn)
    have hh := ok.hor
    obtain ⟨ra, hra, dr, g1⟩ := w13.at_ hrn
    have hri : atI (ras.map V.ref) (n : Int) = some (V.ref ra) := atI_nat (by rw [List.getElem?_map, hra]; rfl)
    walk_at "sx"
    refine ⟨Nat.zero_le _, fun q hq => ?_⟩
    have nq : ra ≠ q := ne_of_none g1 hq
    have g1' := g1
    walk_at "sx"
    refine ⟨⟨by omega, by omega, by omega, by omega⟩, ?_⟩
    refine for_gen (walk_range (lo := r.ear) (n := (r.lat + 1 - r.ear).toNat)) (fun i σ H' => Same H H' ∧ ∃ (xs : List V) (v4 v5 v6 : Option V), H' q = some (.lst xs) ∧ xs.length ≤ 10 * i ∧ σ = [some (V.ref wd), some (.int (n : Int)), some (V.ref ra), some (V.ref q), v4, v5, v6]) ?_ ?_ ?_ ?_
    · exact ⟨same_upd (Same.refl H) hq, [], none, none, none, upd_same, Nat.le_refl _, rfl⟩
    · intros
      trivial
    · rintro i x σ H1 H2 hi ⟨s1, xs, v4, v5, v6, hx, hz, rfl⟩ ⟨rfl, rfl⟩
      walk_at "sx1"
      have e1 := s1 _ _ w1
      have e2 := s1 _ _ w10
      walk_at "sx"
      refine for_gen (walk_enumT (K := K) (a := tp) (xs := pas.map V.ref)) (fun j σ H' => Same H H' ∧ ∃ (xs : List V) (v5 v6 : Option V), H' q = some (.lst xs) ∧ xs.length ≤ 10 * i + j ∧ σ = [some (V.ref wd), some (.int (n : Int)), some (V.ref ra), some (V.ref q), some (.int (r.ear + (i : Int))), v5, v6]) ?_ ?_ ?_ ?_
      · exact ⟨s1, xs, v5, v6, hx, hz, rfl⟩
      · rintro j σ H3 _ ⟨s3, _⟩
        exact SqT.of (s3 _ _ w10)
      · rintro j x σ H3 H4 hj ⟨s3, ys, v5, v6, hy, hyz, rfl⟩ ⟨N, e, y, rfl, hN, rfl, q1, q2⟩
        have q1 := Option.some.inj q1
        subst q1
        rw [List.length_map] at hj
        have q2 : (pas.map V.ref)[j]? = some y := q2
        obtain ⟨pa, hpa⟩ : ∃ b, pas[j]? = some b := ⟨pas[j], List.getElem?_eq_getElem hj⟩
        rw [List.getElem?_map, hpa] at q2
        have q2 := Option.some.inj q2
        subst q2
        obtain ⟨pp, hpp⟩ : ∃ b, W.pass[j]? = some b := ⟨W.pass[j]'(by rw [← w14.1]; exact hj), List.getElem?_eq_getElem _⟩
        obtain ⟨dp, sp, p1, p2⟩ := w14.2 j pa pp hpa hpp
        obtain ⟨b1, b2, b3, b4, b5, b6, b7⟩ := ok.pass pp (List.mem_of_getElem? hpp)
        have f1 : upd H3 N (.tup [.int (j : Nat), .ref pa]) ra = _ := (upd_ne (ne_of_none (s3 _ _ g1) hN)).trans (s3 _ _ g1)
        have f2 : upd H3 N (.tup [.int (j : Nat), .ref pa]) pa = _ := (upd_ne (ne_of_none (s3 _ _ p1) hN)).trans (s3 _ _ p1)
        have f3 : upd H3 N (.tup [.int (j : Nat), .ref pa]) sp = _ := (upd_ne (ne_of_none (s3 _ _ p2) hN)).trans (s3 _ _ p2)
        have f4 : upd H3 N (.tup [.int (j : Nat), .ref pa]) q = _ := (upd_ne (ne_of_none hy hN)).trans hy
        have s4 := same_upd (o := .tup [.int (j : Nat), .ref pa]) s3 hN
        have hi0 : atI [V.int pp.first, V.int pp.last] 0 = some (V.int pp.first) := atI_nat (j := 0) rfl
        have hi1 : atI [V.int pp.first, V.int pp.last] 1 = some (V.int pp.last) := atI_nat (j := 1) rfl
        have f5 : upd H3 N (.tup [.int (j : Nat), .ref pa]) N = _ := upd_same
        generalize upd H3 N (.tup [.int (j : Nat), .ref pa]) = H5 at f1 f2 f3 f4 f5 s4 ⊢
        have stay : Same H H5 ∧ ∃ (xs : List V) (v5 v6 : Option V), H5 q = some (.lst xs) ∧ xs.length ≤ 10 * i + (j + 1) ∧ [some (V.ref wd), some (V.int (n : Int)), some (V.ref ra), some (V.ref q), some (.int (r.ear + (i : Int))), some (.int (j : Nat)), some (.ref pa)] = [some (V.ref wd), some (.int (n : Int)), some (V.ref ra), some (V.ref q), some (.int (r.ear + (i : Int))), v5, v6] :=
          ⟨s4, ys, _, _, f4, by omega, rfl⟩
        walk_at "sx"
        refine x_both (fun _ => ?_) fun _ => ?_
        · walk_at "sx"
          refine x_both (fun _ => ?_) fun _ => ?_
          · walk_at "sx"
            refine x_both (fun _ => ?_) fun _ => ?_
            · walk_at "sx"
              refine ⟨show 2 ≤ sizeLine by decide, fun t ht => ?_⟩
              have f6 : upd H5 t (.tup [.int (r.ear + (i : Int)), .int (j : Nat)]) q = _ := (upd_ne (ne_of_none f4 ht)).trans f4
              walk_at "sx"
              refine x_app f6 (by have := w14.1; have := ok.npas; omega) ?_
              exact ⟨same_mut (same_upd s4 ht) hq, _, _, _, upd_same, by rw [List.length_append, List.length_singleton]; omega, rfl⟩
            · walk_at "sx"
              exact stay
          · walk_at "sx"
            exact stay
        · walk_at "sx"
          exact stay
      · rintro σ H3 ⟨s3, ys, v5, v6, hy, hyz, rfl⟩
        have z := w14.1
        have z2 := ok.npas
        rw [List.length_map] at hyz
        exact ⟨s3, ys, _, v5, v6, hy, by omega, rfl⟩
    · rintro σ H1 ⟨s1, xs, v4, v5, v6, hx, hz, rfl⟩
      walk_at "sx"
      intro t ht
      exact k _ t (same_upd s1 ht)
theorem sc_world_text : FnScope ["world", "lines", "satellite", "station", "recording", "chance", "line"] ["world"] (defScope s_world_text) := ⟨rfl, rfl, rfl, by decide +kernel, rfl, by decide +kernel, by decide +kernel⟩
theorem ok_world_text (T : Tx K mg) (k_Satellite_line : C8.Met P w K mg base 1 (cSatellite K) "line" (spSatLine K) []) (k_Station_line : C8.Met P w K mg base 1 (cStation K) "line" (spStaLine K) [])
    (k_Recording_line : C8.Met P w K mg base 1 (cRecording K) "line" (spRecLine K) []) (k_Pass_line : C8.Met P w K mg base 1 (cPass K) "line" (spPasLine K) []) : C8.Cal P w K mg base 2 "world_text" (spWorldText K) [] := by
  obtain ⟨fd, F⟩ := T.f_world_text
  refine calOf F T.glo_world_text (F.bindsN (ps := ["world"]) fun _ _ _ _ _ _ us hl => match us, hl with | [_], _ => rfl) sc_world_text ?_ ?_
  · rintro vs H Q E ⟨wd, W, rfl, _⟩
    rfl
  · rintro cdv A outer st H vs Q E hr ⟨wd, W, rfl, w0, ok, k⟩
    refine ⟨_, pss_cons (ps_set (i := 1) sc_world_text.nd rfl (Or.inl rfl) (pe_lst (pa_cons (pe_joined (.cons (pe_str) (.cons (pe_fmt (pe_fld (pv 0) rfl)) (.nil)))) pa_nil)))
      (pss_cons (ps_expr (pe_bm PySem.F.plainAttrs_list PySem.F.slot_list_extend PySem.F.type_list_extend mt_extend (pv 1) (pa_cons (pe_lc (own := [("satellite", 2)]) (tt := tYes) rfl sc_world_text.nd (pi_tup (pe_fld (pv 0) rfl)) (blkOk_by (own := [("satellite", 2)]) (N := ["world", "lines", "satellite", "station", "recording", "chance", "line"]) (sc := defScope s_world_text) (by decide +kernel)) (fun _ _ _ _ _ => pg_name (i := 2) sc_world_text.nd rfl (Or.inl rfl)) (fun _ _ _ _ _ => pts_nil) (fun _ _ _ _ _ => C8.pe_mt0 k_Satellite_line hr (by decide) (pv 2))) pa_nil)))
      (pss_cons (ps_expr (pe_bm PySem.F.plainAttrs_list PySem.F.slot_list_extend PySem.F.type_list_extend mt_extend (pv 1) (pa_cons (pe_lc (own := [("station", 3)]) (tt := tYes) rfl sc_world_text.nd (pi_tup (pe_fld (pv 0) rfl)) (blkOk_by (own := [("station", 3)]) (N := ["world", "lines", "satellite", "station", "recording", "chance", "line"]) (sc := defScope s_world_text) (by decide +kernel)) (fun _ _ _ _ _ => pg_name (i := 3) sc_world_text.nd rfl (Or.inl rfl)) (fun _ _ _ _ _ => pts_nil) (fun _ _ _ _ _ => C8.pe_mt0 k_Station_line hr (by decide) (pv 3))) pa_nil)))
      (pss_cons (ps_expr (pe_bm PySem.F.plainAttrs_list PySem.F.slot_list_extend PySem.F.type_list_extend mt_extend (pv 1) (pa_cons (pe_lc (own := [("recording", 4)]) (tt := tYes) rfl sc_world_text.nd (pi_tup (pe_fld (pv 0) rfl)) (blkOk_by (own := [("recording", 4)]) (N := ["world", "lines", "satellite", "station", "recording", "chance", "line"]) (sc := defScope s_world_text) (by decide +kernel)) (fun _ _ _ _ _ => pg_name (i := 4) sc_world_text.nd rfl (Or.inl rfl)) (fun _ _ _ _ _ => pts_nil) (fun _ _ _ _ _ => C8.pe_mt k_Recording_line hr (by decide) (pv 4) (pa_cons (pv 0) pa_nil))) pa_nil)))
      (pss_cons (ps_expr (pe_bm PySem.F.plainAttrs_list PySem.F.slot_list_extend PySem.F.type_list_extend mt_extend (pv 1) (pa_cons (pe_lc (own := [("chance", 5)]) (tt := tYes) rfl sc_world_text.nd (pi_tup (pe_fld (pv 0) rfl)) (blkOk_by (own := [("chance", 5)]) (N := ["world", "lines", "satellite", "station", "recording", "chance", "line"]) (sc := defScope s_world_text) (by decide +kernel)) (fun _ _ _ _ _ => pg_name (i := 5) sc_world_text.nd rfl (Or.inl rfl)) (fun _ _ _ _ _ => pts_nil) (fun _ _ _ _ _ => C8.pe_mt k_Pass_line hr (by decide) (pv 5) (pa_cons (pv 0) pa_nil))) pa_nil)))
      (pss_one (ps_ret (pe_join (pe_str) (pe_lc (own := [("line", 6)]) (tt := tYes) rfl sc_world_text.nd (pi_list (pv 1)) (blkOk_by (own := [("line", 6)]) (N := ["world", "lines", "satellite", "station", "recording", "chance", "line"]) (sc := defScope s_world_text) (by decide +kernel)) (fun _ _ _ _ _ => pg_name (i := 6) sc_world_text.nd rfl (Or.inl rfl)) (fun _ _ _ _ _ => pts_nil) (fun _ _ _ _ _ => pe_op op_add_str (pv 6) (pe_str)))))))))), ?_⟩
    try dsimp only [cxK]
    obtain ⟨dw, ts, tt, tr, tp, fs, sas, tas, ras, pas, w1, w2, w3, w4, w5, w6, w7, w8, w9, w10, w11, w12, w13, w14⟩ := id w0
    have hh := ok.hor
    have b0 : 0 ≤ W.hor ∧ W.hor < 10000000 := by omega
    walk_at "sx"
    refine ⟨show 1 ≤ sizeLine by decide, fun q hq => ?_⟩
    have e0 : ([] ++ lit "horizon " ++ num W.hor : List Nat) = lineOf (horW W.hor) := by
      rw [List.nil_append, horA_line]
    rw [e0]
    have s0 : Same H (upd H q (.lst [V.str (S (lineOf (horW W.hor)))])) := same_upd (Same.refl H) hq
    have hq0 : upd H q (.lst [V.str (S (lineOf (horW W.hor)))]) q = some (.lst (txts [lineOf (horW W.hor)])) := upd_same
    generalize upd H q (.lst [V.str (S (lineOf (horW W.hor)))]) = H1 at s0 hq0 ⊢
    have e1 := s0 _ _ w1
    have e2 := s0 _ _ w7
    walk_at "sx"
    refine lines_gen w11.1 (Nat.le_trans ok.nsat (by decide)) e2 (l := W.sats) (f := fun x => lineOf (satW x)) (fun i b x H2 k' hb hx s2 hk => ?_) fun D H' hD s2 hD' => ?_
    · have z1 := (w11.2 i b x hb hx).same (s0.trans s2)
      obtain ⟨d1, d2, d3, z2, z3, z4⟩ := id z1
      refine ⟨rfl, ?_⟩
      walk_at "sx"
      exact ⟨b, x, W.hor, rfl, z1, ok.sats x (List.mem_of_getElem? hx), ok.hor.2, hk⟩
    have nqD : q ≠ D := ne_of_none hq0 hD
    have hq' := s2 _ _ hq0
    walk_at "sx"
    refine x_ext hq' hD' (by simp only [List.length_map, List.length_append, List.length_cons, List.length_nil]; have := ok.nsat; have := ok.nsta; have := ok.nrec; have := ok.npas; omega) ?_
    have s3 : Same H (upd H' q (.lst (txts [lineOf (horW W.hor)] ++ txts (W.sats.map fun x => lineOf (satW x))))) := same_mut (s0.trans s2) hq
    have hq3 : upd H' q (.lst (txts [lineOf (horW W.hor)] ++ txts (W.sats.map fun x => lineOf (satW x)))) q = some (.lst (txts ([lineOf (horW W.hor)] ++ (W.sats.map fun x => lineOf (satW x))))) := by
      rw [← List.map_append]
      exact upd_same
    generalize upd H' q (.lst (txts [lineOf (horW W.hor)] ++ txts (W.sats.map fun x => lineOf (satW x)))) = Hn at s3 hq3 ⊢
    clear hq0 hq' hD' s2 hD e1 e2 s0 nqD
    have s0 := s3
    have hq0 := hq3
    clear s3 hq3
    have e1 := s0 _ _ w1
    have e2 := s0 _ _ w8
    walk_at "sx"
    refine lines_gen w12.1 (Nat.le_trans ok.nsta (by decide)) e2 (l := W.stas) (f := fun x => lineOf (staW x)) (fun i b x H2 k' hb hx s2 hk => ?_) fun D H' hD s2 hD' => ?_
    · have z1 := (w12.2 i b x hb hx).same (s0.trans s2)
      obtain ⟨d1, z2⟩ := id z1
      refine ⟨rfl, ?_⟩
      walk_at "sx"
      exact ⟨b, x, rfl, z1, ok.stas x (List.mem_of_getElem? hx), hk⟩
    have nqD : q ≠ D := ne_of_none hq0 hD
    have hq' := s2 _ _ hq0
    walk_at "sx"
    refine x_ext hq' hD' (by simp only [List.length_map, List.length_append, List.length_cons, List.length_nil]; have := ok.nsat; have := ok.nsta; have := ok.nrec; have := ok.npas; omega) ?_
    have s3 : Same H (upd H' q (.lst (txts ([lineOf (horW W.hor)] ++ (W.sats.map fun x => lineOf (satW x))) ++ txts (W.stas.map fun x => lineOf (staW x))))) := same_mut (s0.trans s2) hq
    have hq3 : upd H' q (.lst (txts ([lineOf (horW W.hor)] ++ (W.sats.map fun x => lineOf (satW x))) ++ txts (W.stas.map fun x => lineOf (staW x)))) q = some (.lst (txts (([lineOf (horW W.hor)] ++ (W.sats.map fun x => lineOf (satW x))) ++ (W.stas.map fun x => lineOf (staW x))))) := by
      rw [← List.map_append]
      exact upd_same
    generalize upd H' q (.lst (txts ([lineOf (horW W.hor)] ++ (W.sats.map fun x => lineOf (satW x))) ++ txts (W.stas.map fun x => lineOf (staW x)))) = Hn at s3 hq3 ⊢
    clear hq0 hq' hD' s2 hD e1 e2 s0 nqD
    have s0 := s3
    have hq0 := hq3
    clear s3 hq3
    have e1 := s0 _ _ w1
    have e2 := s0 _ _ w9
    walk_at "sx"
    refine lines_gen w13.1 (Nat.le_trans ok.nrec (by decide)) e2 (l := W.recs) (f := fun x => lineOf ((recW W.sn) x)) (fun i b x H2 k' hb hx s2 hk => ?_) fun D H' hD s2 hD' => ?_
    · have z1 := (w13.2 i b x hb hx).same (s0.trans s2)
      obtain ⟨d1, z2⟩ := id z1
      refine ⟨rfl, ?_⟩
      walk_at "sx"
      exact ⟨b, wd, W, x, rfl, z1, w0.same (s0.trans s2), ok, List.mem_of_getElem? hx, hk⟩
    have nqD : q ≠ D := ne_of_none hq0 hD
    have hq' := s2 _ _ hq0
    walk_at "sx"
    refine x_ext hq' hD' (by simp only [List.length_map, List.length_append, List.length_cons, List.length_nil]; have := ok.nsat; have := ok.nsta; have := ok.nrec; have := ok.npas; omega) ?_
    have s3 : Same H (upd H' q (.lst (txts (([lineOf (horW W.hor)] ++ (W.sats.map fun x => lineOf (satW x))) ++ (W.stas.map fun x => lineOf (staW x))) ++ txts (W.recs.map fun x => lineOf ((recW W.sn) x))))) := same_mut (s0.trans s2) hq
    have hq3 : upd H' q (.lst (txts (([lineOf (horW W.hor)] ++ (W.sats.map fun x => lineOf (satW x))) ++ (W.stas.map fun x => lineOf (staW x))) ++ txts (W.recs.map fun x => lineOf ((recW W.sn) x)))) q = some (.lst (txts ((([lineOf (horW W.hor)] ++ (W.sats.map fun x => lineOf (satW x))) ++ (W.stas.map fun x => lineOf (staW x))) ++ (W.recs.map fun x => lineOf ((recW W.sn) x))))) := by
      rw [← List.map_append]
      exact upd_same
    generalize upd H' q (.lst (txts (([lineOf (horW W.hor)] ++ (W.sats.map fun x => lineOf (satW x))) ++ (W.stas.map fun x => lineOf (staW x))) ++ txts (W.recs.map fun x => lineOf ((recW W.sn) x)))) = Hn at s3 hq3 ⊢
    clear hq0 hq' hD' s2 hD e1 e2 s0 nqD
    have s0 := s3
    have hq0 := hq3
    clear s3 hq3
    have e1 := s0 _ _ w1
    have e2 := s0 _ _ w10
    walk_at "sx"
    refine lines_gen w14.1 (Nat.le_trans ok.npas (by decide)) e2 (l := W.pass) (f := fun x => lineOf ((pasW W.sn W.tn) x)) (fun i b x H2 k' hb hx s2 hk => ?_) fun D H' hD s2 hD' => ?_
    · have z1 := (w14.2 i b x hb hx).same (s0.trans s2)
      obtain ⟨d1, d2, z2, z3⟩ := id z1
      refine ⟨rfl, ?_⟩
      walk_at "sx"
      exact ⟨b, wd, W, x, rfl, z1, w0.same (s0.trans s2), ok, List.mem_of_getElem? hx, hk⟩
    have nqD : q ≠ D := ne_of_none hq0 hD
    have hq' := s2 _ _ hq0
    walk_at "sx"
    refine x_ext hq' hD' (by simp only [List.length_map, List.length_append, List.length_cons, List.length_nil]; have := ok.nsat; have := ok.nsta; have := ok.nrec; have := ok.npas; omega) ?_
    have s3 : Same H (upd H' q (.lst (txts ((([lineOf (horW W.hor)] ++ (W.sats.map fun x => lineOf (satW x))) ++ (W.stas.map fun x => lineOf (staW x))) ++ (W.recs.map fun x => lineOf ((recW W.sn) x))) ++ txts (W.pass.map fun x => lineOf ((pasW W.sn W.tn) x))))) := same_mut (s0.trans s2) hq
    have hq3 : upd H' q (.lst (txts ((([lineOf (horW W.hor)] ++ (W.sats.map fun x => lineOf (satW x))) ++ (W.stas.map fun x => lineOf (staW x))) ++ (W.recs.map fun x => lineOf ((recW W.sn) x))) ++ txts (W.pass.map fun x => lineOf ((pasW W.sn W.tn) x)))) q = some (.lst (txts (((([lineOf (horW W.hor)] ++ (W.sats.map fun x => lineOf (satW x))) ++ (W.stas.map fun x => lineOf (staW x))) ++ (W.recs.map fun x => lineOf ((recW W.sn) x))) ++ (W.pass.map fun x => lineOf ((pasW W.sn W.tn) x))))) := by
      rw [← List.map_append]
      exact upd_same
    generalize upd H' q (.lst (txts ((([lineOf (horW W.hor)] ++ (W.sats.map fun x => lineOf (satW x))) ++ (W.stas.map fun x => lineOf (staW x))) ++ (W.recs.map fun x => lineOf ((recW W.sn) x))) ++ txts (W.pass.map fun x => lineOf ((pasW W.sn W.tn) x)))) = Hn at s3 hq3 ⊢
    clear hq0 hq' hD' s2 hD e1 e2 s0 nqD
    have s0 := s3
    have hq0 := hq3
    clear s3 hq3
    have ea : (((([lineOf (horW W.hor)] ++ (W.sats.map fun x => lineOf (satW x))) ++ (W.stas.map fun x => lineOf (staW x))) ++ (W.recs.map fun x => lineOf ((recW W.sn) x))) ++ (W.pass.map fun x => lineOf ((pasW W.sn W.tn) x))) = (worldW W).map lineOf := by
      unfold worldW restW
      simp [Function.comp_def]
    rw [ea] at hq0
    walk_at "sx"
    refine texts_gen (ls := (worldW W).map lineOf) (f := fun l => l ++ [10]) (by rw [List.length_map]; have := ok.many; omega) hq0 (fun l H2 k' hl s2 hk => ?_) fun D H' hD s2 hD' => ?_
    · refine ⟨rfl, ?_⟩
      obtain ⟨ws, hws, e⟩ := List.mem_map.mp hl
      have l1 : l.length ≤ 400 := by
        rw [← e]
        exact line_len (ok.lines ws hws)
      have l2 : (lit "\n").length ≤ 1 := by decide +kernel
      walk_at "sx"
      rw [lit_S]
      walk_at "sx"
      have e10 : lit "\n" = [10] := by decide +kernel
      rw [e10]
      exact hk
    refine x_joinE hD' S_empty ?_ ?_
    · rw [List.map_map, List.length_map, List.length_map]
      have z := sum_len ((worldW W).map lineOf) fun l hl => by
        obtain ⟨ws, hws, e⟩ := List.mem_map.mp hl
        rw [← e]
        exact line_len (ok.lines ws hws)
      have := ok.many
      rw [List.length_map, List.map_map] at z
      rw [List.map_map]
      simp only [List.length_nil, Nat.mul_zero]
      exact Nat.le_trans z (by omega)
    · rw [join_glue, ← textOf_glue]
      exact k _ (s0.trans s2)
end
end Dp
namespace Dp
open PySem PySem.Spec PyProof.Rows L2 SX
/-! ### a world is made of a draft -/
theorem wl5_0 (v0 v1 v2 v3 v4 : V) : List.lookup ("horizon" : Str) ([("horizon", v0), ("satellites", v1), ("stations", v2), ("recordings", v3), ("passes", v4)] : List (Str × V)) = some v0 := by kernel_rfl
theorem wl5_1 (v0 v1 v2 v3 v4 : V) : List.lookup ("satellites" : Str) ([("horizon", v0), ("satellites", v1), ("stations", v2), ("recordings", v3), ("passes", v4)] : List (Str × V)) = some v1 := by kernel_rfl
theorem wl5_2 (v0 v1 v2 v3 v4 : V) : List.lookup ("stations" : Str) ([("horizon", v0), ("satellites", v1), ("stations", v2), ("recordings", v3), ("passes", v4)] : List (Str × V)) = some v2 := by kernel_rfl
theorem wl5_3 (v0 v1 v2 v3 v4 : V) : List.lookup ("recordings" : Str) ([("horizon", v0), ("satellites", v1), ("stations", v2), ("recordings", v3), ("passes", v4)] : List (Str × V)) = some v3 := by kernel_rfl
theorem wl5_4 (v0 v1 v2 v3 v4 : V) : List.lookup ("passes" : Str) ([("horizon", v0), ("satellites", v1), ("stations", v2), ("recordings", v3), ("passes", v4)] : List (Str × V)) = some v4 := by kernel_rfl
theorem wl6_0 (v0 v1 v2 v3 v4 v5 : V) : List.lookup ("horizon" : Str) ([("horizon", v0), ("satellites", v1), ("stations", v2), ("recordings", v3), ("passes", v4), ("choices", v5)] : List (Str × V)) = some v0 := by kernel_rfl
theorem wl6_1 (v0 v1 v2 v3 v4 v5 : V) : List.lookup ("satellites" : Str) ([("horizon", v0), ("satellites", v1), ("stations", v2), ("recordings", v3), ("passes", v4), ("choices", v5)] : List (Str × V)) = some v1 := by kernel_rfl
theorem wl6_2 (v0 v1 v2 v3 v4 v5 : V) : List.lookup ("stations" : Str) ([("horizon", v0), ("satellites", v1), ("stations", v2), ("recordings", v3), ("passes", v4), ("choices", v5)] : List (Str × V)) = some v2 := by kernel_rfl
theorem wl6_3 (v0 v1 v2 v3 v4 v5 : V) : List.lookup ("recordings" : Str) ([("horizon", v0), ("satellites", v1), ("stations", v2), ("recordings", v3), ("passes", v4), ("choices", v5)] : List (Str × V)) = some v3 := by kernel_rfl
theorem wl6_4 (v0 v1 v2 v3 v4 v5 : V) : List.lookup ("passes" : Str) ([("horizon", v0), ("satellites", v1), ("stations", v2), ("recordings", v3), ("passes", v4), ("choices", v5)] : List (Str × V)) = some v4 := by kernel_rfl

/-- tuples stay, and objects but a bare one or a line -/
structure Ks (H H' : Hp) : Prop where
  tup : ∀ (a : Addr) (xs : List V), H a = some (.tup xs) → H' a = some (.tup xs)
  ins : ∀ (a C dx : Addr) (fs : List (Str × V)), H a = some (.ins C dx fs) → 0 < fs.length → fs.length ≠ 4 → H' a = some (.ins C dx fs)
theorem Ks.of {p C dx : Addr} {H H' : Hp} (s : Stay p H H') (h : H p = some (.ins C dx [])) : Ks H H' :=
  ⟨fun a xs e => s a _ e (ne_of e h (by intro q; cases q)), fun a C' d fs e n _ => s a _ e (ne_ins e h (Nat.ne_of_gt n))⟩
theorem Ks.ofO {q : Addr} {H H' : Hp} (k : KpO q H H') : Ks H H' := ⟨fun _ _ e => k.tup e, fun _ _ _ _ e _ n => k.ins e n⟩
theorem Ks.same {H H' : Hp} (s : Same H H') : Ks H H' := ⟨fun _ _ e => s _ _ e, fun _ _ _ _ e _ _ => s _ _ e⟩
theorem Ks.trans {H H' H2 : Hp} (a : Ks H H') (b : Ks H' H2) : Ks H H2 := ⟨fun x y e => b.tup x y (a.tup x y e), fun x y z w e n m => b.ins x y z w (a.ins x y z w e n m) n m⟩
theorem SatAt.ks {K : PySem.W.Frag} {a : Addr} {H H' : Hp} {s : Sat} (h : SatAt K H a s) (k : Ks H H') : SatAt K H' a s := by
  obtain ⟨dx, lt, ps, h1, h2, h3⟩ := h
  exact ⟨dx, lt, ps, k.ins _ _ _ _ h1 (by show 0 < 8; decide) (by show 8 ≠ 4; decide), k.tup _ _ h2, h3.1, fun i p z e1 e2 => k.tup _ _ (h3.2 i p z e1 e2)⟩
theorem StaAt.ks {K : PySem.W.Frag} {a : Addr} {H H' : Hp} {s : Sta} (h : StaAt K H a s) (k : Ks H H') : StaAt K H' a s := by
  obtain ⟨dx, h1⟩ := h
  exact ⟨dx, k.ins _ _ _ _ h1 (by show 0 < 3; decide) (by show 3 ≠ 4; decide)⟩
theorem RecAt.ks {K : PySem.W.Frag} {a : Addr} {H H' : Hp} {s : Rec} (h : RecAt K H a s) (k : Ks H H') : RecAt K H' a s := by
  obtain ⟨dx, h1⟩ := h
  exact ⟨dx, k.ins _ _ _ _ h1 (by show 0 < 10; decide) (by show 10 ≠ 4; decide)⟩
theorem PasAt.ks {K : PySem.W.Frag} {a : Addr} {H H' : Hp} {s : Pas} (h : PasAt K H a s) (k : Ks H H') : PasAt K H' a s := by
  obtain ⟨dx, sp, h1, h2⟩ := h
  exact ⟨dx, sp, k.ins _ _ _ _ h1 (by show 0 < 7; decide) (by show 7 ≠ 4; decide), k.tup _ _ h2⟩
/-- the draft at d: four lists of things -/
structure DAt (K : PySem.W.Frag) (H : Hp) (d dx l1 l2 l3 l4 : Addr) (sas tas ras pas : List Addr) (W : Wd) : Prop where
  o : H d = some (.ins (cDraft K) dx (fDraft (.int W.hor) (.ref l1) (.ref l2) (.ref l3) (.ref l4)))
  h1 : H l1 = some (.lst (sas.map V.ref))
  h2 : H l2 = some (.lst (tas.map V.ref))
  h3 : H l3 = some (.lst (ras.map V.ref))
  h4 : H l4 = some (.lst (pas.map V.ref))
  e1 : Each (SatAt K H) sas W.sats
  e2 : Each (StaAt K H) tas W.stas
  e3 : Each (RecAt K H) ras W.recs
  e4 : Each (PasAt K H) pas W.pass
/-- a world object with this text -/
def TxAt (K : PySem.W.Frag) (H : Hp) (a : Addr) (t : List Nat) : Prop := ∃ (dx : Addr) (fs : List (Str × V)), H a = some (.ins (cWorld K) dx fs) ∧ fs.lookup ("text" : Str) = some (.str (S t))
theorem TxAt.same {K : PySem.W.Frag} {a : Addr} {H H' : Hp} {t : List Nat} (h : TxAt K H a t) (s : Same H H') : TxAt K H' a t := by
  obtain ⟨dx, fs, h1, h2⟩ := h
  exact ⟨dx, fs, s _ _ h1, h2⟩
def spWorld (K : PySem.W.Frag) : Sp := fun vs H Q _ => ∃ (p dx d dd l1 l2 l3 l4 : Addr) (sas tas ras pas : List Addr) (W : Wd), vs = [.ref p, .ref d] ∧ H p = some (.ins (cWorld K) dx []) ∧ DAt K H d dd l1 l2 l3 l4 sas tas ras pas W ∧ WOk W ∧
  ∀ H' : Hp, TxAt K H' p (textOf W) → Stay p H H' → Q .non H'
def spWEq (K : PySem.W.Frag) : Sp := fun vs H Q _ => ∃ (a : Addr) (t : List Nat), TxAt K H a t ∧ ((∃ z, vs = [.ref a, .str z] ∧ Q (.bl false) H) ∨ ∃ (b : Addr) (t' : List Nat), vs = [.ref a, .ref b] ∧ TxAt K H b t' ∧ Q (.bl (decide (t = t'))) H)
section
variable {P : Program} {w : World} {K : PySem.W.Frag} {mg : Str → Option Value} {base : Heap}
theorem sc_World_eq : FnScope ["self", "other"] ["self", "other"] (defScope s_World_eq) := ⟨rfl, rfl, rfl, by decide +kernel, rfl, by decide +kernel, by decide +kernel⟩
theorem ok_World_eq (T : Tx K mg) : C8.Met P w K mg base 1 (cWorld K) "__eq__" (spWEq K) [] := by
  obtain ⟨fd, F⟩ := T.f_World_eq
  refine metOf F T.cls_World T.me_World_eq (F.bindsN (ps := ["self", "other"]) fun _ _ _ _ _ _ us hl => match us, hl with | [_, _], _ => rfl) sc_World_eq ?_ ?_
  · rintro vs H Q E ⟨a, t, _, ⟨z, rfl, _⟩ | ⟨b, t', rfl, _⟩⟩
    · rfl
    · rfl
  · rintro cdv A outer st H vs Q E hr ⟨a, t, ⟨dx, fs, g1, g2⟩, h⟩
    refine ⟨_, pss_one (ps_ret (pe_and (pe_callB call_isi (by rfl) T.free_isinstance (by decide +kernel) (pa_cons (pv 1) (pa_cons (pe_glob (v := .ref (cWorld K)) (by rfl) T.glo_World rfl) pa_nil))) (pe_one (pe_cmpR op_eq (pe_fld (pv 0) rfl) (pe_fld (pv 1) rfl) (nomark _))))), ?_⟩
    try dsimp only [cxK]
    have iw := T.insW
    rcases h with ⟨z, rfl, k⟩ | ⟨b, t', rfl, ⟨dy, gs, g3, g4⟩, k⟩
    · walk_at "sx"
      refine ⟨_, _, _, _, false, rfl, .own _, .base (.str z), iw.st, ?_⟩
      walk_at "sx"
      exact x_nay rfl k
    · walk_at "sx"
      refine ⟨_, _, _, _, true, rfl, .own _, .base (.ins g3 T.cls_World iw.ha iw.hn iw.htk iw.hm), iw.me, ?_⟩
      walk_at "sx"
      refine x_yes rfl ?_
      walk_at "sx"
      have e : decide (V.str (S t) = V.str (S t')) = decide (t = t') := decide_eq_decide.mpr ⟨fun q => S_inj (V.str.inj q), fun q => by rw [q]⟩
      rw [e]
      exact k
theorem sc_World_init : FnScope ["self", "draft", "number"] ["self", "draft"] (defScope s_World_init) := ⟨rfl, rfl, rfl, by decide +kernel, rfl, by decide +kernel, by decide +kernel⟩
theorem mk_World (T : Tx K mg) (k_found_options : C8.Cal P w K mg base 1 "found_options" (spFound K) []) (k_world_text : C8.Cal P w K mg base 2 "world_text" (spWorldText K) []) : C8.Mak P w K mg base 3 "World" (cWorld K) (spWorld K) [] := by
  obtain ⟨fd, F⟩ := T.f_World_init
  refine makOf F T.mkr_World T.glo_World (F.bindsN (ps := ["self", "draft"]) fun _ _ _ _ _ _ us hl => match us, hl with | [_, _], _ => rfl) sc_World_init ?_ ?_
  · rintro vs H Q E ⟨p, dx, d, dd, l1, l2, l3, l4, sas, tas, ras, pas, W, rfl, _⟩
    rfl
  · rintro cdv A outer st H vs Q E hr ⟨p, dx, d, dd, l1, l2, l3, l4, sas, tas, ras, pas, W, rfl, hp, D, ok, k⟩
    refine ⟨_, pss_cons (ps_fld (pv 0) (pe_fld (pv 1) rfl) rfl)
      (pss_cons (ps_fld (pv 0) (pe_callTy call_tuple_of (by rfl) T.free_tuple (by decide +kernel) (pa_cons (pe_fld (pv 1) rfl) pa_nil)) rfl)
      (pss_cons (ps_fld (pv 0) (pe_callTy call_tuple_of (by rfl) T.free_tuple (by decide +kernel) (pa_cons (pe_fld (pv 1) rfl) pa_nil)) rfl)
      (pss_cons (ps_fld (pv 0) (pe_callTy call_tuple_of (by rfl) T.free_tuple (by decide +kernel) (pa_cons (pe_fld (pv 1) rfl) pa_nil)) rfl)
      (pss_cons (ps_fld (pv 0) (pe_callTy call_tuple_of (by rfl) T.free_tuple (by decide +kernel) (pa_cons (pe_fld (pv 1) rfl) pa_nil)) rfl)
      (pss_cons (ps_fld (pv 0) (pe_callTy call_tuple_of (by rfl) T.free_tuple (by decide +kernel) (pa_cons (pe_lc (own := [("number", 2)]) (tt := tYes) rfl sc_World_init.nd (pi_range1 (by rfl) T.free_range (pa_cons (pe_callB call_len_seq (by rfl) T.free_len PySem.boot_len (pa_cons (pe_fld (pv 0) rfl) pa_nil)) pa_nil)) (blkOk_by (own := [("number", 2)]) (N := ["self", "draft", "number"]) (sc := defScope s_World_init) (by decide +kernel)) (fun _ _ _ _ _ => pg_name (i := 2) sc_World_init.nd rfl (Or.inl rfl)) (fun _ _ _ _ _ => pts_nil) (fun _ _ _ _ _ => C8.pe_c k_found_options hr (by decide) (by rfl) (pa_cons (pv 0) (pa_cons (pv 2) pa_nil)))) pa_nil)) rfl)
      (pss_one (ps_fld (pv 0) (C8.pe_c k_world_text hr (by decide) (by rfl) (pa_cons (pv 0) pa_nil)) rfl))))))), ?_⟩
    try dsimp only [cxK]
    obtain ⟨ho, h1, h2, h3, h4, e1, e2, e3, e4⟩ := D
    have ndp : d ≠ p := ne_ins ho hp (by show 5 ≠ 0; decide)
    have npd := ndp.symm
    have nl1 : l1 ≠ p := ne_of h1 hp (by intro q; cases q)
    have nl2 : l2 ≠ p := ne_of h2 hp (by intro q; cases q)
    have nl3 : l3 ≠ p := ne_of h3 hp (by intro q; cases q)
    have nl4 : l4 ≠ p := ne_of h4 hp (by intro q; cases q)
    walk_at "sx"
    intro t1 ht1
    have n1_p : p ≠ t1 := ne_of_none (by walk_at "hp") ht1
    have m1_p := n1_p.symm
    have n1_d : d ≠ t1 := ne_of_none (by walk_at "hp") ht1
    have n1_l1 : l1 ≠ t1 := ne_of_none (by walk_at "hp") ht1
    have n1_l2 : l2 ≠ t1 := ne_of_none (by walk_at "hp") ht1
    have n1_l3 : l3 ≠ t1 := ne_of_none (by walk_at "hp") ht1
    have n1_l4 : l4 ≠ t1 := ne_of_none (by walk_at "hp") ht1
    walk_at "sx"
    intro t2 ht2
    have n2_p : p ≠ t2 := ne_of_none (by walk_at "hp") ht2
    have m2_p := n2_p.symm
    have n2_d : d ≠ t2 := ne_of_none (by walk_at "hp") ht2
    have n2_l2 : l2 ≠ t2 := ne_of_none (by walk_at "hp") ht2
    have n2_l3 : l3 ≠ t2 := ne_of_none (by walk_at "hp") ht2
    have n2_l4 : l4 ≠ t2 := ne_of_none (by walk_at "hp") ht2
    have n2_t1 : t1 ≠ t2 := ne_of_none (by walk_at "hp") ht2
    have m2_t1 := n2_t1.symm
    walk_at "sx"
    intro t3 ht3
    have n3_p : p ≠ t3 := ne_of_none (by walk_at "hp") ht3
    have m3_p := n3_p.symm
    have n3_d : d ≠ t3 := ne_of_none (by walk_at "hp") ht3
    have n3_l3 : l3 ≠ t3 := ne_of_none (by walk_at "hp") ht3
    have n3_l4 : l4 ≠ t3 := ne_of_none (by walk_at "hp") ht3
    have n3_t1 : t1 ≠ t3 := ne_of_none (by walk_at "hp") ht3
    have m3_t1 := n3_t1.symm
    have n3_t2 : t2 ≠ t3 := ne_of_none (by walk_at "hp") ht3
    have m3_t2 := n3_t2.symm
    walk_at "sx"
    intro t4 ht4
    have n4_p : p ≠ t4 := ne_of_none (by walk_at "hp") ht4
    have m4_p := n4_p.symm
    have n4_d : d ≠ t4 := ne_of_none (by walk_at "hp") ht4
    have n4_l4 : l4 ≠ t4 := ne_of_none (by walk_at "hp") ht4
    have n4_t1 : t1 ≠ t4 := ne_of_none (by walk_at "hp") ht4
    have m4_t1 := n4_t1.symm
    have n4_t2 : t2 ≠ t4 := ne_of_none (by walk_at "hp") ht4
    have m4_t2 := n4_t2.symm
    have n4_t3 : t3 ≠ t4 := ne_of_none (by walk_at "hp") ht4
    have m4_t3 := n4_t3.symm
    walk_at "sx"
    have hp5 : (upd (upd (upd (upd (upd (upd (upd (upd (upd H p (HO.ins (cWorld K) dx [(("horizon" : Str), V.int W.hor)])) t1 (HO.tup (sas.map V.ref))) p (HO.ins (cWorld K) dx [(("horizon" : Str), V.int W.hor), (("satellites" : Str), V.ref t1)])) t2 (HO.tup (tas.map V.ref))) p (HO.ins (cWorld K) dx [(("horizon" : Str), V.int W.hor), (("satellites" : Str), V.ref t1), (("stations" : Str), V.ref t2)])) t3 (HO.tup (ras.map V.ref))) p (HO.ins (cWorld K) dx [(("horizon" : Str), V.int W.hor), (("satellites" : Str), V.ref t1), (("stations" : Str), V.ref t2), (("recordings" : Str), V.ref t3)])) t4 (HO.tup (pas.map V.ref))) p (HO.ins (cWorld K) dx (fDraft (V.int W.hor) (V.ref t1) (V.ref t2) (V.ref t3) (V.ref t4)))) p = some (HO.ins (cWorld K) dx [(("horizon" : Str), V.int W.hor), (("satellites" : Str), V.ref t1), (("stations" : Str), V.ref t2), (("recordings" : Str), V.ref t3), (("passes" : Str), V.ref t4)]) := upd_same
    have g1 : (upd (upd (upd (upd (upd (upd (upd (upd (upd H p (HO.ins (cWorld K) dx [(("horizon" : Str), V.int W.hor)])) t1 (HO.tup (sas.map V.ref))) p (HO.ins (cWorld K) dx [(("horizon" : Str), V.int W.hor), (("satellites" : Str), V.ref t1)])) t2 (HO.tup (tas.map V.ref))) p (HO.ins (cWorld K) dx [(("horizon" : Str), V.int W.hor), (("satellites" : Str), V.ref t1), (("stations" : Str), V.ref t2)])) t3 (HO.tup (ras.map V.ref))) p (HO.ins (cWorld K) dx [(("horizon" : Str), V.int W.hor), (("satellites" : Str), V.ref t1), (("stations" : Str), V.ref t2), (("recordings" : Str), V.ref t3)])) t4 (HO.tup (pas.map V.ref))) p (HO.ins (cWorld K) dx (fDraft (V.int W.hor) (V.ref t1) (V.ref t2) (V.ref t3) (V.ref t4)))) t1 = some (.tup (sas.map V.ref)) := by walk_at "hp"
    have g2 : (upd (upd (upd (upd (upd (upd (upd (upd (upd H p (HO.ins (cWorld K) dx [(("horizon" : Str), V.int W.hor)])) t1 (HO.tup (sas.map V.ref))) p (HO.ins (cWorld K) dx [(("horizon" : Str), V.int W.hor), (("satellites" : Str), V.ref t1)])) t2 (HO.tup (tas.map V.ref))) p (HO.ins (cWorld K) dx [(("horizon" : Str), V.int W.hor), (("satellites" : Str), V.ref t1), (("stations" : Str), V.ref t2)])) t3 (HO.tup (ras.map V.ref))) p (HO.ins (cWorld K) dx [(("horizon" : Str), V.int W.hor), (("satellites" : Str), V.ref t1), (("stations" : Str), V.ref t2), (("recordings" : Str), V.ref t3)])) t4 (HO.tup (pas.map V.ref))) p (HO.ins (cWorld K) dx (fDraft (V.int W.hor) (V.ref t1) (V.ref t2) (V.ref t3) (V.ref t4)))) t2 = some (.tup (tas.map V.ref)) := by walk_at "hp"
    have g3 : (upd (upd (upd (upd (upd (upd (upd (upd (upd H p (HO.ins (cWorld K) dx [(("horizon" : Str), V.int W.hor)])) t1 (HO.tup (sas.map V.ref))) p (HO.ins (cWorld K) dx [(("horizon" : Str), V.int W.hor), (("satellites" : Str), V.ref t1)])) t2 (HO.tup (tas.map V.ref))) p (HO.ins (cWorld K) dx [(("horizon" : Str), V.int W.hor), (("satellites" : Str), V.ref t1), (("stations" : Str), V.ref t2)])) t3 (HO.tup (ras.map V.ref))) p (HO.ins (cWorld K) dx [(("horizon" : Str), V.int W.hor), (("satellites" : Str), V.ref t1), (("stations" : Str), V.ref t2), (("recordings" : Str), V.ref t3)])) t4 (HO.tup (pas.map V.ref))) p (HO.ins (cWorld K) dx (fDraft (V.int W.hor) (V.ref t1) (V.ref t2) (V.ref t3) (V.ref t4)))) t3 = some (.tup (ras.map V.ref)) := by walk_at "hp"
    have g4 : (upd (upd (upd (upd (upd (upd (upd (upd (upd H p (HO.ins (cWorld K) dx [(("horizon" : Str), V.int W.hor)])) t1 (HO.tup (sas.map V.ref))) p (HO.ins (cWorld K) dx [(("horizon" : Str), V.int W.hor), (("satellites" : Str), V.ref t1)])) t2 (HO.tup (tas.map V.ref))) p (HO.ins (cWorld K) dx [(("horizon" : Str), V.int W.hor), (("satellites" : Str), V.ref t1), (("stations" : Str), V.ref t2)])) t3 (HO.tup (ras.map V.ref))) p (HO.ins (cWorld K) dx [(("horizon" : Str), V.int W.hor), (("satellites" : Str), V.ref t1), (("stations" : Str), V.ref t2), (("recordings" : Str), V.ref t3)])) t4 (HO.tup (pas.map V.ref))) p (HO.ins (cWorld K) dx (fDraft (V.int W.hor) (V.ref t1) (V.ref t2) (V.ref t3) (V.ref t4)))) t4 = some (.tup (pas.map V.ref)) := by walk_at "hp"
    have c1 : H t1 = none := by
      rw [upd_ne m1_p] at ht1
      exact ht1
    have c2 : H t2 = none := by
      rw [upd_ne m2_p, upd_ne m2_t1, upd_ne m2_p] at ht2
      exact ht2
    have c3 : H t3 = none := by
      rw [upd_ne m3_p, upd_ne m3_t2, upd_ne m3_p, upd_ne m3_t1, upd_ne m3_p] at ht3
      exact ht3
    have c4 : H t4 = none := by
      rw [upd_ne m4_p, upd_ne m4_t3, upd_ne m4_p, upd_ne m4_t2, upd_ne m4_p, upd_ne m4_t1, upd_ne m4_p] at ht4
      exact ht4
    have s5 : Stay p H (upd (upd (upd (upd (upd (upd (upd (upd (upd H p (HO.ins (cWorld K) dx [(("horizon" : Str), V.int W.hor)])) t1 (HO.tup (sas.map V.ref))) p (HO.ins (cWorld K) dx [(("horizon" : Str), V.int W.hor), (("satellites" : Str), V.ref t1)])) t2 (HO.tup (tas.map V.ref))) p (HO.ins (cWorld K) dx [(("horizon" : Str), V.int W.hor), (("satellites" : Str), V.ref t1), (("stations" : Str), V.ref t2)])) t3 (HO.tup (ras.map V.ref))) p (HO.ins (cWorld K) dx [(("horizon" : Str), V.int W.hor), (("satellites" : Str), V.ref t1), (("stations" : Str), V.ref t2), (("recordings" : Str), V.ref t3)])) t4 (HO.tup (pas.map V.ref))) p (HO.ins (cWorld K) dx (fDraft (V.int W.hor) (V.ref t1) (V.ref t2) (V.ref t3) (V.ref t4)))) := fun b o e hb => by
      have q1 := ne_of_none e c1
      have q2 := ne_of_none e c2
      have q3 := ne_of_none e c3
      have q4 := ne_of_none e c4
      walk_at "hp"
    walk_at "sx"
    refine x_rng1E (by omega) (by rw [List.length_map]; have := e3.1; have := ok.nrec; omega) ?_
    intro D
    generalize upd (upd (upd (upd (upd (upd (upd (upd (upd H p (HO.ins (cWorld K) dx [(("horizon" : Str), V.int W.hor)])) t1 (HO.tup (sas.map V.ref))) p (HO.ins (cWorld K) dx [(("horizon" : Str), V.int W.hor), (("satellites" : Str), V.ref t1)])) t2 (HO.tup (tas.map V.ref))) p (HO.ins (cWorld K) dx [(("horizon" : Str), V.int W.hor), (("satellites" : Str), V.ref t1), (("stations" : Str), V.ref t2)])) t3 (HO.tup (ras.map V.ref))) p (HO.ins (cWorld K) dx [(("horizon" : Str), V.int W.hor), (("satellites" : Str), V.ref t1), (("stations" : Str), V.ref t2), (("recordings" : Str), V.ref t3)])) t4 (HO.tup (pas.map V.ref))) p (HO.ins (cWorld K) dx (fDraft (V.int W.hor) (V.ref t1) (V.ref t2) (V.ref t3) (V.ref t4))) = H5 at hp5 g1 g2 g3 g4 s5 ⊢
    intro hD
    have ks := Ks.of s5 hp
    have w5 : ∀ (H' : Hp) (fs : List (Str × V)), Ks H H' → (∀ (a : Addr) (xs : List V), H5 a = some (.tup xs) → H' a = some (.tup xs)) → H' p = some (HO.ins (cWorld K) dx fs) → fs.lookup ("horizon" : Str) = some (V.int W.hor) → fs.lookup ("satellites" : Str) = some (V.ref t1) → fs.lookup ("stations" : Str) = some (V.ref t2) →
        fs.lookup ("recordings" : Str) = some (V.ref t3) → fs.lookup ("passes" : Str) = some (V.ref t4) → WAt K H' p W := fun H' fs ks kt a0 a1 a2 a3 a4 a5 =>
      ⟨dx, t1, t2, t3, t4, fs, sas, tas, ras, pas, a0, a1, a2, a3, a4, a5, kt _ _ g1, kt _ _ g2, kt _ _ g3, kt _ _ g4, e1.mono fun _ _ z => z.ks ks, e2.mono fun _ _ z => z.ks ks,
        e3.mono fun _ _ z => z.ks ks, e4.mono fun _ _ z => z.ks ks⟩
    have npD : p ≠ D := ne_of_none hp5 hD
    refine lc_gen (walk_range (lo := 0) (n := (((ras.map V.ref).length : Nat) : Int).toNat)) (by rw [List.length_map, Int.toNat_natCast]; have := e3.1; have := ok.nrec; omega) hD noX (fun _ => True) (fun _ _ _ => True) (fun z => z) (fun _ _ _ _ _ _ => trivial) trivial (fun _ _ _ => trivial) y_fn ?_ ?_ (gm_name 2)
    · rintro i x H2 H3 k' hi kp _ _ ⟨rfl, rfl⟩ hk
      rw [List.length_map, Int.toNat_natCast, e3.1] at hi
      refine ⟨rfl, ?_⟩
      walk_at "sx"
      have s6 := (same_kp kp).trans rm_same
      refine ⟨p, W, i, by simp, w5 _ _ (ks.trans (Ks.same s6)) (fun _ _ e => s6 _ _ e) (s6 _ _ hp5) (wl5_0 _ _ _ _ _) (wl5_1 _ _ _ _ _) (wl5_2 _ _ _ _ _) (wl5_3 _ _ _ _ _) (wl5_4 _ _ _ _ _), ok, hi, fun H4 t s7 => hk _ _ (kp_same s7) trivial trivial⟩
    · rintro ys H2 hlen hD' _ kp _
      have s6 := (same_kp kp).trans rm_same
      have hp6 := s6 _ _ hp5
      walk_at "sx"
      intro c hc
      have npc : p ≠ c := ne_of_none hp6 hc
      walk_at "sx"
      have k6 : Stay p H2 (upd (upd H2 c (.tup ys)) p (HO.ins (cWorld K) dx [(("horizon" : Str), V.int W.hor), (("satellites" : Str), V.ref t1), (("stations" : Str), V.ref t2), (("recordings" : Str), V.ref t3), (("passes" : Str), V.ref t4), (("choices" : Str), V.ref c)])) := fun b o e hb => by
        have q1 := ne_of_none e hc
        walk_at "hp"
      have kt := fun (a : Addr) (xs : List V) (e : H5 a = some (.tup xs)) => k6 _ _ (s6 _ _ e) (ne_of e hp5 (by intro q; cases q))
      refine ⟨p, W, rfl, w5 _ _ (Ks.of (p := p) (fun b o e hb => k6 _ _ (s6 _ _ (s5 b o e hb)) hb) hp) kt upd_same (wl6_0 _ _ _ _ _ _) (wl6_1 _ _ _ _ _ _) (wl6_2 _ _ _ _ _ _) (wl6_3 _ _ _ _ _ _) (wl6_4 _ _ _ _ _ _), ok, fun H7 s7 => ?_⟩
      have hp7 := s7 _ _ (upd_same (H := upd H2 c (.tup ys)) (a := p))
      walk_at "sx"
      refine k _ ⟨dx, _, upd_same, lk_World_text _ _ _ _ _ _ _⟩ fun b o e hb => ?_
      rw [upd_ne hb]
      exact s7 _ _ (k6 _ _ (s6 _ _ (s5 b o e hb)) hb)
end
end Dp
namespace Dp
open PySem PySem.Spec PyProof.Rows L2 SX
/-! ### lines are read -/
def leastAt : Int → List (Int × Int) → Nat → Int
  | m, _, 0 => m
  | m, [], _ => m
  | _, p :: r, j + 1 => leastAt p.2 r j
theorem leastAt_zero (m : Int) (l : List (Int × Int)) : leastAt m l 0 = m := by
  cases l
  · rfl
  · rfl
theorem light_step {hor : Int} : ∀ {l : List (Int × Int)} {m : Int} {j : Nat} {p : Int × Int}, LightOk hor m l → l[j]? = some p → leastAt m l j ≤ p.1 ∧ p.1 < p.2 ∧ p.2 ≤ hor ∧ leastAt m l (j + 1) = p.2
  | [], _, _, _, _, e => by simp at e
  | q :: r, m, 0, p, h, e => by
    have e := Option.some.inj e
    subst e
    obtain ⟨h1, h2, h3, h4⟩ := h
    refine ⟨h1, h2, h3, ?_⟩
    show leastAt q.2 r 0 = q.2
    cases r
    · rfl
    · rfl
  | q :: r, m, j + 1, p, h, e => light_step (l := r) (m := q.2) (j := j) h.2.2.2 e
theorem lightW_at : ∀ {l : List (Int × Int)} {j : Nat} {p : Int × Int}, l[j]? = some p → (lightW l)[2 * j]? = some (num p.1) ∧ (lightW l)[2 * j + 1]? = some (num p.2)
  | [], _, _, e => by simp at e
  | q :: r, 0, p, e => by
    have e := Option.some.inj e
    subst e
    exact ⟨rfl, rfl⟩
  | q :: r, j + 1, p, e => by
    have z := lightW_at (l := r) (j := j) e
    have e1 : 2 * (j + 1) = 2 * j + 1 + 1 := by omega
    rw [e1]
    exact z
theorem satW_at {s : Sat} {j : Nat} {p : Int × Int} (h : s.light[j]? = some p) : (satW s)[15 + 2 * j]? = some (num p.1) ∧ (satW s)[15 + 2 * j + 1]? = some (num p.2) := by
  obtain ⟨h1, h2⟩ := lightW_at h
  unfold satW
  constructor
  · rw [List.getElem?_append_right (by show 15 ≤ _; omega)]
    rw [← h1]
    congr 1
    show 15 + 2 * j - 15 = _
    omega
  · rw [List.getElem?_append_right (by show 15 ≤ _; omega)]
    rw [← h2]
    congr 1
    show 15 + 2 * j + 1 - 15 = _
    omega
theorem satW_len (s : Sat) : (satW s).length = 15 + 2 * s.light.length := by
  unfold satW
  rw [List.length_append, lightW_len]
  rfl
theorem LightAt.up {H H' : Hp} {ps : List Addr} {l : List (Int × Int)} (h : LightAt H ps l) (k : ∀ (a : Addr) (xs : List V), H a = some (.tup xs) → H' a = some (.tup xs)) : LightAt H' ps l := ⟨h.1, fun i p q e1 e2 => k _ _ (h.2 i p q e1 e2)⟩
theorem LightAt.snoc {H : Hp} {ps : List Addr} {l : List (Int × Int)} {t : Addr} {p : Int × Int} (h : LightAt H ps l) (ht : H t = some (.tup [.int p.1, .int p.2])) : LightAt H (ps ++ [t]) (l ++ [p]) := by
  refine ⟨by rw [List.length_append, List.length_append, h.1]; rfl, fun i a q e1 e2 => ?_⟩
  by_cases hi : i < ps.length
  · rw [List.getElem?_append_left hi] at e1
    rw [List.getElem?_append_left (by rw [← h.1]; exact hi)] at e2
    exact h.2 i a q e1 e2
  · have z := (List.getElem?_eq_some_iff.mp e1).1
    rw [List.length_append, List.length_singleton] at z
    have ei : i = ps.length := by omega
    subst ei
    rw [List.getElem?_append_right (Nat.le_refl _), Nat.sub_self] at e1
    rw [List.getElem?_append_right (by rw [h.1]; exact Nat.le_refl _), h.1, Nat.sub_self] at e2
    have e1 := Option.some.inj e1
    have e2 := Option.some.inj e2
    rw [← e1, ← e2]
    exact ht
theorem Stay.trans {p : Addr} {H H' H2 : Hp} (a : Stay p H H') (b : Stay p H' H2) : Stay p H H2 := fun x o e n => b x o (a x o e n) n
theorem Stay.same {p : Addr} {H H' : Hp} (s : Same H H') : Stay p H H' := fun x o e _ => s x o e
/-- all but l's object is as it was: tuples too -/
theorem stay_tup {K : PySem.W.Frag} {l : Addr} {H H' : Hp} {ws : List (List Nat)} {i : Nat} (s : Stay l H H') (h : LnAt K H l ws i) : ∀ (a : Addr) (xs : List V), H a = some (.tup xs) → H' a = some (.tup xs) := by
  obtain ⟨dx, lw, nu, co, h1, h2⟩ := h
  exact fun a xs e => s a _ e (ne_of e h1 (by intro q; cases q))
theorem stay_made {p dx : Addr} {H H' : Hp} {o1 o2 : HO} (hp : H p = none) (hdx : H dx = none) (s : Stay p (upd (upd H dx o1) p o2) H') : Same H H' := fun b o e => by
  have n1 := ne_of_none e hp
  have n2 := ne_of_none e hdx
  refine s b o ?_ n1
  rw [upd_ne n1, upd_ne n2]
  exact e
theorem LnSt.free {K : PySem.W.Frag} {a q : Addr} {ws : List (List Nat)} {i : Nat} {H0 H : Hp} (h : LnSt K a ws i H0 H) (hq : H q = none) : H0 q = none := by
  cases e : H0 q with
  | none => rfl
  | some o =>
    by_cases n : q = a
    · subst n
      obtain ⟨_, _, _, _, z, _⟩ := h.at_
      rw [hq] at z
      cases z
    · rw [h.keep _ _ e n] at hq
      cases hq
theorem txts_ne {ws : List (List Nat)} {as : List Addr} (h : ws ≠ []) : txts ws ≠ as.map V.ref := by
  cases ws with
  | nil => exact absurd rfl h
  | cons w r =>
    cases as with
    | nil => intro q; cases q
    | cons a t => intro q; injection q with q _; cases q
theorem LnSt.mut {K : PySem.W.Frag} {a q : Addr} {ws : List (List Nat)} {i : Nat} {H0 H : Hp} {ps : List Addr} {xs : List V} (h : LnSt K a ws i H0 H) (h0 : H0 q = none) (hq : H q = some (.lst (ps.map V.ref))) (hw : ws ≠ []) : LnSt K a ws i H0 (upd H q (.lst xs)) := by
  obtain ⟨⟨dx, l, nu, co, h1, h2⟩, k⟩ := h
  refine ⟨⟨dx, l, nu, co, ?_, ?_⟩, fun b o e n => ?_⟩
  · rw [upd_ne (ne_of h1 hq (by intro q; cases q))]
    exact h1
  · rw [upd_ne (ne_of h2 hq (by intro q; injection q with q; exact txts_ne hw q))]
    exact h2
  · rw [upd_ne (ne_of_none e h0)]
    exact k b o e n
theorem kpO_line {K : PySem.W.Frag} {l : Addr} {H H' : Hp} {ws : List (List Nat)} {i : Nat} (h : LnAt K H l ws i) (s : ∀ b o, H b = some o → b ≠ l → H' b = some o) : KpO l H H' := by
  obtain ⟨dx, lw, nu, co, h1, h2⟩ := h
  refine ⟨s, fun o e => ?_⟩
  rw [h1] at e
  have e := Option.some.inj e
  subst e
  exact odd_line _ _ _ _ _ _
theorem named_sats {K : PySem.W.Frag} {mg : Str → Option Value} (T : Tx K mg) {H : Hp} {as : List Addr} {ss : List Sat} (e : Each (SatAt K H) as ss) : ∀ (i : Nat) (a : Addr) (n : List Nat), as[i]? = some a → (ss.map (·.name))[i]? = some n → Named K H a n := by
  intro i a n h1 h2
  rw [List.getElem?_map] at h2
  cases e1 : ss[i]? with
  | none =>
    rw [e1] at h2
    cases h2
  | some s =>
    rw [e1] at h2
    have h2 := Option.some.inj h2
    subst h2
    obtain ⟨dx, lt, ps, g1, _⟩ := e.2 i a s h1 e1
    exact ⟨_, _, _, g1, T.cls_Satellite, T.no_Satellite_name, lk_Satellite_name _ _ _ _ _ _ _ _⟩
theorem named_stas {K : PySem.W.Frag} {mg : Str → Option Value} (T : Tx K mg) {H : Hp} {as : List Addr} {ss : List Sta} (e : Each (StaAt K H) as ss) : ∀ (i : Nat) (a : Addr) (n : List Nat), as[i]? = some a → (ss.map (·.name))[i]? = some n → Named K H a n := by
  intro i a n h1 h2
  rw [List.getElem?_map] at h2
  cases e1 : ss[i]? with
  | none =>
    rw [e1] at h2
    cases h2
  | some s =>
    rw [e1] at h2
    have h2 := Option.some.inj h2
    subst h2
    obtain ⟨dx, g1⟩ := e.2 i a s h1 e1
    exact ⟨_, _, _, g1, T.cls_Station, T.no_Station_name, lk_Station_name _ _ _⟩
theorem getD_some {l : List (List Nat)} {i : Nat} (h : i < l.length) : l[i]? = some (l.getD i []) := by
  rw [List.getD_eq_getElem?_getD, List.getElem?_eq_getElem h]
  rfl
def spReadSat (K : PySem.W.Frag) : Sp := fun vs H Q _ => ∃ (d l dd : Addr) (v1 v2 v3 v4 : V) (hor : Int) (s : Sat), vs = [.ref d, .ref l, .str (S s.name)] ∧ H d = some (.ins (cDraft K) dd (fDraft (.int hor) v1 v2 v3 v4)) ∧ 1 ≤ hor ∧ hor ≤ 500 ∧ SatOk hor s ∧
  LnAt K H l (satW s) 2 ∧ ∀ (H' : Hp) (a : Addr), LnAt K H' l (satW s) (satW s).length → Stay l H H' → SatAt K H' a s → Q (.ref a) H'
def spReadRec (K : PySem.W.Frag) : Sp := fun vs H Q _ => ∃ (d l dd l1 : Addr) (v2 v3 v4 : V) (sas : List Addr) (hor : Int) (ss : List Sat) (r : Rec), vs = [.ref d, .ref l, .str (S r.name)] ∧ H d = some (.ins (cDraft K) dd (fDraft (.int hor) (.ref l1) v2 v3 v4)) ∧ 1 ≤ hor ∧ hor ≤ 500 ∧
  H l1 = some (.lst (sas.map V.ref)) ∧ Each (SatAt K H) sas ss ∧ ss.length ≤ 3 ∧ (∀ s ∈ ss, NameOk s.name) ∧ (ss.map (·.name)).Nodup ∧ RecOk hor ss.length r ∧
  LnAt K H l (recW (ss.map (·.name)) r) 2 ∧ ∀ (H' : Hp) (a : Addr), LnAt K H' l (recW (ss.map (·.name)) r) 20 → Stay l H H' → RecAt K H' a r → Q (.ref a) H'
def spReadPas (K : PySem.W.Frag) : Sp := fun vs H Q _ => ∃ (d l dd l1 l2 : Addr) (v3 v4 : V) (sas tas : List Addr) (hor : Int) (ss : List Sat) (tt : List Sta) (r : Pas), vs = [.ref d, .ref l, .str (S r.name)] ∧ H d = some (.ins (cDraft K) dd (fDraft (.int hor) (.ref l1) (.ref l2) v3 v4)) ∧
  1 ≤ hor ∧ hor ≤ 500 ∧ H l1 = some (.lst (sas.map V.ref)) ∧ Each (SatAt K H) sas ss ∧ ss.length ≤ 3 ∧ (∀ s ∈ ss, NameOk s.name) ∧ (ss.map (·.name)).Nodup ∧ H l2 = some (.lst (tas.map V.ref)) ∧ Each (StaAt K H) tas tt ∧ tt.length ≤ 3 ∧ (∀ s ∈ tt, NameOk s.name) ∧
  (tt.map (·.name)).Nodup ∧ PasOk hor ss.length tt.length r ∧
  LnAt K H l (pasW (ss.map (·.name)) (tt.map (·.name)) r) 2 ∧ ∀ (H' : Hp) (a : Addr), LnAt K H' l (pasW (ss.map (·.name)) (tt.map (·.name)) r) 16 → Stay l H H' → PasAt K H' a r → Q (.ref a) H'
section
variable {P : Program} {w : World} {K : PySem.W.Frag} {mg : Str → Option Value} {base : Heap}
theorem sc_read_satellite : FnScope ["world", "line", "name", "store", "battery", "level", "reserve", "charge", "settle", "light", "least", "first"] ["world", "line", "name"] (defScope s_read_satellite) := ⟨rfl, rfl, rfl, by decide +kernel, rfl, by decide +kernel, by decide +kernel⟩
theorem ok_read_satellite (T : Tx K mg) (k_Line_take_field : C8.Met P w K mg base 4 (cLine K) "take_field" (spTakeField K) []) (k_Line_take_number : C8.Met P w K mg base 3 (cLine K) "take_number" (spTakeNumber K) []) (k_Line_expect : C8.Met P w K mg base 3 (cLine K) "expect" (spExpect K) []) (k_Line_at_end : C8.Met P w K mg base 1 (cLine K) "at_end" (spAtEnd K) []) (k_Satellite : C8.Mak P w K mg base 1 "Satellite" (cSatellite K) (spSat K) []) : C8.Cal P w K mg base 5 "read_satellite" (spReadSat K) [] := by
  obtain ⟨fd, F⟩ := T.f_read_satellite
  refine calOf F T.glo_read_satellite (F.bindsN (ps := ["world", "line", "name"]) fun _ _ _ _ _ _ us hl => match us, hl with | [_, _, _], _ => rfl) sc_read_satellite ?_ ?_
  · rintro vs H Q E ⟨d, l, dd, v1, v2, v3, v4, hor, s, rfl, _⟩
    rfl
  · rintro cdv A outer st H vs Q E hr ⟨d, l, dd, v1, v2, v3, v4, hor, s, rfl, ho, hh1, hh, ok, hl, k⟩
    refine ⟨_, pss_cons (ps_set (i := 3) sc_read_satellite.nd rfl (Or.inl rfl) (C8.pe_mt k_Line_take_field hr (by decide) (pv 1) (pa_cons (pe_str) (pa_cons (pe_int) (pa_cons (C8.pe_gc (by rfl) T.int_MOST) pa_nil)))))
      (pss_cons (ps_set (i := 4) sc_read_satellite.nd rfl (Or.inl rfl) (C8.pe_mt k_Line_take_field hr (by decide) (pv 1) (pa_cons (pe_str) (pa_cons (pe_int) (pa_cons (C8.pe_gc (by rfl) T.int_MOST) pa_nil)))))
      (pss_cons (ps_set (i := 5) sc_read_satellite.nd rfl (Or.inl rfl) (C8.pe_mt k_Line_take_field hr (by decide) (pv 1) (pa_cons (pe_str) (pa_cons (pe_int) (pa_cons (pv 4) pa_nil)))))
      (pss_cons (ps_set (i := 6) sc_read_satellite.nd rfl (Or.inl rfl) (C8.pe_mt k_Line_take_field hr (by decide) (pv 1) (pa_cons (pe_str) (pa_cons (pe_int) (pa_cons (pv 5) pa_nil)))))
      (pss_cons (ps_set (i := 7) sc_read_satellite.nd rfl (Or.inl rfl) (C8.pe_mt k_Line_take_field hr (by decide) (pv 1) (pa_cons (pe_str) (pa_cons (pe_int) (pa_cons (pe_int) pa_nil)))))
      (pss_cons (ps_set (i := 8) sc_read_satellite.nd rfl (Or.inl rfl) (C8.pe_mt k_Line_take_field hr (by decide) (pv 1) (pa_cons (pe_str) (pa_cons (pe_int) (pa_cons (pe_int) pa_nil)))))
      (pss_cons (ps_expr (C8.pe_mt k_Line_expect hr (by decide) (pv 1) (pa_cons (pe_str) pa_nil)))
      (pss_cons (ps_set (i := 9) sc_read_satellite.nd rfl (Or.inl rfl) (pe_lst (pa_nil)))
      (pss_cons (ps_set (i := 10) sc_read_satellite.nd rfl (Or.inl rfl) (pe_int))
      (pss_cons (ps_while PassesOwn.never (pt_not (pt_val (C8.pe_mt0 k_Line_at_end hr (by decide) (pv 1))))
        (pss_cons (ps_set (i := 11) sc_read_satellite.nd rfl (Or.inl rfl) (C8.pe_mt k_Line_take_number hr (by decide) (pv 1) (pa_cons (pv 10) (pa_cons (pe_op op_sub (pe_fld (pv 0) rfl) (pe_int)) pa_nil))))
        (pss_cons (ps_set (i := 10) sc_read_satellite.nd rfl (Or.inl rfl) (C8.pe_mt k_Line_take_number hr (by decide) (pv 1) (pa_cons (pe_op op_add (pv 11) (pe_int)) (pa_cons (pe_fld (pv 0) rfl) pa_nil))))
        (pss_one (ps_expr (pe_bm PySem.F.plainAttrs_list PySem.F.slot_list_append PySem.F.type_list_append mt_append (pv 9) (pa_cons (pe_tup (pa_cons (pv 11) (pa_cons (pv 10) pa_nil))) pa_nil)))))))
      (pss_one (ps_ret (C8.pe_mk k_Satellite hr (by decide) (by rfl) (pa_cons (pv 2) (pa_cons (pv 3) (pa_cons (pe_tup (pa_cons (pv 4) (pa_cons (pv 5) (pa_cons (pv 6) pa_nil)))) (pa_cons (pv 7) (pa_cons (pv 8) (pa_cons (pe_callTy call_tuple_of (by rfl) T.free_tuple (by decide +kernel) (pa_cons (pv 9) pa_nil)) pa_nil)))))))))))))))))), ?_⟩
    try dsimp only [cxK]
    obtain ⟨o1, o2, o3, o4, o5, o6, o7, o8, o9⟩ := id ok
    have L0 := LnSt.refl hl
    have nd : d ≠ l := by
      obtain ⟨_, _, _, _, z, _⟩ := hl
      exact ne_ins ho z (by show 5 ≠ 4; decide)
    obtain ⟨dx0, lw0, nu0, co0, q0, r0⟩ := L0.at_
    walk_at "sx"
    refine ⟨l, _, 2, _, lit "store", s.store, _, _, H, rfl, lit_S _, L0, rfl, lok _, rfl, by omega, by omega, by omega, by omega, fun H1 L1 => ?_⟩
    obtain ⟨dx1, lw1, nu1, co1, q1, r1⟩ := L1.at_
    have ho1 := L1.keep _ _ ho nd
    walk_at "sx"
    refine ⟨l, _, 4, _, lit "battery", s.battery, _, _, H, rfl, lit_S _, L1, rfl, lok _, rfl, by omega, by omega, by omega, by omega, fun H2 L2 => ?_⟩
    obtain ⟨dx2, lw2, nu2, co2, q2, r2⟩ := L2.at_
    have ho2 := L2.keep _ _ ho nd
    walk_at "sx"
    refine ⟨l, _, 6, _, lit "level", s.level, _, _, H, rfl, lit_S _, L2, rfl, lok _, rfl, by omega, by omega, by omega, by omega, fun H3 L3 => ?_⟩
    obtain ⟨dx3, lw3, nu3, co3, q3, r3⟩ := L3.at_
    have ho3 := L3.keep _ _ ho nd
    walk_at "sx"
    refine ⟨l, _, 8, _, lit "reserve", s.reserve, _, _, H, rfl, lit_S _, L3, rfl, lok _, rfl, by omega, by omega, by omega, by omega, fun H4 L4 => ?_⟩
    obtain ⟨dx4, lw4, nu4, co4, q4, r4⟩ := L4.at_
    have ho4 := L4.keep _ _ ho nd
    walk_at "sx"
    refine ⟨l, _, 10, _, lit "charge", s.charge, _, _, H, rfl, lit_S _, L4, rfl, lok _, rfl, by omega, by omega, by omega, by omega, fun H5 L5 => ?_⟩
    obtain ⟨dx5, lw5, nu5, co5, q5, r5⟩ := L5.at_
    have ho5 := L5.keep _ _ ho nd
    walk_at "sx"
    refine ⟨l, _, 12, _, lit "settle", s.settle, _, _, H, rfl, lit_S _, L5, rfl, lok _, rfl, by omega, by omega, by omega, by omega, fun H6 L6 => ?_⟩
    obtain ⟨dx6, lw6, nu6, co6, q6, r6⟩ := L6.at_
    have ho6 := L6.keep _ _ ho nd
    walk_at "sx"
    refine ⟨l, _, 14, _, lit "light", H, rfl, lit_S _, L6, rfl, lok _, fun H7 L7 => ?_⟩
    obtain ⟨dx7, lw7, nu7, co7, q7, r7⟩ := L7.at_
    have ho7 := L7.keep _ _ ho nd
    walk_at "sx"
    refine ⟨Nat.zero_le _, fun q hq => ?_⟩
    have hq0 : H q = none := L7.free hq
    walk_at "sx"
    refine ⟨fun m σ H' => ∃ (j : Nat) (v11 : Option V) (ps : List Addr), m + j = s.light.length ∧ LnSt K l (satW s) (15 + 2 * j) H H' ∧ H' q = some (.lst (ps.map V.ref)) ∧ LightAt H' ps (s.light.take j) ∧
      σ = [some (.ref d), some (.ref l), some (.str (S s.name)), some (.int s.store), some (.int s.battery), some (.int s.level), some (.int s.reserve), some (.int s.charge), some (.int s.settle), some (.ref q), some (.int (leastAt 0 s.light j)), v11],
      ⟨s.light.length, 0, none, [], rfl, L7.same (same_upd (Same.refl _) hq), upd_same, ⟨rfl, fun i p z e1 _ => by simp at e1⟩, by rw [leastAt_zero]; rfl⟩, ?_⟩
    rintro m σ Ha ⟨j, v11, ps, hm, La, hqa, hla, rfl⟩
    obtain ⟨dxa, lwa, nua, coa, qa, ra⟩ := La.at_
    have hoa := La.keep _ _ ho nd
    walk_at "sx"
    refine ⟨l, _, _, rfl, La.at_, ?_⟩
    walk_at "sx"
    refine x_both (fun hb => ?_) fun hb => ?_
    · have hj : j < s.light.length := by
        have z := of_decide_eq_false ((Bool.not_eq_true' _).mp hb)
        rw [satW_len] at z
        omega
      obtain ⟨p, hp⟩ : ∃ p, s.light[j]? = some p := ⟨s.light[j], List.getElem?_eq_getElem hj⟩
      obtain ⟨w1, w2⟩ := satW_at hp
      obtain ⟨z1, z2, z3, z4⟩ := light_step o8 hp
      have hr0 := light_rng hh (Int.le_refl 0) o8 p (List.mem_of_getElem? hp)
      refine ⟨_, fun _ _ h => h, ?_⟩
      walk_at "sx"
      have nql : q ≠ l := ne_of hqa qa (by intro q; cases q)
      refine ⟨l, _, _, p.1, _, _, Ha, rfl, LnSt.refl La.at_, w1, by omega, by omega, z1, by omega, fun Hb Lb' => ?_⟩
      have Lb := La.trans Lb'
      obtain ⟨dxb, lwb, nub, cob, qb, rb⟩ := Lb.at_
      have hob := Lb.keep _ _ ho nd
      walk_at "sx"
      refine ⟨l, _, _, p.2, _, _, Ha, rfl, Lb', w2, by omega, by omega, by omega, by omega, fun Hc Lc' => ?_⟩
      have Lc := La.trans Lc'
      have hqc : Hc q = some (.lst (ps.map V.ref)) := Lc'.keep _ _ hqa nql
      have hlc : LightAt Hc ps (s.light.take j) := hla.up (stay_tup (fun b o e n => Lc'.keep b o e n) La.at_)
      walk_at "sx"
      refine ⟨show 2 ≤ sizeLine by decide, fun t ht => ?_⟩
      have hqd := (upd_ne (o := .tup [V.int p.1, V.int p.2]) (ne_of_none hqc ht)).trans hqc
      walk_at "sx"
      have hps : ps.length ≤ 3 := by
        have z := hla.1
        rw [List.length_take] at z
        omega
      refine x_app hqd (by rw [List.length_map]; omega) ?_
      refine ⟨m - 1, by omega, j + 1, some (.int p.1), ps ++ [t], by omega, ?_, ?_, ?_, ?_⟩
      · exact (Lc.same (same_upd (Same.refl _) ht)).mut hq0 hqd (by unfold satW; simp)
      · rw [List.map_append]
        exact upd_same
      · rw [take_snoc hp]
        refine LightAt.snoc (hlc.up fun a xs e => ?_) ?_
        · rw [upd_ne (ne_of e hqc (by intro q; cases q)), upd_ne (ne_of_none e ht)]
          exact e
        · rw [upd_ne (ne_of_none hqc ht).symm]
          exact upd_same
      · rw [z4]
        rfl
    · have hj : j = s.light.length := by
        have z := of_decide_eq_true ((Bool.not_eq_false' _).mp hb)
        rw [satW_len] at z
        omega
      walk_at "sx"
      refine ⟨show 3 ≤ sizeLine by decide, fun pw hpw => ?_⟩
      have hqe := (upd_ne (o := .tup [V.int s.battery, V.int s.level, V.int s.reserve]) (ne_of_none hqa hpw)).trans hqa
      walk_at "sx"
      intro lt hlt
      have e1 : upd (upd Ha pw (.tup [V.int s.battery, V.int s.level, V.int s.reserve])) lt (.tup (ps.map V.ref)) pw = some (.tup [V.int s.battery, V.int s.level, V.int s.reserve]) := by
        rw [upd_ne (ne_of_none upd_same hlt)]
        exact upd_same
      have e2 : upd (upd Ha pw (.tup [V.int s.battery, V.int s.level, V.int s.reserve])) lt (.tup (ps.map V.ref)) lt = some (.tup (ps.map V.ref)) := upd_same
      have sa : Same Ha (upd (upd Ha pw (.tup [V.int s.battery, V.int s.level, V.int s.reserve])) lt (.tup (ps.map V.ref))) := same_upd (same_upd (Same.refl _) hpw) hlt
      generalize upd (upd Ha pw (.tup [V.int s.battery, V.int s.level, V.int s.reserve])) lt (.tup (ps.map V.ref)) = He at e1 e2 sa ⊢
      walk_at "sx"
      intro x dx hx hdx hne
      refine ⟨x, dx, pw, lt, _, s.store, s.battery, s.level, s.reserve, s.charge, s.settle, rfl, upd_same, ?_, fun H9 g1 g2 => ⟨rfl, ?_⟩⟩
      · rw [upd_ne (ne_of_none e1 hx), upd_ne (ne_of_none e1 hdx)]
        exact e1
      · have s9 := stay_made hx hdx g2
        have L9 := (La.same sa).same s9
        refine k H9 x ?_ (fun b o e n => L9.keep b o e n) ⟨dx, lt, ps, g1, s9 _ _ e2, ?_⟩
        · rw [satW_len, ← hj]
          exact L9.at_
        · rw [hj, List.take_length] at hla
          exact hla.up fun a xs e => s9 _ _ (sa _ _ e)
theorem sc_read_recording : FnScope ["world", "line", "name", "satellite", "earliest", "latest", "length", "size", "energy", "worth", "rank", "deadline"] ["world", "line", "name"] (defScope s_read_recording) := ⟨rfl, rfl, rfl, by decide +kernel, rfl, by decide +kernel, by decide +kernel⟩
theorem ok_read_recording (T : Tx K mg) (k_Line_take_field : C8.Met P w K mg base 4 (cLine K) "take_field" (spTakeField K) []) (k_Line_take_known : C8.Met P w K mg base 3 (cLine K) "take_known" (spTakeKnown K) [.int 0]) (k_Line_expect : C8.Met P w K mg base 3 (cLine K) "expect" (spExpect K) []) (k_names_of : C8.Cal P w K mg base 1 "names_of" (spNamesOf K) []) (k_Recording : C8.Mak P w K mg base 1 "Recording" (cRecording K) (spRec K) []) : C8.Cal P w K mg base 5 "read_recording" (spReadRec K) [] := by
  obtain ⟨fd, F⟩ := T.f_read_recording
  refine calOf F T.glo_read_recording (F.bindsN (ps := ["world", "line", "name"]) fun _ _ _ _ _ _ us hl => match us, hl with | [_, _, _], _ => rfl) sc_read_recording ?_ ?_
  · rintro vs H Q E ⟨d, l, dd, l1, v2, v3, v4, sas, hor, ss, r, rfl, _⟩
    rfl
  · rintro cdv A outer st H vs Q E hr ⟨d, l, dd, l1, v2, v3, v4, sas, hor, ss, r, rfl, ho, hh1, hh, hl1, el1, few, kl1, dl1, ok, hl, k⟩
    refine ⟨_, pss_cons (ps_expr (C8.pe_mt k_Line_expect hr (by decide) (pv 1) (pa_cons (pe_str) pa_nil)))
      (pss_cons (ps_set (i := 3) sc_read_recording.nd rfl (Or.inl rfl) (C8.pe_mt k_Line_take_known hr (by decide) (pv 1) (pa_cons (C8.pe_c k_names_of hr (by decide) (by rfl) (pa_cons (pe_fld (pv 0) rfl) pa_nil)) pa_nil)))
      (pss_cons (ps_set (i := 4) sc_read_recording.nd rfl (Or.inl rfl) (C8.pe_mt k_Line_take_field hr (by decide) (pv 1) (pa_cons (pe_str) (pa_cons (pe_int) (pa_cons (pe_op op_sub (pe_fld (pv 0) rfl) (pe_int)) pa_nil)))))
      (pss_cons (ps_set (i := 5) sc_read_recording.nd rfl (Or.inl rfl) (C8.pe_mt k_Line_take_field hr (by decide) (pv 1) (pa_cons (pe_str) (pa_cons (pv 4) (pa_cons (pe_callB (call_min2 rfl) (by rfl) T.free_min (by decide +kernel) (pa_cons (pe_op op_add (pv 4) (ClX.pe_cval (pe_glob (v := .ref (cWorld K)) (by rfl) T.glo_World rfl))) (pa_cons (pe_op op_sub (pe_fld (pv 0) rfl) (pe_int)) pa_nil))) pa_nil)))))
      (pss_cons (ps_set (i := 6) sc_read_recording.nd rfl (Or.inl rfl) (C8.pe_mt k_Line_take_field hr (by decide) (pv 1) (pa_cons (pe_str) (pa_cons (pe_int) (pa_cons (pe_op op_sub (pe_fld (pv 0) rfl) (pv 5)) pa_nil)))))
      (pss_cons (ps_set (i := 7) sc_read_recording.nd rfl (Or.inl rfl) (C8.pe_mt k_Line_take_field hr (by decide) (pv 1) (pa_cons (pe_str) (pa_cons (pe_int) (pa_cons (C8.pe_gc (by rfl) T.int_MOST) pa_nil)))))
      (pss_cons (ps_set (i := 8) sc_read_recording.nd rfl (Or.inl rfl) (C8.pe_mt k_Line_take_field hr (by decide) (pv 1) (pa_cons (pe_str) (pa_cons (pe_int) (pa_cons (C8.pe_gc (by rfl) T.int_MOST) pa_nil)))))
      (pss_cons (ps_set (i := 9) sc_read_recording.nd rfl (Or.inl rfl) (C8.pe_mt k_Line_take_field hr (by decide) (pv 1) (pa_cons (pe_str) (pa_cons (pe_int) (pa_cons (pe_int) pa_nil)))))
      (pss_cons (ps_set (i := 10) sc_read_recording.nd rfl (Or.inl rfl) (C8.pe_mt k_Line_take_field hr (by decide) (pv 1) (pa_cons (pe_str) (pa_cons (pe_int) (pa_cons (pe_int) pa_nil)))))
      (pss_cons (ps_set (i := 11) sc_read_recording.nd rfl (Or.inl rfl) (C8.pe_mt k_Line_take_field hr (by decide) (pv 1) (pa_cons (pe_str) (pa_cons (pe_int) (pa_cons (pe_fld (pv 0) rfl) pa_nil)))))
      (pss_one (ps_ret (C8.pe_mk k_Recording hr (by decide) (by rfl) (pa_cons (pv 2) (pa_cons (pv 3) (pa_cons (pe_tup (pa_cons (pv 4) (pa_cons (pv 5) (pa_cons (pv 6) pa_nil)))) (pa_cons (pe_tup (pa_cons (pv 7) (pa_cons (pv 8) pa_nil))) (pa_cons (pe_tup (pa_cons (pv 9) (pa_cons (pv 10) (pa_cons (pv 11) pa_nil)))) pa_nil))))))))))))))))), ?_⟩
    try dsimp only [cxK]
    obtain ⟨o1, ol1, o3, o4, o5, o6, o7, o8, o9, o10⟩ := id ok
    have L0 := LnSt.refl hl
    have nd : d ≠ l := by
      obtain ⟨_, _, _, _, z, _⟩ := hl
      exact ne_ins ho z (by show 5 ≠ 4; decide)
    have nl1 : l1 ≠ l := by
      obtain ⟨_, _, _, _, z, _⟩ := hl
      exact ne_of hl1 z (by intro q; cases q)
    obtain ⟨dx0, lw0, nu0, co0, q0, r0⟩ := L0.at_
    walk_at "sx"
    refine ⟨l, _, 2, _, lit "by", H, rfl, lit_S _, L0, rfl, lok _, fun H1 L1 => ?_⟩
    obtain ⟨dx1, lw1, nu1, co1, q1, r1⟩ := L1.at_
    have ho1 := L1.keep _ _ ho nd
    walk_at "sx"
    refine ⟨l1, sas, ss.map (·.name), rfl, L1.keep _ _ hl1 nl1, by rw [List.length_map]; exact el1.1, by rw [List.length_map]; omega, named_sats T (el1.mono fun _ _ z => z.kp (kpO_line hl L1.keep)), fun Hn1 pn1 sn1 hpn1 hpl1 => ?_⟩
    have Ln1 := L1.same sn1
    walk_at "sx"
    refine ⟨l, pn1, _, ss.map (·.name), 3, r.sat, _, H, rfl, Ln1, hpl1, rfl, getD_name (by rw [List.length_map]; exact ol1) (fun n hn => by obtain ⟨z, hz, e⟩ := List.mem_map.mp hn; rw [← e]; exact kl1 z hz), getD_some (by rw [List.length_map]; exact ol1), dl1, fun H2 L2 => ?_⟩
    obtain ⟨dx2, lw2, nu2, co2, q2, r2⟩ := L2.at_
    have ho2 := L2.keep _ _ ho nd
    walk_at "sx"
    refine ⟨l, _, 4, _, lit "from", r.ear, _, _, H, rfl, lit_S _, L2, rfl, lok _, rfl, by omega, by omega, by omega, by omega, fun H3 L3 => ?_⟩
    obtain ⟨dx3, lw3, nu3, co3, q3, r3⟩ := L3.at_
    have ho3 := L3.keep _ _ ho nd
    walk_at "sx"
    refine ⟨l, _, 6, _, lit "to", r.lat, _, _, H, rfl, lit_S _, L3, rfl, lok _, rfl, by omega, by omega, by omega, by omega, fun H4 L4 => ?_⟩
    obtain ⟨dx4, lw4, nu4, co4, q4, r4⟩ := L4.at_
    have ho4 := L4.keep _ _ ho nd
    walk_at "sx"
    refine ⟨l, _, 8, _, lit "length", r.len, _, _, H, rfl, lit_S _, L4, rfl, lok _, rfl, by omega, by omega, by omega, by omega, fun H5 L5 => ?_⟩
    obtain ⟨dx5, lw5, nu5, co5, q5, r5⟩ := L5.at_
    have ho5 := L5.keep _ _ ho nd
    walk_at "sx"
    refine ⟨l, _, 10, _, lit "size", r.size, _, _, H, rfl, lit_S _, L5, rfl, lok _, rfl, by omega, by omega, by omega, by omega, fun H6 L6 => ?_⟩
    obtain ⟨dx6, lw6, nu6, co6, q6, r6⟩ := L6.at_
    have ho6 := L6.keep _ _ ho nd
    walk_at "sx"
    refine ⟨l, _, 12, _, lit "energy", r.energy, _, _, H, rfl, lit_S _, L6, rfl, lok _, rfl, by omega, by omega, by omega, by omega, fun H7 L7 => ?_⟩
    obtain ⟨dx7, lw7, nu7, co7, q7, r7⟩ := L7.at_
    have ho7 := L7.keep _ _ ho nd
    walk_at "sx"
    refine ⟨l, _, 14, _, lit "worth", r.worth, _, _, H, rfl, lit_S _, L7, rfl, lok _, rfl, by omega, by omega, by omega, by omega, fun H8 L8 => ?_⟩
    obtain ⟨dx8, lw8, nu8, co8, q8, r8⟩ := L8.at_
    have ho8 := L8.keep _ _ ho nd
    walk_at "sx"
    refine ⟨l, _, 16, _, lit "rank", r.rank, _, _, H, rfl, lit_S _, L8, rfl, lok _, rfl, by omega, by omega, by omega, by omega, fun H9 L9 => ?_⟩
    obtain ⟨dx9, lw9, nu9, co9, q9, r9⟩ := L9.at_
    have ho9 := L9.keep _ _ ho nd
    walk_at "sx"
    refine ⟨l, _, 18, _, lit "until", r.dead, _, _, H, rfl, lit_S _, L9, rfl, lok _, rfl, by omega, by omega, by omega, by omega, fun H10 L10 => ?_⟩
    obtain ⟨dx10, lw10, nu10, co10, q10, r10⟩ := L10.at_
    have ho10 := L10.keep _ _ ho nd
    walk_at "sx"
    refine ⟨show 3 ≤ sizeLine by decide, fun t1 ht1 => ?_⟩
    walk_at "sx"
    refine ⟨show 2 ≤ sizeLine by decide, fun t2 ht2 => ?_⟩
    walk_at "sx"
    refine ⟨show 3 ≤ sizeLine by decide, fun t3 ht3 => ?_⟩
    walk_at "sx"
    have et1 : (upd (upd (upd (H10) t1 (.tup [V.int r.ear, V.int r.lat, V.int r.len])) t2 (.tup [V.int r.size, V.int r.energy])) t3 (.tup [V.int r.worth, V.int r.rank, V.int r.dead])) t1 = some (.tup [V.int r.ear, V.int r.lat, V.int r.len]) := (upd_ne (ne_of_none ((upd_ne (ne_of_none (upd_same) ht2)).trans (upd_same)) ht3)).trans ((upd_ne (ne_of_none (upd_same) ht2)).trans (upd_same))
    have et2 : (upd (upd (upd (H10) t1 (.tup [V.int r.ear, V.int r.lat, V.int r.len])) t2 (.tup [V.int r.size, V.int r.energy])) t3 (.tup [V.int r.worth, V.int r.rank, V.int r.dead])) t2 = some (.tup [V.int r.size, V.int r.energy]) := (upd_ne (ne_of_none (upd_same) ht3)).trans (upd_same)
    have et3 : (upd (upd (upd (H10) t1 (.tup [V.int r.ear, V.int r.lat, V.int r.len])) t2 (.tup [V.int r.size, V.int r.energy])) t3 (.tup [V.int r.worth, V.int r.rank, V.int r.dead])) t3 = some (.tup [V.int r.worth, V.int r.rank, V.int r.dead]) := upd_same
    have sa : Same H10 (upd (upd (upd (H10) t1 (.tup [V.int r.ear, V.int r.lat, V.int r.len])) t2 (.tup [V.int r.size, V.int r.energy])) t3 (.tup [V.int r.worth, V.int r.rank, V.int r.dead])) := same_upd (same_upd (same_upd (Same.refl _) ht1) ht2) ht3
    generalize upd (upd (upd (H10) t1 (.tup [V.int r.ear, V.int r.lat, V.int r.len])) t2 (.tup [V.int r.size, V.int r.energy])) t3 (.tup [V.int r.worth, V.int r.rank, V.int r.dead]) = He at et1 et2 et3 sa ⊢
    intro x dx hx hdx hne
    have un : ∀ (t : Addr) (o : HO), He t = some o → upd (upd He dx (.own x)) x (.ins (cRecording K) dx []) t = some o := fun t o e => by
      rw [upd_ne (ne_of_none e hx), upd_ne (ne_of_none e hdx)]
      exact e
    refine ⟨x, dx, t1, t2, t3, _, _, _, _, _, _, _, _, _, _, rfl, upd_same, un _ _ et1, un _ _ et2, un _ _ et3, fun H99 g1 g2 => ⟨rfl, ?_⟩⟩
    have s9 := stay_made hx hdx g2
    have L9 := (L10.same sa).same s9
    exact k H99 x L9.at_ (fun b o e n => L9.keep b o e n) ⟨dx, g1⟩
theorem sc_read_pass : FnScope ["world", "line", "name", "satellite", "station", "first", "end", "room", "energy", "fee"] ["world", "line", "name"] (defScope s_read_pass) := ⟨rfl, rfl, rfl, by decide +kernel, rfl, by decide +kernel, by decide +kernel⟩
theorem ok_read_pass (T : Tx K mg) (k_Line_take_field : C8.Met P w K mg base 4 (cLine K) "take_field" (spTakeField K) []) (k_Line_take_known : C8.Met P w K mg base 3 (cLine K) "take_known" (spTakeKnown K) [.int 0]) (k_Line_expect : C8.Met P w K mg base 3 (cLine K) "expect" (spExpect K) []) (k_names_of : C8.Cal P w K mg base 1 "names_of" (spNamesOf K) []) (k_Pass : C8.Mak P w K mg base 1 "Pass" (cPass K) (spPas K) []) : C8.Cal P w K mg base 5 "read_pass" (spReadPas K) [] := by
  obtain ⟨fd, F⟩ := T.f_read_pass
  refine calOf F T.glo_read_pass (F.bindsN (ps := ["world", "line", "name"]) fun _ _ _ _ _ _ us hl => match us, hl with | [_, _, _], _ => rfl) sc_read_pass ?_ ?_
  · rintro vs H Q E ⟨d, l, dd, l1, l2, v3, v4, sas, tas, hor, ss, tt, r, rfl, _⟩
    rfl
  · rintro cdv A outer st H vs Q E hr ⟨d, l, dd, l1, l2, v3, v4, sas, tas, hor, ss, tt, r, rfl, ho, hh1, hh, hl1, el1, few, kl1, dl1, hl2, el2, few2, kl2, dl2, ok, hl, k⟩
    refine ⟨_, pss_cons (ps_expr (C8.pe_mt k_Line_expect hr (by decide) (pv 1) (pa_cons (pe_str) pa_nil)))
      (pss_cons (ps_set (i := 3) sc_read_pass.nd rfl (Or.inl rfl) (C8.pe_mt k_Line_take_known hr (by decide) (pv 1) (pa_cons (C8.pe_c k_names_of hr (by decide) (by rfl) (pa_cons (pe_fld (pv 0) rfl) pa_nil)) pa_nil)))
      (pss_cons (ps_expr (C8.pe_mt k_Line_expect hr (by decide) (pv 1) (pa_cons (pe_str) pa_nil)))
      (pss_cons (ps_set (i := 4) sc_read_pass.nd rfl (Or.inl rfl) (C8.pe_mt k_Line_take_known hr (by decide) (pv 1) (pa_cons (C8.pe_c k_names_of hr (by decide) (by rfl) (pa_cons (pe_fld (pv 0) rfl) pa_nil)) pa_nil)))
      (pss_cons (ps_set (i := 5) sc_read_pass.nd rfl (Or.inl rfl) (C8.pe_mt k_Line_take_field hr (by decide) (pv 1) (pa_cons (pe_str) (pa_cons (pe_int) (pa_cons (pe_op op_sub (pe_fld (pv 0) rfl) (pe_int)) pa_nil)))))
      (pss_cons (ps_set (i := 6) sc_read_pass.nd rfl (Or.inl rfl) (C8.pe_mt k_Line_take_field hr (by decide) (pv 1) (pa_cons (pe_str) (pa_cons (pe_op op_add (pv 5) (pe_int)) (pa_cons (pe_fld (pv 0) rfl) pa_nil)))))
      (pss_cons (ps_set (i := 7) sc_read_pass.nd rfl (Or.inl rfl) (C8.pe_mt k_Line_take_field hr (by decide) (pv 1) (pa_cons (pe_str) (pa_cons (pe_int) (pa_cons (C8.pe_gc (by rfl) T.int_MOST) pa_nil)))))
      (pss_cons (ps_set (i := 8) sc_read_pass.nd rfl (Or.inl rfl) (C8.pe_mt k_Line_take_field hr (by decide) (pv 1) (pa_cons (pe_str) (pa_cons (pe_int) (pa_cons (C8.pe_gc (by rfl) T.int_MOST) pa_nil)))))
      (pss_cons (ps_set (i := 9) sc_read_pass.nd rfl (Or.inl rfl) (C8.pe_mt k_Line_take_field hr (by decide) (pv 1) (pa_cons (pe_str) (pa_cons (pe_int) (pa_cons (pe_int) pa_nil)))))
      (pss_one (ps_ret (C8.pe_mk k_Pass hr (by decide) (by rfl) (pa_cons (pv 2) (pa_cons (pv 3) (pa_cons (pv 4) (pa_cons (pe_tup (pa_cons (pv 5) (pa_cons (pv 6) pa_nil))) (pa_cons (pe_tup (pa_cons (pv 7) (pa_cons (pv 8) (pa_cons (pv 9) pa_nil)))) pa_nil)))))))))))))))), ?_⟩
    try dsimp only [cxK]
    obtain ⟨o1, ol1, ol2, o4, o5, o6, o7⟩ := id ok
    have L0 := LnSt.refl hl
    have nd : d ≠ l := by
      obtain ⟨_, _, _, _, z, _⟩ := hl
      exact ne_ins ho z (by show 5 ≠ 4; decide)
    have nl1 : l1 ≠ l := by
      obtain ⟨_, _, _, _, z, _⟩ := hl
      exact ne_of hl1 z (by intro q; cases q)
    have nl2 : l2 ≠ l := by
      obtain ⟨_, _, _, _, z, _⟩ := hl
      exact ne_of hl2 z (by intro q; cases q)
    obtain ⟨dx0, lw0, nu0, co0, q0, r0⟩ := L0.at_
    walk_at "sx"
    refine ⟨l, _, 2, _, lit "by", H, rfl, lit_S _, L0, rfl, lok _, fun H1 L1 => ?_⟩
    obtain ⟨dx1, lw1, nu1, co1, q1, r1⟩ := L1.at_
    have ho1 := L1.keep _ _ ho nd
    walk_at "sx"
    refine ⟨l1, sas, ss.map (·.name), rfl, L1.keep _ _ hl1 nl1, by rw [List.length_map]; exact el1.1, by rw [List.length_map]; omega, named_sats T (el1.mono fun _ _ z => z.kp (kpO_line hl L1.keep)), fun Hn1 pn1 sn1 hpn1 hpl1 => ?_⟩
    have Ln1 := L1.same sn1
    walk_at "sx"
    refine ⟨l, pn1, _, ss.map (·.name), 3, r.sat, _, H, rfl, Ln1, hpl1, rfl, getD_name (by rw [List.length_map]; exact ol1) (fun n hn => by obtain ⟨z, hz, e⟩ := List.mem_map.mp hn; rw [← e]; exact kl1 z hz), getD_some (by rw [List.length_map]; exact ol1), dl1, fun H2 L2 => ?_⟩
    obtain ⟨dx2, lw2, nu2, co2, q2, r2⟩ := L2.at_
    have ho2 := L2.keep _ _ ho nd
    walk_at "sx"
    refine ⟨l, _, 4, _, lit "over", H, rfl, lit_S _, L2, rfl, lok _, fun H3 L3 => ?_⟩
    obtain ⟨dx3, lw3, nu3, co3, q3, r3⟩ := L3.at_
    have ho3 := L3.keep _ _ ho nd
    walk_at "sx"
    refine ⟨l2, tas, tt.map (·.name), rfl, L3.keep _ _ hl2 nl2, by rw [List.length_map]; exact el2.1, by rw [List.length_map]; omega, named_stas T (el2.mono fun _ _ z => z.kp (kpO_line hl L3.keep)), fun Hn3 pn3 sn3 hpn3 hpl3 => ?_⟩
    have Ln3 := L3.same sn3
    walk_at "sx"
    refine ⟨l, pn3, _, tt.map (·.name), 5, r.sta, _, H, rfl, Ln3, hpl3, rfl, getD_name (by rw [List.length_map]; exact ol2) (fun n hn => by obtain ⟨z, hz, e⟩ := List.mem_map.mp hn; rw [← e]; exact kl2 z hz), getD_some (by rw [List.length_map]; exact ol2), dl2, fun H4 L4 => ?_⟩
    obtain ⟨dx4, lw4, nu4, co4, q4, r4⟩ := L4.at_
    have ho4 := L4.keep _ _ ho nd
    walk_at "sx"
    refine ⟨l, _, 6, _, lit "from", r.first, _, _, H, rfl, lit_S _, L4, rfl, lok _, rfl, by omega, by omega, by omega, by omega, fun H5 L5 => ?_⟩
    obtain ⟨dx5, lw5, nu5, co5, q5, r5⟩ := L5.at_
    have ho5 := L5.keep _ _ ho nd
    walk_at "sx"
    refine ⟨l, _, 8, _, lit "to", r.last, _, _, H, rfl, lit_S _, L5, rfl, lok _, rfl, by omega, by omega, by omega, by omega, fun H6 L6 => ?_⟩
    obtain ⟨dx6, lw6, nu6, co6, q6, r6⟩ := L6.at_
    have ho6 := L6.keep _ _ ho nd
    walk_at "sx"
    refine ⟨l, _, 10, _, lit "room", r.room, _, _, H, rfl, lit_S _, L6, rfl, lok _, rfl, by omega, by omega, by omega, by omega, fun H7 L7 => ?_⟩
    obtain ⟨dx7, lw7, nu7, co7, q7, r7⟩ := L7.at_
    have ho7 := L7.keep _ _ ho nd
    walk_at "sx"
    refine ⟨l, _, 12, _, lit "energy", r.energy, _, _, H, rfl, lit_S _, L7, rfl, lok _, rfl, by omega, by omega, by omega, by omega, fun H8 L8 => ?_⟩
    obtain ⟨dx8, lw8, nu8, co8, q8, r8⟩ := L8.at_
    have ho8 := L8.keep _ _ ho nd
    walk_at "sx"
    refine ⟨l, _, 14, _, lit "fee", r.fee, _, _, H, rfl, lit_S _, L8, rfl, lok _, rfl, by omega, by omega, by omega, by omega, fun H9 L9 => ?_⟩
    obtain ⟨dx9, lw9, nu9, co9, q9, r9⟩ := L9.at_
    have ho9 := L9.keep _ _ ho nd
    walk_at "sx"
    refine ⟨show 2 ≤ sizeLine by decide, fun t1 ht1 => ?_⟩
    walk_at "sx"
    refine ⟨show 3 ≤ sizeLine by decide, fun t2 ht2 => ?_⟩
    walk_at "sx"
    have et1 : (upd (upd (H9) t1 (.tup [V.int r.first, V.int r.last])) t2 (.tup [V.int r.room, V.int r.energy, V.int r.fee])) t1 = some (.tup [V.int r.first, V.int r.last]) := (upd_ne (ne_of_none (upd_same) ht2)).trans (upd_same)
    have et2 : (upd (upd (H9) t1 (.tup [V.int r.first, V.int r.last])) t2 (.tup [V.int r.room, V.int r.energy, V.int r.fee])) t2 = some (.tup [V.int r.room, V.int r.energy, V.int r.fee]) := upd_same
    have sa : Same H9 (upd (upd (H9) t1 (.tup [V.int r.first, V.int r.last])) t2 (.tup [V.int r.room, V.int r.energy, V.int r.fee])) := same_upd (same_upd (Same.refl _) ht1) ht2
    generalize upd (upd (H9) t1 (.tup [V.int r.first, V.int r.last])) t2 (.tup [V.int r.room, V.int r.energy, V.int r.fee]) = He at et1 et2 sa ⊢
    intro x dx hx hdx hne
    have un : ∀ (t : Addr) (o : HO), He t = some o → upd (upd He dx (.own x)) x (.ins (cPass K) dx []) t = some o := fun t o e => by
      rw [upd_ne (ne_of_none e hx), upd_ne (ne_of_none e hdx)]
      exact e
    refine ⟨x, dx, t2, _, _, _, _, _, _, _, rfl, upd_same, un _ _ et2, fun H99 g1 g2 => ⟨rfl, ?_⟩⟩
    have s9 := stay_made hx hdx g2
    have L9 := (L9.same sa).same s9
    exact k H99 x L9.at_ (fun b o e n => L9.keep b o e n) ⟨dx, t1, g1, s9 _ _ et1⟩
end
end Dp
namespace Dp
open PySem PySem.Spec PyProof.Rows L2 SX
/-! ### one line more -/
theorem Each.snoc {α : Type} {R : Addr → α → Prop} {as : List Addr} {l : List α} {a : Addr} {x : α} (h : Each R as l) (hx : R a x) : Each R (as ++ [a]) (l ++ [x]) := by
  refine ⟨by rw [List.length_append, List.length_append, h.1]; rfl, fun i b y e1 e2 => ?_⟩
  by_cases hi : i < as.length
  · rw [List.getElem?_append_left hi] at e1
    rw [List.getElem?_append_left (by rw [← h.1]; exact hi)] at e2
    exact h.2 i b y e1 e2
  · have z := (List.getElem?_eq_some_iff.mp e1).1
    rw [List.length_append, List.length_singleton] at z
    have ei : i = as.length := by omega
    subst ei
    rw [List.getElem?_append_right (Nat.le_refl _), Nat.sub_self] at e1
    rw [List.getElem?_append_right (by rw [h.1]; exact Nat.le_refl _), h.1, Nat.sub_self] at e2
    have e1 := Option.some.inj e1
    have e2 := Option.some.inj e2
    rw [← e1, ← e2]
    exact hx
theorem odd_lst' (q : Addr) {H H' : Hp} {xs : List V} (h : H q = some (.lst xs)) (s : ∀ b o, H b = some o → b ≠ q → H' b = some o) : KpO q H H' := by
  refine ⟨s, fun o e => ?_⟩
  rw [h] at e
  have e := Option.some.inj e
  subst e
  exact odd_lst _
/-- but for the line at l and the list at q -/
def Two (l q : Addr) (H H' : Hp) : Prop := ∀ b o, H b = some o → b ≠ l → b ≠ q → H' b = some o
theorem named_recs {K : PySem.W.Frag} {mg : Str → Option Value} (T : Tx K mg) {H : Hp} {as : List Addr} {ss : List Rec} (e : Each (RecAt K H) as ss) : ∀ (i : Nat) (a : Addr) (n : List Nat), as[i]? = some a → (ss.map (·.name))[i]? = some n → Named K H a n := by
  intro i a n h1 h2
  rw [List.getElem?_map] at h2
  cases e1 : ss[i]? with
  | none =>
    rw [e1] at h2
    cases h2
  | some s =>
    rw [e1] at h2
    have h2 := Option.some.inj h2
    subst h2
    obtain ⟨dx, g1⟩ := e.2 i a s h1 e1
    exact ⟨_, _, _, g1, T.cls_Recording, T.no_Recording_name, lk_Recording_name _ _ _ _ _ _ _ _ _ _⟩
theorem named_pass {K : PySem.W.Frag} {mg : Str → Option Value} (T : Tx K mg) {H : Hp} {as : List Addr} {ss : List Pas} (e : Each (PasAt K H) as ss) : ∀ (i : Nat) (a : Addr) (n : List Nat), as[i]? = some a → (ss.map (·.name))[i]? = some n → Named K H a n := by
  intro i a n h1 h2
  rw [List.getElem?_map] at h2
  cases e1 : ss[i]? with
  | none =>
    rw [e1] at h2
    cases h2
  | some s =>
    rw [e1] at h2
    have h2 := Option.some.inj h2
    subst h2
    obtain ⟨dx, sp, g1, _⟩ := e.2 i a s h1 e1
    exact ⟨_, _, _, g1, T.cls_Pass, T.no_Pass_name, lk_Pass_name _ _ _ _ _ _ _⟩
/-- four places, no two alike -/
structure Dif (a b c d : Addr) : Prop where
  ab : a ≠ b
  ac : a ≠ c
  ad : a ≠ d
  bc : b ≠ c
  bd : b ≠ d
  cd : c ≠ d
def spReadLine (K : PySem.W.Frag) : Sp := fun vs H Q _ => ∃ (d l dd l1 l2 l3 l4 : Addr) (sas tas ras pas : List Addr) (W : Wd) (st0 : Int), vs = [.ref d, .ref l, .int st0] ∧ DAt K H d dd l1 l2 l3 l4 sas tas ras pas W ∧ Dif l1 l2 l3 l4 ∧ 1 ≤ W.hor ∧ W.hor ≤ 500 ∧
  ((∃ s : Sat, st0 ≤ 0 ∧ LnAt K H l (satW s) 0 ∧ W.sats.length < 3 ∧ SatOk W.hor s ∧ s.name ∉ W.sats.map (·.name) ∧ ∀ (H' : Hp) (a : Addr), DAt K H' d dd l1 l2 l3 l4 (sas ++ [a]) tas ras pas { W with sats := W.sats ++ [s] } → Two l l1 H H' → Q (.int 0) H') ∨ 
    (∃ s : Sta, st0 ≤ 1 ∧ LnAt K H l (staW s) 0 ∧ W.stas.length < 3 ∧ StaOk s ∧ s.name ∉ W.stas.map (·.name) ∧ ∀ (H' : Hp) (a : Addr), DAt K H' d dd l1 l2 l3 l4 sas (tas ++ [a]) ras pas { W with stas := W.stas ++ [s] } → Two l l2 H H' → Q (.int 1) H') ∨ 
    (∃ s : Rec, st0 ≤ 2 ∧ LnAt K H l (recW W.sn s) 0 ∧ W.recs.length < 10 ∧ RecOk W.hor W.sats.length s ∧ s.name ∉ W.recs.map (·.name) ∧ W.sats.length ≤ 3 ∧ (∀ s ∈ W.sats, NameOk s.name) ∧ W.sn.Nodup ∧ ∀ (H' : Hp) (a : Addr), DAt K H' d dd l1 l2 l3 l4 sas tas (ras ++ [a]) pas { W with recs := W.recs ++ [s] } → Two l l3 H H' → Q (.int 2) H') ∨ 
    (∃ s : Pas, st0 ≤ 3 ∧ LnAt K H l (pasW W.sn W.tn s) 0 ∧ W.pass.length < 10 ∧ PasOk W.hor W.sats.length W.stas.length s ∧ s.name ∉ W.pass.map (·.name) ∧ W.sats.length ≤ 3 ∧ (∀ s ∈ W.sats, NameOk s.name) ∧ W.sn.Nodup ∧ W.stas.length ≤ 3 ∧ (∀ s ∈ W.stas, NameOk s.name) ∧ W.tn.Nodup ∧ ∀ (H' : Hp) (a : Addr), DAt K H' d dd l1 l2 l3 l4 sas tas ras (pas ++ [a]) { W with pass := W.pass ++ [s] } → Two l l4 H H' → Q (.int 3) H'))
section
variable {P : Program} {w : World} {K : PySem.W.Frag} {mg : Str → Option Value} {base : Heap}
theorem sc_read_line : FnScope ["world", "line", "stage", "word", "kind", "listed", "most", "name"] ["world", "line", "stage"] (defScope s_read_line) := ⟨rfl, rfl, rfl, by decide +kernel, rfl, by decide +kernel, by decide +kernel⟩
theorem ok_read_line (T : Tx K mg) (k_Line_peek : C8.Met P w K mg base 2 (cLine K) "peek" (spPeek K) []) (k_Line_skip : C8.Met P w K mg base 1 (cLine K) "skip" (spSkip K) []) (k_Line_take_new : C8.Met P w K mg base 3 (cLine K) "take_new" (spTakeNew K) []) (k_Line_take_field : C8.Met P w K mg base 4 (cLine K) "take_field" (spTakeField K) []) (k_Line_finish : C8.Met P w K mg base 2 (cLine K) "finish" (spFinish K) []) (k_names_of : C8.Cal P w K mg base 1 "names_of" (spNamesOf K) []) (k_Station : C8.Mak P w K mg base 1 "Station" (cStation K) (spSta K) []) (k_read_satellite : C8.Cal P w K mg base 5 "read_satellite" (spReadSat K) []) (k_read_recording : C8.Cal P w K mg base 5 "read_recording" (spReadRec K) []) (k_read_pass : C8.Cal P w K mg base 5 "read_pass" (spReadPas K) []) : C8.Cal P w K mg base 6 "read_line" (spReadLine K) [] := by
  obtain ⟨fd, F⟩ := T.f_read_line
  refine calOf F T.glo_read_line (F.bindsN (ps := ["world", "line", "stage"]) fun _ _ _ _ _ _ us hl => match us, hl with | [_, _, _], _ => rfl) sc_read_line ?_ ?_
  · rintro vs H Q E ⟨d, l, dd, l1, l2, l3, l4, sas, tas, ras, pas, W, st0, rfl, _⟩
    rfl
  · rintro cdv A outer st H vs Q E hr ⟨d, l, dd, l1, l2, l3, l4, sas, tas, ras, pas, W, st0, rfl, D, df, hh1, hh, hc⟩
    refine ⟨_, pss_cons (ps_set (i := 3) sc_read_line.nd rfl (Or.inl rfl) (C8.pe_mt0 k_Line_peek hr (by decide) (pv 1)))
      (pss_cons (ps_if (pt_cmpR op_notIn_seq (pv 3) (pe_glob (v := .ref (He.ga K "KINDS")) (by rfl) T.glo_KINDS rfl) (by rfl)) (pss_one (ps_never)) (pss_nil))
      (pss_cons (ps_set (i := 4) sc_read_line.nd rfl (Or.inl rfl) (pe_bm PySem.F.plainAttrs_tuple PySem.F.slot_tuple_index PySem.F.type_tuple_index mt_tup_index (pe_glob (v := .ref (He.ga K "KINDS")) (by rfl) T.glo_KINDS rfl) (pa_cons (pv 3) pa_nil)))
      (pss_cons (ps_if (pt_cmpR op_lt (pv 4) (pv 2) (nomark _)) (pss_one (ps_never)) (pss_nil))
      (pss_cons (ps_set (i := 5) sc_read_line.nd rfl (Or.inl rfl) (pe_ix ix_tup (pe_tup (pa_cons (pe_fld (pv 0) rfl) (pa_cons (pe_fld (pv 0) rfl) (pa_cons (pe_fld (pv 0) rfl) (pa_cons (pe_fld (pv 0) rfl) pa_nil))))) (pv 4) (fun _ _ => rfl)))
      (pss_cons (ps_set (i := 6) sc_read_line.nd rfl (Or.inl rfl) (pe_ix ix_tup (pe_tup (pa_cons (ClX.pe_cval (pe_glob (v := .ref (cWorld K)) (by rfl) T.glo_World rfl)) (pa_cons (ClX.pe_cval (pe_glob (v := .ref (cWorld K)) (by rfl) T.glo_World rfl)) (pa_cons (ClX.pe_cval (pe_glob (v := .ref (cWorld K)) (by rfl) T.glo_World rfl)) (pa_cons (ClX.pe_cval (pe_glob (v := .ref (cWorld K)) (by rfl) T.glo_World rfl)) pa_nil))))) (pv 4) (fun _ _ => rfl)))
      (pss_cons (ps_if (pt_cmpR op_eq (pe_callB call_len_seq (by rfl) T.free_len PySem.boot_len (pa_cons (pv 5) pa_nil)) (pv 6) (nomark _)) (pss_one (ps_never)) (pss_nil))
      (pss_cons (ps_expr (C8.pe_mt0 k_Line_skip hr (by decide) (pv 1)))
      (pss_cons (ps_set (i := 7) sc_read_line.nd rfl (Or.inl rfl) (C8.pe_mt k_Line_take_new hr (by decide) (pv 1) (pa_cons (C8.pe_c k_names_of hr (by decide) (by rfl) (pa_cons (pv 5) pa_nil)) pa_nil)))
      (pss_cons (ps_if (pt_cmpR op_eq (pv 4) (pe_int) (nomark _)) (pss_one (ps_expr (pe_bm PySem.F.plainAttrs_list PySem.F.slot_list_append PySem.F.type_list_append mt_append (pv 5) (pa_cons (C8.pe_c k_read_satellite hr (by decide) (by rfl) (pa_cons (pv 0) (pa_cons (pv 1) (pa_cons (pv 7) pa_nil)))) pa_nil)))) (pss_one (ps_if (pt_cmpR op_eq (pv 4) (pe_int) (nomark _)) (pss_one (ps_expr (pe_bm PySem.F.plainAttrs_list PySem.F.slot_list_append PySem.F.type_list_append mt_append (pv 5) (pa_cons (C8.pe_mk k_Station hr (by decide) (by rfl) (pa_cons (pv 7) (pa_cons (C8.pe_mt k_Line_take_field hr (by decide) (pv 1) (pa_cons (pe_str) (pa_cons (pe_int) (pa_cons (pe_int) pa_nil)))) (pa_cons (C8.pe_mt k_Line_take_field hr (by decide) (pv 1) (pa_cons (pe_str) (pa_cons (pe_int) (pa_cons (pe_int) pa_nil)))) pa_nil)))) pa_nil)))) (pss_one (ps_if (pt_cmpR op_eq (pv 4) (pe_int) (nomark _)) (pss_one (ps_expr (pe_bm PySem.F.plainAttrs_list PySem.F.slot_list_append PySem.F.type_list_append mt_append (pv 5) (pa_cons (C8.pe_c k_read_recording hr (by decide) (by rfl) (pa_cons (pv 0) (pa_cons (pv 1) (pa_cons (pv 7) pa_nil)))) pa_nil)))) (pss_one (ps_expr (pe_bm PySem.F.plainAttrs_list PySem.F.slot_list_append PySem.F.type_list_append mt_append (pv 5) (pa_cons (C8.pe_c k_read_pass hr (by decide) (by rfl) (pa_cons (pv 0) (pa_cons (pv 1) (pa_cons (pv 7) pa_nil)))) pa_nil)))))))))
      (pss_cons (ps_expr (C8.pe_mt0 k_Line_finish hr (by decide) (pv 1)))
      (pss_one (ps_ret (pv 4))))))))))))), ?_⟩
    try dsimp only [cxK]
    obtain ⟨ho, hl1, hl2, hl3, hl4, e1, e2, e3, e4⟩ := id D
    rcases hc with hc | hc | hc | hc
    · obtain ⟨s, hst, hl, few, ok, hno,  k⟩ := hc
      have nd : d ≠ l := by
        obtain ⟨_, _, _, _, z, _⟩ := hl
        exact ne_ins ho z (by show 5 ≠ 4; decide)
      have nl1 : l1 ≠ l := by
        obtain ⟨_, _, _, _, z, _⟩ := hl
        exact ne_of hl1 z (by intro q; cases q)
      have nl2 : l2 ≠ l := by
        obtain ⟨_, _, _, _, z, _⟩ := hl
        exact ne_of hl2 z (by intro q; cases q)
      have nl3 : l3 ≠ l := by
        obtain ⟨_, _, _, _, z, _⟩ := hl
        exact ne_of hl3 z (by intro q; cases q)
      have nl4 : l4 ≠ l := by
        obtain ⟨_, _, _, _, z, _⟩ := hl
        exact ne_of hl4 z (by intro q; cases q)
      have L0 := LnSt.refl hl
      obtain ⟨dx0, lw0, nu0, co0, q0, r0⟩ := L0.at_
      walk_at "sx"
      refine ⟨l, _, 0, lit "satellite", rfl, L0.at_, rfl, (lok "satellite").1, ?_⟩
      walk_at "sx"
      refine ⟨_, _, rfl, .inr (T.kinds _), rfl, rfl, ?_⟩
      walk_at "sx"
      refine x_nay (by decide +kernel) ?_
      walk_at "sx"
      refine ⟨.inr (.inl ⟨rfl, T.kindsT⟩), ?_⟩
      walk_at "sx"
      refine ⟨_, [Str.ofString "satellite", Str.ofString "station", Str.ofString "recording", Str.ofString "pass"], _, 0, rfl, rfl, T.kinds _, congrArg some (lit_S _), fun m hm => absurd hm (Nat.not_lt_zero m), ?_⟩
      walk_at "sx"
      refine x_nay (decide_eq_false (by omega)) ?_
      have ix1 : atI [V.ref l1, V.ref l2, V.ref l3, V.ref l4] ((0 : Nat) : Int) = some (V.ref l1) := atI_nat rfl
      have ix2 : atI [V.int 3, V.int 3, V.int 10, V.int 10] ((0 : Nat) : Int) = some (V.int 3) := atI_nat rfl
      walk_at "sx"
      refine ⟨show 4 ≤ sizeLine by decide, fun p1 hp1 => ?_⟩
      walk_at "sx"
      refine ⟨show 4 ≤ sizeLine by decide, fun p2 hp2 => ?_⟩
      have sb : Same H (upd (upd H p1 (.tup [V.ref l1, V.ref l2, V.ref l3, V.ref l4])) p2 (.tup [V.int 3, V.int 3, V.int 10, V.int 10])) := same_upd (same_upd (Same.refl _) hp1) hp2
      have hp2' : (upd (upd H p1 (.tup [V.ref l1, V.ref l2, V.ref l3, V.ref l4])) p2 (.tup [V.int 3, V.int 3, V.int 10, V.int 10])) p2 = some (.tup [V.int 3, V.int 3, V.int 10, V.int 10]) := upd_same
      generalize upd (upd H p1 (.tup [V.ref l1, V.ref l2, V.ref l3, V.ref l4])) p2 (.tup [V.int 3, V.int 3, V.int 10, V.int 10]) = Hb at sb hp2' ⊢
      have hlkb := sb _ _ hl1
      have qb := sb _ _ q0
      walk_at "sx"
      refine x_nay (int_ne (by rw [List.length_map]; have := e1.1; omega)) ?_
      walk_at "sx"
      refine ⟨l, _, 0, _, Hb, rfl, LnSt.refl (L0.at_.same sb), rfl, (lok "satellite").2.1, fun H1 L1 => ?_⟩
      obtain ⟨dx1, lw1, nu1, co1, q1, r1⟩ := L1.at_
      walk_at "sx"
      have ksb := Ks.same sb
      refine ⟨l1, sas, W.sats.map (·.name), rfl, L1.keep _ _ hlkb nl1, by rw [List.length_map]; exact e1.1, by rw [List.length_map]; omega, named_sats T (e1.mono fun _ _ z => (z.ks ksb).kp (kpO_line (L0.at_.same sb) L1.keep)), fun Hn pn sn hpn hpl => ?_⟩
      walk_at "sx"
      refine ⟨l, pn, _, W.sats.map (·.name), 1, s.name, Hb, rfl, L1.same sn, hpl, rfl, ok.name, hno, fun H2 L2 => ?_⟩
      obtain ⟨dx2, lw2, nu2, co2, q2, r2⟩ := L2.at_
      have ho2 := L2.keep _ _ (sb _ _ ho) nd
      have hlk2 := L2.keep _ _ hlkb nl1
      walk_at "sx"
      refine x_yes (int_eq rfl) ?_
      walk_at "sx"
      refine ⟨d, l, dd, _, _, _, _, W.hor, s, rfl, ho2, hh1, hh, ok, L2.at_, fun H3 a L3 y3 th => ?_⟩
      walk_at "sx"
      have y : Stay l H H3 := fun b o e n => y3 b o (L2.keep b o (sb _ _ e) n) n
      have nlk := nl1
      have hlk3 := y _ _ hl1 nlk
      refine x_app hlk3 (by rw [List.length_map]; have := e1.1; omega) ?_
      have ndk : d ≠ l1 := ne_of ho hl1 (by intro q; cases q)
      obtain ⟨dx4, lw4, nu4, co4, q4, r4⟩ := id L3
      have Lm : LnAt K (upd H3 l1 (.lst (sas.map V.ref ++ [V.ref a]))) l (satW s) ((satW s).length) := ⟨dx4, lw4, nu4, co4, (upd_ne nlk.symm).trans q4, (upd_ne (ne_of r4 hlk3 (by intro q; injection q with q; exact txts_ne (by simp [satW, staW, recW, pasW]) q))).trans r4⟩
      have yk : ∀ b o, H3 b = some o → b ≠ l1 → upd H3 l1 (.lst (sas.map V.ref ++ [V.ref a])) b = some o := fun b o e n => (upd_ne n).trans e
      have hk4 : upd H3 l1 (.lst (sas.map V.ref ++ [V.ref a])) l1 = some (.lst ((sas ++ [a]).map V.ref)) := by
        rw [List.map_append]
        exact upd_same
      generalize upd H3 l1 (.lst (sas.map V.ref ++ [V.ref a])) = H4 at Lm yk hk4 ⊢
      obtain ⟨dx5, lw5, nu5, co5, q5, r5⟩ := id Lm
      walk_at "sx"
      refine ⟨l, satW s, rfl, Lm, ?_⟩
      walk_at "sx"
      have k3 : Ks H H3 := Ks.ofO (kpO_line hl y)
      have k4 : Ks H3 H4 := Ks.ofO (odd_lst' _ hlk3 yk)
      have kk := k3.trans k4
      exact k H4 a ⟨yk _ _ (y _ _ ho nd) ndk, hk4, yk _ _ (y _ _ hl2 nl2) df.ab.symm, yk _ _ (y _ _ hl3 nl3) df.ac.symm, yk _ _ (y _ _ hl4 nl4) df.ad.symm, (e1.mono fun _ _ z => z.ks kk).snoc (th.ks k4), e2.mono fun _ _ z => z.ks kk, e3.mono fun _ _ z => z.ks kk, e4.mono fun _ _ z => z.ks kk⟩ fun b o e n1 n2 => yk _ _ (y _ _ e n1) n2
    · obtain ⟨s, hst, hl, few, ok, hno,  k⟩ := hc
      have nd : d ≠ l := by
        obtain ⟨_, _, _, _, z, _⟩ := hl
        exact ne_ins ho z (by show 5 ≠ 4; decide)
      have nl1 : l1 ≠ l := by
        obtain ⟨_, _, _, _, z, _⟩ := hl
        exact ne_of hl1 z (by intro q; cases q)
      have nl2 : l2 ≠ l := by
        obtain ⟨_, _, _, _, z, _⟩ := hl
        exact ne_of hl2 z (by intro q; cases q)
      have nl3 : l3 ≠ l := by
        obtain ⟨_, _, _, _, z, _⟩ := hl
        exact ne_of hl3 z (by intro q; cases q)
      have nl4 : l4 ≠ l := by
        obtain ⟨_, _, _, _, z, _⟩ := hl
        exact ne_of hl4 z (by intro q; cases q)
      have L0 := LnSt.refl hl
      obtain ⟨dx0, lw0, nu0, co0, q0, r0⟩ := L0.at_
      walk_at "sx"
      refine ⟨l, _, 0, lit "station", rfl, L0.at_, rfl, (lok "station").1, ?_⟩
      walk_at "sx"
      refine ⟨_, _, rfl, .inr (T.kinds _), rfl, rfl, ?_⟩
      walk_at "sx"
      refine x_nay (by decide +kernel) ?_
      walk_at "sx"
      refine ⟨.inr (.inl ⟨rfl, T.kindsT⟩), ?_⟩
      walk_at "sx"
      refine ⟨_, [Str.ofString "satellite", Str.ofString "station", Str.ofString "recording", Str.ofString "pass"], _, 1, rfl, rfl, T.kinds _, congrArg some (lit_S _), (by
        intro m hm
        have hc : m = 0 := by omega
        subst hc
        decide +kernel), ?_⟩
      walk_at "sx"
      refine x_nay (decide_eq_false (by omega)) ?_
      have ix1 : atI [V.ref l1, V.ref l2, V.ref l3, V.ref l4] ((1 : Nat) : Int) = some (V.ref l2) := atI_nat rfl
      have ix2 : atI [V.int 3, V.int 3, V.int 10, V.int 10] ((1 : Nat) : Int) = some (V.int 3) := atI_nat rfl
      walk_at "sx"
      refine ⟨show 4 ≤ sizeLine by decide, fun p1 hp1 => ?_⟩
      walk_at "sx"
      refine ⟨show 4 ≤ sizeLine by decide, fun p2 hp2 => ?_⟩
      have sb : Same H (upd (upd H p1 (.tup [V.ref l1, V.ref l2, V.ref l3, V.ref l4])) p2 (.tup [V.int 3, V.int 3, V.int 10, V.int 10])) := same_upd (same_upd (Same.refl _) hp1) hp2
      have hp2' : (upd (upd H p1 (.tup [V.ref l1, V.ref l2, V.ref l3, V.ref l4])) p2 (.tup [V.int 3, V.int 3, V.int 10, V.int 10])) p2 = some (.tup [V.int 3, V.int 3, V.int 10, V.int 10]) := upd_same
      generalize upd (upd H p1 (.tup [V.ref l1, V.ref l2, V.ref l3, V.ref l4])) p2 (.tup [V.int 3, V.int 3, V.int 10, V.int 10]) = Hb at sb hp2' ⊢
      have hlkb := sb _ _ hl2
      have qb := sb _ _ q0
      walk_at "sx"
      refine x_nay (int_ne (by rw [List.length_map]; have := e2.1; omega)) ?_
      walk_at "sx"
      refine ⟨l, _, 0, _, Hb, rfl, LnSt.refl (L0.at_.same sb), rfl, (lok "station").2.1, fun H1 L1 => ?_⟩
      obtain ⟨dx1, lw1, nu1, co1, q1, r1⟩ := L1.at_
      walk_at "sx"
      have ksb := Ks.same sb
      refine ⟨l2, tas, W.stas.map (·.name), rfl, L1.keep _ _ hlkb nl2, by rw [List.length_map]; exact e2.1, by rw [List.length_map]; omega, named_stas T (e2.mono fun _ _ z => (z.ks ksb).kp (kpO_line (L0.at_.same sb) L1.keep)), fun Hn pn sn hpn hpl => ?_⟩
      walk_at "sx"
      refine ⟨l, pn, _, W.stas.map (·.name), 1, s.name, Hb, rfl, L1.same sn, hpl, rfl, ok.name, hno, fun H2 L2 => ?_⟩
      obtain ⟨dx2, lw2, nu2, co2, q2, r2⟩ := L2.at_
      have ho2 := L2.keep _ _ (sb _ _ ho) nd
      have hlk2 := L2.keep _ _ hlkb nl2
      walk_at "sx"
      refine x_nay (int_ne (by decide)) ?_
      walk_at "sx"
      refine x_yes (int_eq rfl) ?_
      walk_at "sx"
      obtain ⟨ok1, ok2, ok3⟩ := id ok
      refine ⟨l, _, 2, _, lit "antennas", s.ant, _, _, H2, rfl, lit_S _, LnSt.refl L2.at_, rfl, lok _, rfl, by omega, by omega, by omega, by omega, fun Hx Lx => ?_⟩
      obtain ⟨dxx, lwx, nux, cox, qx, rx⟩ := Lx.at_
      walk_at "sx"
      refine ⟨l, _, 4, _, lit "turn", s.turn, _, _, H2, rfl, lit_S _, Lx, rfl, lok _, rfl, by omega, by omega, by omega, by omega, fun Hy Ly => ?_⟩
      walk_at "sx"
      intro a dxa ha hdxa hnea
      refine ⟨a, dxa, _, _, _, rfl, upd_same, fun H3 g1 g2 => ⟨rfl, ?_⟩⟩
      have s9 := stay_made ha hdxa g2
      have Lz := Ly.same s9
      have L3 : LnAt K H3 l (staW s) (staW s).length := Lz.at_
      have y3 : Stay l H2 H3 := Lz.keep
      have th : StaAt K H3 a s := ⟨dxa, g1⟩
      walk_at "sx"
      have y : Stay l H H3 := fun b o e n => y3 b o (L2.keep b o (sb _ _ e) n) n
      have nlk := nl2
      have hlk3 := y _ _ hl2 nlk
      refine x_app hlk3 (by rw [List.length_map]; have := e2.1; omega) ?_
      have ndk : d ≠ l2 := ne_of ho hl2 (by intro q; cases q)
      obtain ⟨dx4, lw4, nu4, co4, q4, r4⟩ := id L3
      have Lm : LnAt K (upd H3 l2 (.lst (tas.map V.ref ++ [V.ref a]))) l (staW s) ((staW s).length) := ⟨dx4, lw4, nu4, co4, (upd_ne nlk.symm).trans q4, (upd_ne (ne_of r4 hlk3 (by intro q; injection q with q; exact txts_ne (by simp [satW, staW, recW, pasW]) q))).trans r4⟩
      have yk : ∀ b o, H3 b = some o → b ≠ l2 → upd H3 l2 (.lst (tas.map V.ref ++ [V.ref a])) b = some o := fun b o e n => (upd_ne n).trans e
      have hk4 : upd H3 l2 (.lst (tas.map V.ref ++ [V.ref a])) l2 = some (.lst ((tas ++ [a]).map V.ref)) := by
        rw [List.map_append]
        exact upd_same
      generalize upd H3 l2 (.lst (tas.map V.ref ++ [V.ref a])) = H4 at Lm yk hk4 ⊢
      obtain ⟨dx5, lw5, nu5, co5, q5, r5⟩ := id Lm
      walk_at "sx"
      refine ⟨l, staW s, rfl, Lm, ?_⟩
      walk_at "sx"
      have k3 : Ks H H3 := Ks.ofO (kpO_line hl y)
      have k4 : Ks H3 H4 := Ks.ofO (odd_lst' _ hlk3 yk)
      have kk := k3.trans k4
      exact k H4 a ⟨yk _ _ (y _ _ ho nd) ndk, yk _ _ (y _ _ hl1 nl1) df.ab, hk4, yk _ _ (y _ _ hl3 nl3) df.bc.symm, yk _ _ (y _ _ hl4 nl4) df.bd.symm, e1.mono fun _ _ z => z.ks kk, (e2.mono fun _ _ z => z.ks kk).snoc (th.ks k4), e3.mono fun _ _ z => z.ks kk, e4.mono fun _ _ z => z.ks kk⟩ fun b o e n1 n2 => yk _ _ (y _ _ e n1) n2
    · obtain ⟨s, hst, hl, few, ok, hno, w1, w2, w3, k⟩ := hc
      have nd : d ≠ l := by
        obtain ⟨_, _, _, _, z, _⟩ := hl
        exact ne_ins ho z (by show 5 ≠ 4; decide)
      have nl1 : l1 ≠ l := by
        obtain ⟨_, _, _, _, z, _⟩ := hl
        exact ne_of hl1 z (by intro q; cases q)
      have nl2 : l2 ≠ l := by
        obtain ⟨_, _, _, _, z, _⟩ := hl
        exact ne_of hl2 z (by intro q; cases q)
      have nl3 : l3 ≠ l := by
        obtain ⟨_, _, _, _, z, _⟩ := hl
        exact ne_of hl3 z (by intro q; cases q)
      have nl4 : l4 ≠ l := by
        obtain ⟨_, _, _, _, z, _⟩ := hl
        exact ne_of hl4 z (by intro q; cases q)
      have L0 := LnSt.refl hl
      obtain ⟨dx0, lw0, nu0, co0, q0, r0⟩ := L0.at_
      walk_at "sx"
      refine ⟨l, _, 0, lit "recording", rfl, L0.at_, rfl, (lok "recording").1, ?_⟩
      walk_at "sx"
      refine ⟨_, _, rfl, .inr (T.kinds _), rfl, rfl, ?_⟩
      walk_at "sx"
      refine x_nay (by decide +kernel) ?_
      walk_at "sx"
      refine ⟨.inr (.inl ⟨rfl, T.kindsT⟩), ?_⟩
      walk_at "sx"
      refine ⟨_, [Str.ofString "satellite", Str.ofString "station", Str.ofString "recording", Str.ofString "pass"], _, 2, rfl, rfl, T.kinds _, congrArg some (lit_S _), (by
        intro m hm
        have hc : m = 0 ∨ m = 1 := by omega
        rcases hc with rfl | rfl <;> decide +kernel), ?_⟩
      walk_at "sx"
      refine x_nay (decide_eq_false (by omega)) ?_
      have ix1 : atI [V.ref l1, V.ref l2, V.ref l3, V.ref l4] ((2 : Nat) : Int) = some (V.ref l3) := atI_nat rfl
      have ix2 : atI [V.int 3, V.int 3, V.int 10, V.int 10] ((2 : Nat) : Int) = some (V.int 10) := atI_nat rfl
      walk_at "sx"
      refine ⟨show 4 ≤ sizeLine by decide, fun p1 hp1 => ?_⟩
      walk_at "sx"
      refine ⟨show 4 ≤ sizeLine by decide, fun p2 hp2 => ?_⟩
      have sb : Same H (upd (upd H p1 (.tup [V.ref l1, V.ref l2, V.ref l3, V.ref l4])) p2 (.tup [V.int 3, V.int 3, V.int 10, V.int 10])) := same_upd (same_upd (Same.refl _) hp1) hp2
      have hp2' : (upd (upd H p1 (.tup [V.ref l1, V.ref l2, V.ref l3, V.ref l4])) p2 (.tup [V.int 3, V.int 3, V.int 10, V.int 10])) p2 = some (.tup [V.int 3, V.int 3, V.int 10, V.int 10]) := upd_same
      generalize upd (upd H p1 (.tup [V.ref l1, V.ref l2, V.ref l3, V.ref l4])) p2 (.tup [V.int 3, V.int 3, V.int 10, V.int 10]) = Hb at sb hp2' ⊢
      have hlkb := sb _ _ hl3
      have qb := sb _ _ q0
      walk_at "sx"
      refine x_nay (int_ne (by rw [List.length_map]; have := e3.1; omega)) ?_
      walk_at "sx"
      refine ⟨l, _, 0, _, Hb, rfl, LnSt.refl (L0.at_.same sb), rfl, (lok "recording").2.1, fun H1 L1 => ?_⟩
      obtain ⟨dx1, lw1, nu1, co1, q1, r1⟩ := L1.at_
      walk_at "sx"
      have ksb := Ks.same sb
      refine ⟨l3, ras, W.recs.map (·.name), rfl, L1.keep _ _ hlkb nl3, by rw [List.length_map]; exact e3.1, by rw [List.length_map]; omega, named_recs T (e3.mono fun _ _ z => (z.ks ksb).kp (kpO_line (L0.at_.same sb) L1.keep)), fun Hn pn sn hpn hpl => ?_⟩
      walk_at "sx"
      refine ⟨l, pn, _, W.recs.map (·.name), 1, s.name, Hb, rfl, L1.same sn, hpl, rfl, ok.name, hno, fun H2 L2 => ?_⟩
      obtain ⟨dx2, lw2, nu2, co2, q2, r2⟩ := L2.at_
      have ho2 := L2.keep _ _ (sb _ _ ho) nd
      have hlk2 := L2.keep _ _ hlkb nl3
      walk_at "sx"
      refine x_nay (int_ne (by decide)) ?_
      walk_at "sx"
      refine x_nay (int_ne (by decide)) ?_
      walk_at "sx"
      refine x_yes (int_eq rfl) ?_
      walk_at "sx"
      refine ⟨d, l, dd, l1, _, _, _, sas, W.hor, W.sats, s, rfl, ho2, hh1, hh, L2.keep _ _ (sb _ _ hl1) nl1, (e1.mono fun _ _ z => (z.ks ksb).kp (kpO_line (L0.at_.same sb) L2.keep)), w1, w2, w3, ok, L2.at_, fun H3 a L3 y3 th => ?_⟩
      walk_at "sx"
      have y : Stay l H H3 := fun b o e n => y3 b o (L2.keep b o (sb _ _ e) n) n
      have nlk := nl3
      have hlk3 := y _ _ hl3 nlk
      refine x_app hlk3 (by rw [List.length_map]; have := e3.1; omega) ?_
      have ndk : d ≠ l3 := ne_of ho hl3 (by intro q; cases q)
      obtain ⟨dx4, lw4, nu4, co4, q4, r4⟩ := id L3
      have Lm : LnAt K (upd H3 l3 (.lst (ras.map V.ref ++ [V.ref a]))) l (recW W.sn s) ((recW W.sn s).length) := ⟨dx4, lw4, nu4, co4, (upd_ne nlk.symm).trans q4, (upd_ne (ne_of r4 hlk3 (by intro q; injection q with q; exact txts_ne (by simp [satW, staW, recW, pasW]) q))).trans r4⟩
      have yk : ∀ b o, H3 b = some o → b ≠ l3 → upd H3 l3 (.lst (ras.map V.ref ++ [V.ref a])) b = some o := fun b o e n => (upd_ne n).trans e
      have hk4 : upd H3 l3 (.lst (ras.map V.ref ++ [V.ref a])) l3 = some (.lst ((ras ++ [a]).map V.ref)) := by
        rw [List.map_append]
        exact upd_same
      generalize upd H3 l3 (.lst (ras.map V.ref ++ [V.ref a])) = H4 at Lm yk hk4 ⊢
      obtain ⟨dx5, lw5, nu5, co5, q5, r5⟩ := id Lm
      walk_at "sx"
      refine ⟨l, recW W.sn s, rfl, Lm, ?_⟩
      walk_at "sx"
      have k3 : Ks H H3 := Ks.ofO (kpO_line hl y)
      have k4 : Ks H3 H4 := Ks.ofO (odd_lst' _ hlk3 yk)
      have kk := k3.trans k4
      exact k H4 a ⟨yk _ _ (y _ _ ho nd) ndk, yk _ _ (y _ _ hl1 nl1) df.ac, yk _ _ (y _ _ hl2 nl2) df.bc, hk4, yk _ _ (y _ _ hl4 nl4) df.cd.symm, e1.mono fun _ _ z => z.ks kk, e2.mono fun _ _ z => z.ks kk, (e3.mono fun _ _ z => z.ks kk).snoc (th.ks k4), e4.mono fun _ _ z => z.ks kk⟩ fun b o e n1 n2 => yk _ _ (y _ _ e n1) n2
    · obtain ⟨s, hst, hl, few, ok, hno, w1, w2, w3, w4, w5, w6, k⟩ := hc
      have nd : d ≠ l := by
        obtain ⟨_, _, _, _, z, _⟩ := hl
        exact ne_ins ho z (by show 5 ≠ 4; decide)
      have nl1 : l1 ≠ l := by
        obtain ⟨_, _, _, _, z, _⟩ := hl
        exact ne_of hl1 z (by intro q; cases q)
      have nl2 : l2 ≠ l := by
        obtain ⟨_, _, _, _, z, _⟩ := hl
        exact ne_of hl2 z (by intro q; cases q)
      have nl3 : l3 ≠ l := by
        obtain ⟨_, _, _, _, z, _⟩ := hl
        exact ne_of hl3 z (by intro q; cases q)
      have nl4 : l4 ≠ l := by
        obtain ⟨_, _, _, _, z, _⟩ := hl
        exact ne_of hl4 z (by intro q; cases q)
      have L0 := LnSt.refl hl
      obtain ⟨dx0, lw0, nu0, co0, q0, r0⟩ := L0.at_
      walk_at "sx"
      refine ⟨l, _, 0, lit "pass", rfl, L0.at_, rfl, (lok "pass").1, ?_⟩
      walk_at "sx"
      refine ⟨_, _, rfl, .inr (T.kinds _), rfl, rfl, ?_⟩
      walk_at "sx"
      refine x_nay (by decide +kernel) ?_
      walk_at "sx"
      refine ⟨.inr (.inl ⟨rfl, T.kindsT⟩), ?_⟩
      walk_at "sx"
      refine ⟨_, [Str.ofString "satellite", Str.ofString "station", Str.ofString "recording", Str.ofString "pass"], _, 3, rfl, rfl, T.kinds _, congrArg some (lit_S _), (by
        intro m hm
        have hc : m = 0 ∨ m = 1 ∨ m = 2 := by omega
        rcases hc with rfl | rfl | rfl <;> decide +kernel), ?_⟩
      walk_at "sx"
      refine x_nay (decide_eq_false (by omega)) ?_
      have ix1 : atI [V.ref l1, V.ref l2, V.ref l3, V.ref l4] ((3 : Nat) : Int) = some (V.ref l4) := atI_nat rfl
      have ix2 : atI [V.int 3, V.int 3, V.int 10, V.int 10] ((3 : Nat) : Int) = some (V.int 10) := atI_nat rfl
      walk_at "sx"
      refine ⟨show 4 ≤ sizeLine by decide, fun p1 hp1 => ?_⟩
      walk_at "sx"
      refine ⟨show 4 ≤ sizeLine by decide, fun p2 hp2 => ?_⟩
      have sb : Same H (upd (upd H p1 (.tup [V.ref l1, V.ref l2, V.ref l3, V.ref l4])) p2 (.tup [V.int 3, V.int 3, V.int 10, V.int 10])) := same_upd (same_upd (Same.refl _) hp1) hp2
      have hp2' : (upd (upd H p1 (.tup [V.ref l1, V.ref l2, V.ref l3, V.ref l4])) p2 (.tup [V.int 3, V.int 3, V.int 10, V.int 10])) p2 = some (.tup [V.int 3, V.int 3, V.int 10, V.int 10]) := upd_same
      generalize upd (upd H p1 (.tup [V.ref l1, V.ref l2, V.ref l3, V.ref l4])) p2 (.tup [V.int 3, V.int 3, V.int 10, V.int 10]) = Hb at sb hp2' ⊢
      have hlkb := sb _ _ hl4
      have qb := sb _ _ q0
      walk_at "sx"
      refine x_nay (int_ne (by rw [List.length_map]; have := e4.1; omega)) ?_
      walk_at "sx"
      refine ⟨l, _, 0, _, Hb, rfl, LnSt.refl (L0.at_.same sb), rfl, (lok "pass").2.1, fun H1 L1 => ?_⟩
      obtain ⟨dx1, lw1, nu1, co1, q1, r1⟩ := L1.at_
      walk_at "sx"
      have ksb := Ks.same sb
      refine ⟨l4, pas, W.pass.map (·.name), rfl, L1.keep _ _ hlkb nl4, by rw [List.length_map]; exact e4.1, by rw [List.length_map]; omega, named_pass T (e4.mono fun _ _ z => (z.ks ksb).kp (kpO_line (L0.at_.same sb) L1.keep)), fun Hn pn sn hpn hpl => ?_⟩
      walk_at "sx"
      refine ⟨l, pn, _, W.pass.map (·.name), 1, s.name, Hb, rfl, L1.same sn, hpl, rfl, ok.name, hno, fun H2 L2 => ?_⟩
      obtain ⟨dx2, lw2, nu2, co2, q2, r2⟩ := L2.at_
      have ho2 := L2.keep _ _ (sb _ _ ho) nd
      have hlk2 := L2.keep _ _ hlkb nl4
      walk_at "sx"
      refine x_nay (int_ne (by decide)) ?_
      walk_at "sx"
      refine x_nay (int_ne (by decide)) ?_
      walk_at "sx"
      refine x_nay (int_ne (by decide)) ?_
      walk_at "sx"
      refine ⟨d, l, dd, l1, l2, _, _, sas, tas, W.hor, W.sats, W.stas, s, rfl, ho2, hh1, hh, L2.keep _ _ (sb _ _ hl1) nl1, (e1.mono fun _ _ z => (z.ks ksb).kp (kpO_line (L0.at_.same sb) L2.keep)), w1, w2, w3, L2.keep _ _ (sb _ _ hl2) nl2, (e2.mono fun _ _ z => (z.ks ksb).kp (kpO_line (L0.at_.same sb) L2.keep)), w4, w5, w6, ok, L2.at_, fun H3 a L3 y3 th => ?_⟩
      walk_at "sx"
      have y : Stay l H H3 := fun b o e n => y3 b o (L2.keep b o (sb _ _ e) n) n
      have nlk := nl4
      have hlk3 := y _ _ hl4 nlk
      refine x_app hlk3 (by rw [List.length_map]; have := e4.1; omega) ?_
      have ndk : d ≠ l4 := ne_of ho hl4 (by intro q; cases q)
      obtain ⟨dx4, lw4, nu4, co4, q4, r4⟩ := id L3
      have Lm : LnAt K (upd H3 l4 (.lst (pas.map V.ref ++ [V.ref a]))) l (pasW W.sn W.tn s) ((pasW W.sn W.tn s).length) := ⟨dx4, lw4, nu4, co4, (upd_ne nlk.symm).trans q4, (upd_ne (ne_of r4 hlk3 (by intro q; injection q with q; exact txts_ne (by simp [satW, staW, recW, pasW]) q))).trans r4⟩
      have yk : ∀ b o, H3 b = some o → b ≠ l4 → upd H3 l4 (.lst (pas.map V.ref ++ [V.ref a])) b = some o := fun b o e n => (upd_ne n).trans e
      have hk4 : upd H3 l4 (.lst (pas.map V.ref ++ [V.ref a])) l4 = some (.lst ((pas ++ [a]).map V.ref)) := by
        rw [List.map_append]
        exact upd_same
      generalize upd H3 l4 (.lst (pas.map V.ref ++ [V.ref a])) = H4 at Lm yk hk4 ⊢
      obtain ⟨dx5, lw5, nu5, co5, q5, r5⟩ := id Lm
      walk_at "sx"
      refine ⟨l, pasW W.sn W.tn s, rfl, Lm, ?_⟩
      walk_at "sx"
      have k3 : Ks H H3 := Ks.ofO (kpO_line hl y)
      have k4 : Ks H3 H4 := Ks.ofO (odd_lst' _ hlk3 yk)
      have kk := k3.trans k4
      exact k H4 a ⟨yk _ _ (y _ _ ho nd) ndk, yk _ _ (y _ _ hl1 nl1) df.ad, yk _ _ (y _ _ hl2 nl2) df.bd, yk _ _ (y _ _ hl3 nl3) df.cd, hk4, e1.mono fun _ _ z => z.ks kk, e2.mono fun _ _ z => z.ks kk, e3.mono fun _ _ z => z.ks kk, (e4.mono fun _ _ z => z.ks kk).snoc (th.ks k4)⟩ fun b o e n1 n2 => yk _ _ (y _ _ e n1) n2
end
end Dp
namespace Dp
open PySem PySem.Spec PyProof.Rows L2 SX
/-! ### a text is read -/
/-- the world after i lines -/
def pw (W : Wd) (i : Nat) : Wd := ⟨W.hor, W.sats.take i, W.stas.take (i - W.sats.length), W.recs.take (i - W.sats.length - W.stas.length), W.pass.take (i - W.sats.length - W.stas.length - W.recs.length)⟩
theorem pw_end {W : Wd} {i : Nat} (h : i = (restW W).length) : pw W i = W := by
  unfold restW at h
  rw [List.length_append, List.length_append, List.length_append, List.length_map, List.length_map, List.length_map, List.length_map] at h
  unfold pw
  rw [List.take_of_length_le (by omega), List.take_of_length_le (by omega), List.take_of_length_le (by omega), List.take_of_length_le (by omega)]
/-- which line it is -/
theorem rest_at (W : Wd) {i : Nat} {ws : List (List Nat)} (h : (restW W)[i]? = some ws) :
    (∃ s, W.sats[i]? = some s ∧ ws = satW s ∧ i < W.sats.length) ∨ (∃ s, W.stas[i - W.sats.length]? = some s ∧ ws = staW s ∧ W.sats.length ≤ i ∧ i - W.sats.length < W.stas.length) ∨
    (∃ s, W.recs[i - W.sats.length - W.stas.length]? = some s ∧ ws = recW W.sn s ∧ W.sats.length + W.stas.length ≤ i ∧ i - W.sats.length - W.stas.length < W.recs.length) ∨
    (∃ s, W.pass[i - W.sats.length - W.stas.length - W.recs.length]? = some s ∧ ws = pasW W.sn W.tn s ∧ W.sats.length + W.stas.length + W.recs.length ≤ i) := by
  unfold restW at h
  by_cases h1 : i < W.sats.length
  · rw [List.getElem?_append_left (by rw [List.length_map]; exact h1), List.getElem?_map, List.getElem?_eq_getElem h1] at h
    exact .inl ⟨_, List.getElem?_eq_getElem h1, (Option.some.inj h).symm, h1⟩
  rw [List.getElem?_append_right (by rw [List.length_map]; omega), List.length_map] at h
  by_cases h2 : i - W.sats.length < W.stas.length
  · rw [List.getElem?_append_left (by rw [List.length_map]; exact h2), List.getElem?_map, List.getElem?_eq_getElem h2] at h
    exact .inr (.inl ⟨_, List.getElem?_eq_getElem h2, (Option.some.inj h).symm, by omega, h2⟩)
  rw [List.getElem?_append_right (by rw [List.length_map]; omega), List.length_map] at h
  by_cases h3 : i - W.sats.length - W.stas.length < W.recs.length
  · rw [List.getElem?_append_left (by rw [List.length_map]; exact h3), List.getElem?_map, List.getElem?_eq_getElem h3] at h
    exact .inr (.inr (.inl ⟨_, List.getElem?_eq_getElem h3, (Option.some.inj h).symm, by omega, h3⟩))
  rw [List.getElem?_append_right (by rw [List.length_map]; omega), List.length_map, List.getElem?_map] at h
  refine .inr (.inr (.inr ?_))
  cases e : W.pass[i - W.sats.length - W.stas.length - W.recs.length]? with
  | none =>
    rw [e] at h
    cases h
  | some s =>
    rw [e] at h
    exact ⟨s, rfl, (Option.some.inj h).symm, by omega⟩
/-- the name of one thing is not among those before it -/
theorem new_name {α : Type} {l : List α} {f : α → List Nat} {i : Nat} {x : α} (hd : (l.map f).Nodup) (h : l[i]? = some x) : f x ∉ (l.take i).map f := by
  intro hm
  obtain ⟨j, hj⟩ := List.mem_iff_getElem?.mp hm
  rw [List.getElem?_map] at hj
  have hlt : j < i := by
    cases e : (l.take i)[j]? with
    | none =>
      rw [e] at hj
      cases hj
    | some y =>
      have z := (List.getElem?_eq_some_iff.mp e).1
      rw [List.length_take] at z
      omega
  rw [List.getElem?_take_of_lt hlt, ← List.getElem?_map] at hj
  have hi : (l.map f)[i]? = some (f x) := by
    rw [List.getElem?_map, h]
    rfl
  have := nd_ix hd hj hi
  omega
theorem DAt.same {K : PySem.W.Frag} {H H' : Hp} {d dx l1 l2 l3 l4 : Addr} {sas tas ras pas : List Addr} {W : Wd} (D : DAt K H d dx l1 l2 l3 l4 sas tas ras pas W) (s : Same H H') : DAt K H' d dx l1 l2 l3 l4 sas tas ras pas W :=
  ⟨s _ _ D.o, s _ _ D.h1, s _ _ D.h2, s _ _ D.h3, s _ _ D.h4, D.e1.mono fun _ _ z => z.same s, D.e2.mono fun _ _ z => z.same s, D.e3.mono fun _ _ z => z.same s, D.e4.mono fun _ _ z => z.same s⟩
/-- one line was read: the draft holds one thing more -/
structure Pst (K : PySem.W.Frag) (H1 : Hp) (q d dd l1 l2 l3 l4 : Addr) (rest : List Addr) (W : Wd) (i : Nat) (st : Int) (H' : Hp) : Prop where
  dr : ∃ sas tas ras pas : List Addr, DAt K H' d dd l1 l2 l3 l4 sas tas ras pas (pw W i)
  ln : ∀ (j : Nat) (a : Addr) (ws : List (List Nat)), i ≤ j → rest[j]? = some a → (restW W)[j]? = some ws → LnAt K H' a ws 0
  q : H' q = some (.lst (rest.map V.ref))
  keep : Same H1 H'
  s0 : i ≤ W.sats.length → st ≤ 0
  s1 : i ≤ W.sats.length + W.stas.length → st ≤ 1
  s2 : i ≤ W.sats.length + W.stas.length + W.recs.length → st ≤ 2
  s3 : st ≤ 3
/-- what stays fixed about the places -/
structure Pfx (H1 : Hp) (q l1 l2 l3 l4 : Addr) (rest : List Addr) : Prop where
  df : Dif l1 l2 l3 l4
  q1 : q ≠ l1
  q2 : q ≠ l2
  q3 : q ≠ l3
  q4 : q ≠ l4
  f1 : H1 l1 = none
  f2 : H1 l2 = none
  f3 : H1 l3 = none
  f4 : H1 l4 = none
  nd : rest.Nodup
  new : ∀ a ∈ rest, H1 a = none
/-- lines but the one read, the list of lines and the old heap stay -/
theorem Pst.rest {K : PySem.W.Frag} {H1 : Hp} {q d dd l1 l2 l3 l4 : Addr} {rest : List Addr} {W : Wd} {i : Nat} {st : Int} {H' H2 : Hp} {a lk : Addr} {xs : List Addr} (p : Pst K H1 q d dd l1 l2 l3 l4 rest W i st H') (hn : rest.Nodup) (hnew : ∀ a ∈ rest, H1 a = none) (hw : ∀ ws ∈ restW W, LineOk ws)
    (ha : rest[i]? = some a) (hi : i < (restW W).length) (hk : H' lk = some (.lst (xs.map V.ref))) (h1 : H1 lk = none) (hq : q ≠ lk) (t : Two a lk H' H2) :
    (∀ (j : Nat) (a : Addr) (ws : List (List Nat)), i + 1 ≤ j → rest[j]? = some a → (restW W)[j]? = some ws → LnAt K H2 a ws 0) ∧ H2 q = some (.lst (rest.map V.ref)) ∧ Same H1 H2 := by
  obtain ⟨dxa, lwa, nua, coa, qa, ra⟩ := p.ln i a _ (Nat.le_refl _) ha (List.getElem?_eq_getElem hi)
  refine ⟨fun j b ws hj hb hws => ?_, t _ _ p.q (ne_of p.q qa (by intro q; cases q)) hq, fun b o e => t _ _ (p.keep _ _ e) (ne_of_none e (hnew a (List.mem_of_getElem? ha))) (ne_of_none e h1)⟩
  obtain ⟨dx, lw, nu, co, g1, g2⟩ := p.ln j b ws (by omega) hb hws
  have hne : b ≠ a := fun e => by
    subst e
    have := nd_ix hn ha hb
    omega
  have hws' := (hw ws (List.mem_of_getElem? hws)).1
  exact ⟨dx, lw, nu, co, t _ _ g1 hne (ne_of g1 hk (by intro q; cases q)), t _ _ g2 (ne_of g2 qa (by intro q; cases q)) (ne_of g2 hk (by intro q; injection q with q; exact txts_ne hws' q))⟩
def spParse (K : PySem.W.Frag) : Sp := fun vs H Q _ => ∃ W : Wd, vs = [.str (S (textOf W))] ∧ WOk W ∧ ∀ (H' : Hp) (a : Addr), Same H H' → TxAt K H' a (textOf W) → Q (.ref a) H'
section
variable {P : Program} {w : World} {K : PySem.W.Frag} {mg : Str → Option Value} {base : Heap}
theorem sc_World_parse : FnScope ["text", "lines", "draft", "stage", "line"] ["text"] (defScope s_World_parse) := ⟨rfl, rfl, rfl, by decide +kernel, rfl, by decide +kernel, by decide +kernel⟩
theorem ok_parse (T : Tx K mg) (k_Line_take_field : C8.Met P w K mg base 4 (cLine K) "take_field" (spTakeField K) []) (k_Line_finish : C8.Met P w K mg base 2 (cLine K) "finish" (spFinish K) []) (k_lines_of : C8.Cal P w K mg base 3 "lines_of" (spLinesOf K) []) (k_read_line : C8.Cal P w K mg base 6 "read_line" (spReadLine K) []) (k_Draft : C8.Mak P w K mg base 1 "Draft" (cDraft K) (spDraft K) []) (k_World : C8.Mak P w K mg base 3 "World" (cWorld K) (spWorld K) []) : ∃ fd, FnOk P w K mg base C8.CX0 7 (d_World_parse.at_ K) fd ["text"] (spParse K) ∧ Binds K fd ["text"] [] ∧ PySem.W.keepIn K (.ref (d_World_parse.at_ K)) = true := by
  obtain ⟨fd, F⟩ := T.f_World_parse
  refine ⟨fd, F.ok sc_World_parse ?_ ?_, F.bindsN (ps := ["text"]) fun _ _ _ _ _ _ us hl => match us, hl with | [_], _ => rfl, F.kp⟩
  · rintro vs H Q E ⟨W, rfl, _⟩
    rfl
  · rintro cdv A outer st H vs Q E hr ⟨W, rfl, ok, k⟩
    refine ⟨_, PSs.nox (pss_cons (ps_set (i := 1) sc_World_parse.nd rfl (Or.inl rfl) (C8.pe_c k_lines_of hr (by decide) (by rfl) (pa_cons (pv 0) pa_nil)))
      (pss_cons (ps_if (pt_cmpR op_eq (pe_callB call_len_seq (by rfl) T.free_len PySem.boot_len (pa_cons (pv 1) pa_nil)) (pe_int) (nomark _)) (pss_one (ps_never)) (pss_nil))
      (pss_cons (ps_set (i := 2) sc_World_parse.nd rfl (Or.inl rfl) (C8.pe_mk k_Draft hr (by decide) (by rfl) (pa_cons (C8.pe_mt k_Line_take_field hr (by decide) (pe_ix ix_list (pv 1) (pe_int) (fun _ _ => rfl)) (pa_cons (pe_str) (pa_cons (pe_int) (pa_cons (ClX.pe_cval (pe_glob (v := .ref (cWorld K)) (by rfl) T.glo_World rfl)) pa_nil)))) pa_nil)))
      (pss_cons (ps_expr (C8.pe_mt0 k_Line_finish hr (by decide) (pe_ix ix_list (pv 1) (pe_int) (fun _ _ => rfl))))
      (pss_cons (ps_set (i := 3) sc_World_parse.nd rfl (Or.inl rfl) (pe_int))
      (pss_cons (ps_for PassesOwn.never rfl (pi_list (pe_slice sl_list (pv 1) (po_some (pe_int)) po_none)) (pg_name (i := 4) sc_World_parse.nd rfl (Or.inl rfl))
        (pss_one (ps_set (i := 3) sc_World_parse.nd rfl (Or.inl rfl) (C8.pe_c k_read_line hr (by decide) (by rfl) (pa_cons (pv 2) (pa_cons (pv 4) (pa_cons (pv 3) pa_nil)))))))
      (pss_one (ps_ret (C8.pe_mk k_World hr (by decide) (by rfl) (pa_cons (pv 2) pa_nil)))))))))), ?_⟩
    try dsimp only [cxK]
    walk_at "sx"
    refine ⟨textOf W, worldW W, rfl, text_ne ok, Nat.le_trans (text_len ok) (by decide), text_split ok, ok.lines, Nat.le_trans ok.many (by decide), fun H1 p as s1 hp hpl LA => ?_⟩
    have hlen : as.length = (restW W).length + 1 := LA.len
    obtain ⟨a0, rest, rfl⟩ : ∃ a0 rest, as = a0 :: rest := by
      cases as with
      | nil =>
        rw [List.length_nil] at hlen
        omega
      | cons a r => exact ⟨a, r, rfl⟩
    have hlr : rest.length = (restW W).length := by
      rw [List.length_cons] at hlen
      omega
    have hmany : (restW W).length ≤ 26 := by
      have z : (restW W).length + 1 ≤ 27 := ok.many
      omega
    have hh := ok.hor
    obtain ⟨nd1, nd2⟩ := List.nodup_cons.mp LA.nd
    have ha0 : atI ((a0 :: rest).map V.ref) 0 = some (V.ref a0) := atI_nat (j := 0) rfl
    have L0 := LA.at_ 0 a0 _ rfl (show (worldW W)[0]? = some (horW W.hor) from rfl)
    obtain ⟨dx0, lw0, nu0, co0, q0, r0⟩ := id L0
    walk_at "sx"
    refine x_nay (int_ne (by rw [List.length_map, List.length_cons]; omega)) ?_
    walk_at "sx"
    refine ⟨a0, _, 0, _, lit "horizon", W.hor, _, _, H1, rfl, lit_S _, LnSt.refl L0, rfl, lok _, rfl, by omega, by omega, by omega, by omega, fun H2 L2 => ?_⟩
    walk_at "sx"
    intro d dd hd hdd hnd
    refine ⟨d, dd, _, rfl, upd_same, fun H3 l1 l2 l3 l4 g o1 o2 o3 o4 f1 f2 f3 f4 n12 n13 n14 n23 n24 n34 sy => ⟨rfl, ?_⟩⟩
    have s3 := stay_made hd hdd sy
    have fr : ∀ l : Addr, upd (upd H2 dd (.own d)) d (.ins (cDraft K) dd []) l = none → H2 l = none := fun l e => by
      have n1 : l ≠ d := fun q => by
        rw [q, upd_same] at e
        cases e
      rw [upd_ne n1] at e
      have n2 : l ≠ dd := fun q => by
        rw [q, upd_same] at e
        cases e
      rw [upd_ne n2] at e
      exact e
    have f1 := fr _ f1
    have f2 := fr _ f2
    have f3 := fr _ f3
    have f4 := fr _ f4
    have L3 := L2.same s3
    obtain ⟨dx3, lw3, nu3, co3, q3, r3⟩ := id L3.at_
    have np0 : p ≠ a0 := ne_of hpl q0 (by intro q; cases q)
    have hpl3 := L3.keep _ _ hpl np0
    walk_at "sx"
    refine ⟨a0, _, rfl, L3.at_, ?_⟩
    walk_at "sx"
    intro q hq
    have ecut : cutV ((a0 :: rest).map V.ref) (some 1) none = rest.map V.ref := by
      have e1 : HT.sIx ((a0 :: rest).map V.ref).length 0 (some 1) = 1 := by
        unfold HT.sIx
        rw [List.length_map, List.length_cons]
        simp
      unfold cutV
      rw [e1, HT.sIx_none]
      simp
      exact List.take_of_length_le (by simp)
    rw [ecut]
    have hq1 : H1 q = none := L3.free hq
    have hHq : H q = none := s1.free hq1
    have P0 : Pst K H q d dd l1 l2 l3 l4 rest W 0 0 (upd H3 q (.lst (rest.map V.ref))) := by
      have su : Same H3 (upd H3 q (.lst (rest.map V.ref))) := same_upd (Same.refl _) hq
      refine ⟨⟨[], [], [], [], ?_⟩, fun j a ws _ h1 h2 => ?_, upd_same, ?_, fun _ => Int.le_refl 0, fun _ => by decide, fun _ => by decide, by decide⟩
      · refine ⟨su _ _ g, su _ _ o1, su _ _ o2, su _ _ o3, su _ _ o4, ?_, ?_, ?_, ?_⟩
        · exact ⟨rfl, fun i a x e _ => by simp at e⟩
        · exact ⟨by show 0 = (W.stas.take (0 - W.sats.length)).length; simp, fun i a x e _ => by simp at e⟩
        · exact ⟨by show 0 = (W.recs.take (0 - W.sats.length - W.stas.length)).length; simp, fun i a x e _ => by simp at e⟩
        · exact ⟨by show 0 = (W.pass.take (0 - W.sats.length - W.stas.length - W.recs.length)).length; simp, fun i a x e _ => by simp at e⟩
      · have z := LA.at_ (j + 1) a ws h1 h2
        have nea : a ≠ a0 := fun e => nd1 (e ▸ List.mem_of_getElem? h1)
        obtain ⟨dx, lw, nu, co, g1, g2⟩ := z
        exact ⟨dx, lw, nu, co, su _ _ (L3.keep _ _ g1 nea), su _ _ (L3.keep _ _ g2 (ne_of g2 q0 (by intro q; cases q)))⟩
      · intro b o e
        exact su _ _ (L3.keep _ _ (s1 _ _ e) (ne_of_none e (LA.new a0 List.mem_cons_self)))
    have fx : Pfx H q l1 l2 l3 l4 rest := ⟨⟨n12, n13, n14, n23, n24, n34⟩, (ne_of_none o1 hq).symm, (ne_of_none o2 hq).symm, (ne_of_none o3 hq).symm, (ne_of_none o4 hq).symm, s1.free (L2.free f1), s1.free (L2.free f2), s1.free (L2.free f3), s1.free (L2.free f4), nd2, fun a h => LA.new a (List.mem_cons_of_mem _ h)⟩
    generalize upd H3 q (.lst (rest.map V.ref)) = Hs at P0 ⊢
    have hqs := P0.q
    walk_at "sx"
    refine for_gen (walk_list (K := K) (a := q) (xs := rest.map V.ref)) (fun i σ H' => ∃ (st : Int) (v4 : Option V), Pst K H q d dd l1 l2 l3 l4 rest W i st H' ∧ σ = [some (.str (S (textOf W))), some (.ref p), some (.ref d), some (.int st), v4]) ⟨0, none, P0, rfl⟩ ?_ ?_ ?_
    · rintro i σ H' _ ⟨st, v4, p', _⟩
      exact SqL.of p'.q
    · rintro i x σ Ha Hb hi ⟨st, v4, ps, rfl⟩ ⟨rfl, hx⟩
      rw [List.length_map] at hi
      rw [List.getElem?_map] at hx
      obtain ⟨a, hra⟩ : ∃ a, rest[i]? = some a := ⟨rest[i], List.getElem?_eq_getElem hi⟩
      rw [hra] at hx
      have hx := Option.some.inj hx
      subst hx
      have hiw : i < (restW W).length := by omega
      obtain ⟨ws, hws⟩ : ∃ ws, (restW W)[i]? = some ws := ⟨(restW W)[i], List.getElem?_eq_getElem hiw⟩
      have hl := ps.ln i a ws (Nat.le_refl _) hra hws
      obtain ⟨sas, tas, ras, pas, D⟩ := ps.dr
      have nsat := ok.nsat
      have nsta := ok.nsta
      have nrec := ok.nrec
      have npas := ok.npas
      walk_at "sx"
      refine ⟨d, a, dd, l1, l2, l3, l4, sas, tas, ras, pas, pw W i, st, rfl, D, fx.df, ok.hor.1, ok.hor.2, ?_⟩
      have rs := fun (lk : Addr) (xs : List Addr) (H2 : Hp) => Pst.rest (lk := lk) (xs := xs) (H2 := H2) ps fx.nd fx.new ok.rest hra hiw
      rcases rest_at W hws with ⟨s, h1, rfl, h2⟩ | ⟨s, h1, rfl, h2, h3⟩ | ⟨s, h1, rfl, h2, h3⟩ | ⟨s, h1, rfl, h2⟩
      · refine .inl ⟨s, ps.s0 (by omega), hl, by show (W.sats.take (i)).length < 3; rw [List.length_take]; omega, ok.sats s (List.mem_of_getElem? h1), new_name ok.dsat h1, fun H2 b D2 tw => ?_⟩
        obtain ⟨r1, r2, r3⟩ := rs l1 sas H2 D.h1 fx.f1 fx.q1 tw
        have ew : { pw W i with sats := (pw W i).sats ++ [s] } = pw W (i + 1) := by
          have tk := take_snoc h1
          have x0 : W.sats.take (i) ++ [s] = W.sats.take (i + 1) := by
            rw [show i + 1 = i + 1 from by omega, tk]
          have x1 : W.stas.take (i - W.sats.length) = W.stas.take (i + 1 - W.sats.length) := by rw [show i - W.sats.length = 0 from by omega, show i + 1 - W.sats.length = 0 from by omega]
          have x2 : W.recs.take (i - W.sats.length - W.stas.length) = W.recs.take (i + 1 - W.sats.length - W.stas.length) := by rw [show i - W.sats.length - W.stas.length = 0 from by omega, show i + 1 - W.sats.length - W.stas.length = 0 from by omega]
          have x3 : W.pass.take (i - W.sats.length - W.stas.length - W.recs.length) = W.pass.take (i + 1 - W.sats.length - W.stas.length - W.recs.length) := by rw [show i - W.sats.length - W.stas.length - W.recs.length = 0 from by omega, show i + 1 - W.sats.length - W.stas.length - W.recs.length = 0 from by omega]
          show (⟨W.hor, W.sats.take (i) ++ [s], W.stas.take (i - W.sats.length), W.recs.take (i - W.sats.length - W.stas.length), W.pass.take (i - W.sats.length - W.stas.length - W.recs.length)⟩ : Wd) = _
          unfold pw
          rw [x0, x1, x2, x3]
        rw [ew] at D2
        exact ⟨0, some (.ref a), ⟨⟨_, _, _, _, D2⟩, r1, r2, r3, fun z => by omega, fun z => by omega, fun z => by omega, by omega⟩, rfl⟩
      · refine .inr (.inl ⟨s, ps.s1 (by omega), hl, by show (W.stas.take (i - W.sats.length)).length < 3; rw [List.length_take]; omega, ok.stas s (List.mem_of_getElem? h1), new_name ok.dsta h1, fun H2 b D2 tw => ?_⟩)
        obtain ⟨r1, r2, r3⟩ := rs l2 tas H2 D.h2 fx.f2 fx.q2 tw
        have ew : { pw W i with stas := (pw W i).stas ++ [s] } = pw W (i + 1) := by
          have tk := take_snoc h1
          have x0 : W.sats.take (i) = W.sats.take (i + 1) := by rw [List.take_of_length_le (by omega), List.take_of_length_le (by omega)]
          have x1 : W.stas.take (i - W.sats.length) ++ [s] = W.stas.take (i + 1 - W.sats.length) := by
            rw [show i + 1 - W.sats.length = i - W.sats.length + 1 from by omega, tk]
          have x2 : W.recs.take (i - W.sats.length - W.stas.length) = W.recs.take (i + 1 - W.sats.length - W.stas.length) := by rw [show i - W.sats.length - W.stas.length = 0 from by omega, show i + 1 - W.sats.length - W.stas.length = 0 from by omega]
          have x3 : W.pass.take (i - W.sats.length - W.stas.length - W.recs.length) = W.pass.take (i + 1 - W.sats.length - W.stas.length - W.recs.length) := by rw [show i - W.sats.length - W.stas.length - W.recs.length = 0 from by omega, show i + 1 - W.sats.length - W.stas.length - W.recs.length = 0 from by omega]
          show (⟨W.hor, W.sats.take (i), W.stas.take (i - W.sats.length) ++ [s], W.recs.take (i - W.sats.length - W.stas.length), W.pass.take (i - W.sats.length - W.stas.length - W.recs.length)⟩ : Wd) = _
          unfold pw
          rw [x0, x1, x2, x3]
        rw [ew] at D2
        exact ⟨1, some (.ref a), ⟨⟨_, _, _, _, D2⟩, r1, r2, r3, fun z => by omega, fun z => by omega, fun z => by omega, by omega⟩, rfl⟩
      · have es : (pw W i).sats = W.sats := List.take_of_length_le (by omega)
        have esn : (pw W i).sn = W.sn := by
          unfold Wd.sn
          rw [es]
        refine .inr (.inr (.inl ⟨s, ps.s2 (by omega), by rw [esn]; exact hl, by show (W.recs.take (i - W.sats.length - W.stas.length)).length < 10; rw [List.length_take]; omega, by rw [es]; exact ok.recs s (List.mem_of_getElem? h1), new_name ok.drec h1, by rw [es]; exact nsat, by rw [es]; exact fun s hs => (ok.sats s hs).name, by rw [esn]; exact ok.dsat, fun H2 b D2 tw => ?_⟩))
        obtain ⟨r1, r2, r3⟩ := rs l3 ras H2 D.h3 fx.f3 fx.q3 tw
        have ew : { pw W i with recs := (pw W i).recs ++ [s] } = pw W (i + 1) := by
          have tk := take_snoc h1
          have x0 : W.sats.take (i) = W.sats.take (i + 1) := by rw [List.take_of_length_le (by omega), List.take_of_length_le (by omega)]
          have x1 : W.stas.take (i - W.sats.length) = W.stas.take (i + 1 - W.sats.length) := by rw [List.take_of_length_le (by omega), List.take_of_length_le (by omega)]
          have x2 : W.recs.take (i - W.sats.length - W.stas.length) ++ [s] = W.recs.take (i + 1 - W.sats.length - W.stas.length) := by
            rw [show i + 1 - W.sats.length - W.stas.length = i - W.sats.length - W.stas.length + 1 from by omega, tk]
          have x3 : W.pass.take (i - W.sats.length - W.stas.length - W.recs.length) = W.pass.take (i + 1 - W.sats.length - W.stas.length - W.recs.length) := by rw [show i - W.sats.length - W.stas.length - W.recs.length = 0 from by omega, show i + 1 - W.sats.length - W.stas.length - W.recs.length = 0 from by omega]
          show (⟨W.hor, W.sats.take (i), W.stas.take (i - W.sats.length), W.recs.take (i - W.sats.length - W.stas.length) ++ [s], W.pass.take (i - W.sats.length - W.stas.length - W.recs.length)⟩ : Wd) = _
          unfold pw
          rw [x0, x1, x2, x3]
        rw [ew] at D2
        exact ⟨2, some (.ref a), ⟨⟨_, _, _, _, D2⟩, r1, r2, r3, fun z => by omega, fun z => by omega, fun z => by omega, by omega⟩, rfl⟩
      · have es : (pw W i).sats = W.sats := List.take_of_length_le (by omega)
        have esn : (pw W i).sn = W.sn := by
          unfold Wd.sn
          rw [es]
        have h3 := (List.getElem?_eq_some_iff.mp h1).1
        have et : (pw W i).stas = W.stas := List.take_of_length_le (by omega)
        have etn : (pw W i).tn = W.tn := by
          unfold Wd.tn
          rw [et]
        refine .inr (.inr (.inr ⟨s, ps.s3, by rw [esn, etn]; exact hl, by show (W.pass.take (i - W.sats.length - W.stas.length - W.recs.length)).length < 10; rw [List.length_take]; omega, by rw [es, et]; exact ok.pass s (List.mem_of_getElem? h1), new_name ok.dpas h1, by rw [es]; exact nsat, by rw [es]; exact fun s hs => (ok.sats s hs).name, by rw [esn]; exact ok.dsat, by rw [et]; exact nsta, by rw [et]; exact fun s hs => (ok.stas s hs).name, by rw [etn]; exact ok.dsta, fun H2 b D2 tw => ?_⟩))
        obtain ⟨r1, r2, r3⟩ := rs l4 pas H2 D.h4 fx.f4 fx.q4 tw
        have ew : { pw W i with pass := (pw W i).pass ++ [s] } = pw W (i + 1) := by
          have tk := take_snoc h1
          have x0 : W.sats.take (i) = W.sats.take (i + 1) := by rw [List.take_of_length_le (by omega), List.take_of_length_le (by omega)]
          have x1 : W.stas.take (i - W.sats.length) = W.stas.take (i + 1 - W.sats.length) := by rw [List.take_of_length_le (by omega), List.take_of_length_le (by omega)]
          have x2 : W.recs.take (i - W.sats.length - W.stas.length) = W.recs.take (i + 1 - W.sats.length - W.stas.length) := by rw [List.take_of_length_le (by omega), List.take_of_length_le (by omega)]
          have x3 : W.pass.take (i - W.sats.length - W.stas.length - W.recs.length) ++ [s] = W.pass.take (i + 1 - W.sats.length - W.stas.length - W.recs.length) := by
            rw [show i + 1 - W.sats.length - W.stas.length - W.recs.length = i - W.sats.length - W.stas.length - W.recs.length + 1 from by omega, tk]
          show (⟨W.hor, W.sats.take (i), W.stas.take (i - W.sats.length), W.recs.take (i - W.sats.length - W.stas.length), W.pass.take (i - W.sats.length - W.stas.length - W.recs.length) ++ [s]⟩ : Wd) = _
          unfold pw
          rw [x0, x1, x2, x3]
        rw [ew] at D2
        exact ⟨3, some (.ref a), ⟨⟨_, _, _, _, D2⟩, r1, r2, r3, fun z => by omega, fun z => by omega, fun z => by omega, by omega⟩, rfl⟩
    · rintro σ He ⟨st, v4, ps, rfl⟩
      obtain ⟨sas, tas, ras, pas, D⟩ := ps.dr
      rw [List.length_map, pw_end hlr] at D
      walk_at "sx"
      intro x dx hx hdx hne
      have sm : Same He (upd (upd He dx (.own x)) x (.ins (cWorld K) dx [])) := same_upd (same_upd (Same.refl _) hdx) (by rw [upd_ne hne.symm]; exact hx)
      refine ⟨x, dx, d, dd, l1, l2, l3, l4, sas, tas, ras, pas, W, rfl, upd_same, D.same sm, ok, fun H9 tx sy9 => ⟨rfl, ?_⟩⟩
      exact k H9 x (ps.keep.trans (stay_made hx hdx sy9)) tx
end
end Dp
namespace Dp
open PySem PySem.Spec PyProof.Rows L2 SX
/-! ### the law's numbers -/
def spCell (K : PySem.W.Frag) : Sp := fun vs H Q _ => ∃ (a : Addr) (ns : List Int) (k : Int), vs = [.ref a, .int k] ∧ SqL K H a (ns.map V.int) ∧ 0 ≤ k ∧ ∀ z : Int, Q (.int z) H
def spDraws : Sp := fun vs H Q _ => ∃ c : Int, vs = [.int c, .int 12] ∧ ∀ (H' : Hp) (p : Addr) (ds : List Int), Same H H' → H p = none → H' p = some (.lst (ds.map V.int)) → ds.length = 12 → (∀ d ∈ ds, 0 ≤ d ∧ d < 60) → Q (.ref p) H'
/-- the stream at s: its digits ds in the list dg, its place in the list pl -/
structure StAt (H : Hp) (s dg pl : Addr) (ds : List Int) : Prop where
  atS : H s = some (.lst [.ref dg, .ref pl])
  atD : H dg = some (.lst (ds.map V.int))
  atP : ∃ n : Int, H pl = some (.lst [.int n])
  ne : dg ≠ pl
structure DsOk (ds : List Int) : Prop where
  ne : 0 < ds.length
  few : ds.length ≤ 1000
  rng : ∀ d ∈ ds, 0 ≤ d ∧ d < 60
theorem StAt.same {H H' : Hp} {s dg pl : Addr} {ds : List Int} (h : StAt H s dg pl ds) (k : Same H H') : StAt H' s dg pl ds := by
  obtain ⟨h1, h2, ⟨n, h3⟩, h4⟩ := h
  exact ⟨k _ _ h1, k _ _ h2, ⟨n, k _ _ h3⟩, h4⟩
def spStream (K : PySem.W.Frag) : Sp := fun vs H Q _ => ∃ (a : Addr) (ns : List Int) (f c : Int), vs = [.ref a, .int f, .int c] ∧ SqL K H a (ns.map V.int) ∧ 0 ≤ f ∧ 1 ≤ c ∧ c ≤ 24 ∧
  ∀ (H' : Hp) (s dg pl : Addr) (ds : List Int), Same H H' → H pl = none → StAt H' s dg pl ds → DsOk ds → Q (.ref s) H'
def spNext : Sp := fun vs H Q _ => ∃ (s dg pl : Addr) (ds : List Int) (m : Int), vs = [.ref s, .int m] ∧ StAt H s dg pl ds ∧ DsOk ds ∧ 0 < m ∧
  ∀ (H' : Hp) (v : Int), StAt H' s dg pl ds → Stay pl H H' → 0 ≤ v → v < m → v < 60 → Q (.int v) H'
theorem x_gSub {to ti : TE} {t : TSet} {v : V} {σ : L2.St} {H : Hp} {Q : L2.St → Hp → Prop} (h : to σ H fun o H1 => ti σ H1 fun i H2 => t o i v H2 fun H3 => Q σ H3) : gSub to ti t v σ H Q := h
theorem x_int1E {Z : Int → Prop} {z : Int} (q : Z z) : ∃ i, [V.int z] = [.int i] ∧ Z i := ⟨z, rfl, q⟩
theorem SqL_same {K : PySem.W.Frag} {H H' : Hp} {a : Addr} {xs : List V} (h : SqL K H a xs) (s : Same H H') : SqL K H' a xs := by
  rcases h with (h | ⟨o, h⟩) | h
  · exact .inl (.inl (s _ _ h))
  · exact .inl (.inr ⟨o, s _ _ h⟩)
  · exact .inr h
theorem ints_at {ds : List Int} {i : Int} (h0 : 0 ≤ i) (h : i < ds.length) : ∃ d ∈ ds, atI (ds.map V.int) i = some (V.int d) := by
  obtain ⟨n, rfl⟩ : ∃ n : Nat, i = (n : Int) := ⟨i.toNat, by omega⟩
  have hn : n < ds.length := by omega
  exact ⟨ds[n], List.getElem_mem hn, atI_nat (by rw [List.getElem?_map, List.getElem?_eq_getElem hn]; rfl)⟩
section
variable {P : Program} {w : World} {K : PySem.W.Frag} {mg : Str → Option Value} {base : Heap}
theorem sc_law_cell : FnScope ["_law_script", "_law_k"] ["_law_script", "_law_k"] (defScope s_law_cell) := ⟨rfl, rfl, rfl, by decide +kernel, rfl, by decide +kernel, by decide +kernel⟩
theorem ok_law_cell (T : Tx K mg) : C8.Cal P w K mg base 1 "_law_cell" (spCell K) [] := by
  obtain ⟨fd, F⟩ := T.f_law_cell
  refine calOf F T.glo__law_cell (F.bindsN (ps := ["_law_script", "_law_k"]) fun _ _ _ _ _ _ us hl => match us, hl with | [_, _], _ => rfl) sc_law_cell ?_ ?_
  · rintro vs H Q E ⟨a, ns, k0, rfl, _⟩
    rfl
  · rintro cdv A outer st H vs Q E hr ⟨a, ns, k0, rfl, ha, hk0, k⟩
    refine ⟨_, pss_cons (ps_if (pt_cmpR op_lt (pv 1) (pe_callB call_len_seq (by rfl) T.free_len PySem.boot_len (pa_cons (pv 0) pa_nil)) (nomark _)) (pss_one (ps_ret (pe_callTy call_int1 (by rfl) T.free_int (by decide +kernel) (pa_cons (pe_ix ix_list (pv 0) (pv 1) (fun _ _ => rfl)) pa_nil)))) (pss_nil))
      (pss_one (ps_ret (pe_int))), ?_⟩
    try dsimp only [cxK]
    walk_at "sx"
    refine ⟨a, _, rfl, .inl ha, ?_⟩
    walk_at "sx"
    refine x_both (fun hb => ?_) fun hb => ?_
    · have hlt := of_decide_eq_true hb
      rw [List.length_map] at hlt
      obtain ⟨d, _, hd⟩ := ints_at hk0 hlt
      walk_at "sx"
      refine ⟨a, _, k0, _, rfl, rfl, ha, hd, ?_⟩
      walk_at "sx"
      exact k d
    · walk_at "sx"
      exact k 0
theorem sc_law_draws : FnScope ["_law_cell_here", "_law_count", "_law_number", "_law_great", "_law_found", "_law_k", "_law_mixed"] ["_law_cell_here", "_law_count"] (defScope s_law_draws) := ⟨rfl, rfl, rfl, by decide +kernel, rfl, by decide +kernel, by decide +kernel⟩
theorem ok_law_draws (T : Tx K mg) : C8.Cal P w K mg base 1 "_law_draws" spDraws [] := by
  obtain ⟨fd, F⟩ := T.f_law_draws
  refine calOf F T.glo__law_draws (F.bindsN (ps := ["_law_cell_here", "_law_count"]) fun _ _ _ _ _ _ us hl => match us, hl with | [_, _], _ => rfl) sc_law_draws ?_ ?_
  · rintro vs H Q E ⟨c, rfl, _⟩
    rfl
  · rintro cdv A outer st H vs Q E hr ⟨c, rfl, k⟩
    refine ⟨_, pss_cons (ps_set (i := 2) sc_law_draws.nd rfl (Or.inl rfl) (pe_callB call_abs (by rfl) T.free_abs (by decide +kernel) (pa_cons (pe_callTy call_int1 (by rfl) T.free_int (by decide +kernel) (pa_cons (pv 0) pa_nil)) pa_nil)))
      (pss_cons (ps_set (i := 3) sc_law_draws.nd rfl (Or.inl rfl) (pe_cmpR op_ge (pv 2) (pe_op op_pow (pe_int) (pe_int)) (nomark _)))
      (pss_cons (ps_set (i := 4) sc_law_draws.nd rfl (Or.inl rfl) (pe_lst (pa_nil)))
      (pss_cons (ps_for PassesOwn.never rfl (pi_range1 (by rfl) T.free_range (pa_cons (pe_int) pa_nil)) (pg_name (i := 5) sc_law_draws.nd rfl (Or.inl rfl))
        (pss_one (ps_if (PW.pt (pw_and (pt_cmpR op_lt (pv 5) (pv 1) (nomark _)) (pw_and1 (pt_val (pv 3))))) (pss_cons (ps_expr (pe_bm PySem.F.plainAttrs_list PySem.F.slot_list_append PySem.F.type_list_append mt_append (pv 4) (pa_cons (pe_op op_mod (pv 2) (pe_int)) pa_nil)))
          (pss_one (ps_set (i := 2) sc_law_draws.nd rfl (Or.inl rfl) (pe_op op_fdiv (pv 2) (pe_int))))) (pss_one (ps_if (pt_cmpR op_lt (pv 5) (pv 1) (nomark _)) (pss_cons (ps_set (i := 6) sc_law_draws.nd rfl (Or.inl rfl) (pe_op op_mod (pe_op op_add (pe_op op_add (pe_op op_mul (pe_callTy call_int1 (by rfl) T.free_int (by decide +kernel) (pa_cons (pv 2) pa_nil)) (pe_int)) (pe_op op_mul (pv 5) (pe_int))) (pe_int)) (pe_int)))
            (pss_cons (ps_set (i := 6) sc_law_draws.nd rfl (Or.inl rfl) (pe_op op_mod (pe_op op_add (pe_op op_add (pe_op op_mul (pe_callTy call_int1 (by rfl) T.free_int (by decide +kernel) (pa_cons (pv 6) pa_nil)) (pe_callTy call_int1 (by rfl) T.free_int (by decide +kernel) (pa_cons (pv 6) pa_nil))) (pe_op op_mul (pv 5) (pe_int))) (pe_int)) (pe_int)))
            (pss_one (ps_expr (pe_bm PySem.F.plainAttrs_list PySem.F.slot_list_append PySem.F.type_list_append mt_append (pv 4) (pa_cons (pe_op op_mod (pe_callTy call_int1 (by rfl) T.free_int (by decide +kernel) (pa_cons (pv 6) pa_nil)) (pe_int)) pa_nil)))))) (pss_nil))))))
      (pss_one (ps_ret (pv 4)))))), ?_⟩
    try dsimp only [cxK]
    walk_at "sx"
    refine x_int1E ?_
    walk_at "sx"
    generalize hn : (if c < 0 then -c else c) = num0
    have hn0 : 0 ≤ num0 := by
      rw [← hn]
      split
      · omega
      · omega
    clear hn
    refine x_rI ⟨by decide, by decide, by decide⟩ ?_
    walk_at "sx"
    refine ⟨Nat.zero_le _, fun q hq => ?_⟩
    walk_at "sx"
    refine x_rng1E (by decide) (by decide) ?_
    have ebig : (10 : Int) ^ (18 : Int).toNat = 1000000000000000000 := by decide +kernel
    rw [ebig]
    generalize hg : decide ((1000000000000000000 : Int) ≤ num0) = gr
    have hgr : gr = false → num0 < 1000000000000000000 := fun e => by
      rw [e] at hg
      have := of_decide_eq_false hg
      omega
    clear hg
    refine for_gen (walk_range (lo := 0) (n := (60 : Int).toNat)) (fun i σ H' => ∃ (n : Int) (ds : List Int) (v5 v6 : Option V), H' q = some (.lst (ds.map V.int)) ∧ ds.length = min i 12 ∧ (∀ d ∈ ds, 0 ≤ d ∧ d < 60) ∧ Same H H' ∧ (gr = false → 0 ≤ n ∧ n < 1000000000000000000) ∧
      σ = [some (.int c), some (.int 12), some (.int n), some (.bl gr), some (.ref q), v5, v6]) ?_ ?_ ?_ ?_
    · exact ⟨num0, [], none, none, upd_same, rfl, (fun d h => by cases h), same_upd (Same.refl _) hq, fun e => ⟨hn0, hgr e⟩, rfl⟩
    · intros
      trivial
    · rintro i x σ H1 H2 hi ⟨n, ds, v5, v6, h1, h2, h3, h4, h5, rfl⟩ ⟨rfl, rfl⟩
      have hi : i < 60 := hi
      walk_at "sx"
      have put : ∀ v : Int, 0 ≤ v → v < 60 → i < 12 → (ds ++ [v]).length = min (i + 1) 12 ∧ (∀ d ∈ ds ++ [v], 0 ≤ d ∧ d < 60) := fun v v0 v1 hlt => by
        refine ⟨by rw [List.length_append, List.length_singleton, h2]; omega, fun d hd => ?_⟩
        rcases List.mem_append.mp hd with e | e
        · exact h3 d e
        · rw [List.mem_singleton.mp e]
          exact ⟨v0, v1⟩
      refine x_both (fun hb => ?_) fun hb => ?_
      · have hlt := of_decide_eq_true hb
        walk_at "sx"
        cases gr with
        | true =>
          refine x_yes rfl ?_
          walk_at "sx"
          refine x_rI (by decide) ?_
          walk_at "sx"
          refine x_app h1 (by rw [List.length_map]; omega) ?_
          walk_at "sx"
          refine x_rI ⟨by decide, by decide⟩ ?_
          walk_at "sx"
          obtain ⟨e1, e2⟩ := put (n % 60) (by omega) (by omega) (by omega)
          exact ⟨n / 60, ds ++ [n % 60], _, _, by rw [List.map_append]; exact upd_same, e1, e2, same_mut h4 hq, (fun e => by cases e), rfl⟩
        | false =>
          obtain ⟨n0, n1⟩ := h5 rfl
          refine x_nay rfl ?_
          walk_at "sx"
          refine x_yes hb ?_
          walk_at "sx"
          refine x_rI (.inr ⟨by decide, by decide⟩) ?_
          walk_at "sx"
          refine x_rI (.inr ⟨by decide, by decide⟩) ?_
          walk_at "sx"
          refine x_rI (by decide) ?_
          walk_at "sx"
          generalize hm : (n * 48271 + (0 + (i : Int)) * 69621 + 11) % 2147483647 = m1
          have m0 : 0 ≤ m1 ∧ m1 < 2147483647 := by
            rw [← hm]
            omega
          refine x_rI (.inr ⟨by omega, by omega⟩) ?_
          walk_at "sx"
          refine x_rI (.inr ⟨by decide, by decide⟩) ?_
          walk_at "sx"
          refine x_rI (by decide) ?_
          walk_at "sx"
          refine x_rI (by decide) ?_
          walk_at "sx"
          refine x_app h1 (by rw [List.length_map]; omega) ?_
          generalize (m1 * m1 + (0 + (i : Int)) * 7919 + 5) % 998244353 = m2
          obtain ⟨e1, e2⟩ := put (m2 % 60) (by omega) (by omega) (by omega)
          exact ⟨n, ds ++ [m2 % 60], _, _, by rw [List.map_append]; exact upd_same, e1, e2, same_mut h4 hq, (fun _ => ⟨n0, n1⟩), rfl⟩
      · have hlt := of_decide_eq_false hb
        refine x_nay rfl ?_
        walk_at "sx"
        refine x_nay hb ?_
        walk_at "sx"
        exact ⟨n, ds, _, _, h1, by rw [h2]; omega, h3, h4, h5, rfl⟩
    · rintro σ H1 ⟨n, ds, v5, v6, h1, h2, h3, h4, h5, rfl⟩
      walk_at "sx"
      exact k H1 q ds h4 hq h1 h2 h3
theorem sc_law_stream : FnScope ["_law_script", "_law_first", "_law_count", "_law_found", "_law_k"] ["_law_script", "_law_first", "_law_count"] (defScope s_law_stream) := ⟨rfl, rfl, rfl, by decide +kernel, rfl, by decide +kernel, by decide +kernel⟩
theorem ok_law_stream (T : Tx K mg) (k_law_cell : C8.Cal P w K mg base 1 "_law_cell" (spCell K) []) (k_law_draws : C8.Cal P w K mg base 1 "_law_draws" spDraws []) : C8.Cal P w K mg base 2 "_law_stream" (spStream K) [] := by
  obtain ⟨fd, F⟩ := T.f_law_stream
  refine calOf F T.glo__law_stream (F.bindsN (ps := ["_law_script", "_law_first", "_law_count"]) fun _ _ _ _ _ _ us hl => match us, hl with | [_, _, _], _ => rfl) sc_law_stream ?_ ?_
  · rintro vs H Q E ⟨a, ns, f, c, rfl, _⟩
    rfl
  · rintro cdv A outer st H vs Q E hr ⟨a, ns, f, c, rfl, ha, hf, hc1, hc2, k⟩
    refine ⟨_, pss_cons (ps_set (i := 3) sc_law_stream.nd rfl (Or.inl rfl) (pe_lst (pa_nil)))
      (pss_cons (ps_for PassesOwn.never rfl (pi_range1 (by rfl) T.free_range (pa_cons (pv 2) pa_nil)) (pg_name (i := 4) sc_law_stream.nd rfl (Or.inl rfl))
        (pss_one (ps_expr (pe_bm PySem.F.plainAttrs_list PySem.F.slot_list_extend PySem.F.type_list_extend mt_extend (pv 3) (pa_cons (C8.pe_c k_law_draws hr (by decide) (by rfl) (pa_cons (C8.pe_c k_law_cell hr (by decide) (by rfl) (pa_cons (pv 0) (pa_cons (pe_op op_add (pv 1) (pv 4)) pa_nil))) (pa_cons (pe_int) pa_nil))) pa_nil)))))
      (pss_one (ps_ret (pe_lst (pa_cons (pv 3) (pa_cons (pe_lst (pa_cons (pe_int) pa_nil)) pa_nil)))))), ?_⟩
    try dsimp only [cxK]
    walk_at "sx"
    refine ⟨Nat.zero_le _, fun q hq => ?_⟩
    walk_at "sx"
    refine x_rng1E (by omega) (by omega) ?_
    refine for_gen (walk_range (lo := 0) (n := c.toNat)) (fun i σ H' => ∃ (ds : List Int) (v4 : Option V), H' q = some (.lst (ds.map V.int)) ∧ ds.length = 12 * i ∧ (∀ d ∈ ds, 0 ≤ d ∧ d < 60) ∧ Same H H' ∧
      σ = [some (.ref a), some (.int f), some (.int c), some (.ref q), v4]) ?_ ?_ ?_ ?_
    · exact ⟨[], none, upd_same, rfl, fun d h => (by cases h), same_upd (Same.refl _) hq, rfl⟩
    · intros
      trivial
    · rintro i x σ H1 H2 hi ⟨ds, v4, h1, h2, h3, h4, rfl⟩ ⟨rfl, rfl⟩
      walk_at "sx"
      refine ⟨a, ns, _, rfl, SqL_same ha h4, by omega, fun z => ?_⟩
      walk_at "sx"
      refine ⟨z, rfl, fun H3 p es s3 hp hp3 g1 g2 => ?_⟩
      walk_at "sx"
      refine x_ext (s3 _ _ h1) hp3 (by rw [List.length_map, List.length_map]; omega) ?_
      refine ⟨ds ++ es, _, by rw [List.map_append]; exact upd_same, by rw [List.length_append]; omega, fun d hd => ?_, same_mut (h4.trans s3) hq, rfl⟩
      rcases List.mem_append.mp hd with e | e
      · exact h3 d e
      · exact g2 d e
    · rintro σ H1 ⟨ds, v4, h1, h2, h3, h4, rfl⟩
      walk_at "sx"
      refine ⟨show 1 ≤ sizeLine by decide, fun pl hpl => ?_⟩
      walk_at "sx"
      refine ⟨show 2 ≤ sizeLine by decide, fun s hs => ?_⟩
      have s5 := h4.trans (same_upd (o := .lst [V.int 0]) (Same.refl _) hpl)
      refine k _ s q pl ds (s5.trans (same_upd (Same.refl _) hs)) (h4.free hpl) ⟨upd_same, ?_, ⟨0, ?_⟩, ne_of_none h1 hpl⟩ ⟨by omega, by omega, h3⟩
      · rw [upd_ne (ne_of_none ((upd_ne (ne_of_none h1 hpl)).trans h1) hs), upd_ne (ne_of_none h1 hpl)]
        exact h1
      · rw [upd_ne (ne_of_none upd_same hs)]
        exact upd_same
theorem sc_law_next : FnScope ["_law_stream_here", "_law_many", "_law_digits", "_law_place", "_law_value"] ["_law_stream_here", "_law_many"] (defScope s_law_next) := ⟨rfl, rfl, rfl, by decide +kernel, rfl, by decide +kernel, by decide +kernel⟩
theorem ok_law_next (T : Tx K mg) : C8.Cal P w K mg base 1 "_law_next" spNext [] := by
  obtain ⟨fd, F⟩ := T.f_law_next
  refine calOf F T.glo__law_next (F.bindsN (ps := ["_law_stream_here", "_law_many"]) fun _ _ _ _ _ _ us hl => match us, hl with | [_, _], _ => rfl) sc_law_next ?_ ?_
  · rintro vs H Q E ⟨s, dg, pl, ds, m, rfl, _⟩
    rfl
  · rintro cdv A outer st H vs Q E hr ⟨s, dg, pl, ds, m, rfl, ⟨h1, h2, ⟨n, h3⟩, hdp⟩, ok, hm, k⟩
    refine ⟨_, pss_cons (ps_set (i := 2) sc_law_next.nd rfl (Or.inl rfl) (pe_ix ix_list (pv 0) (pe_int) (fun _ _ => rfl)))
      (pss_cons (ps_set (i := 3) sc_law_next.nd rfl (Or.inl rfl) (pe_ix ix_list (pv 0) (pe_int) (fun _ _ => rfl)))
      (pss_cons (ps_set (i := 4) sc_law_next.nd rfl (Or.inl rfl) (pe_op op_mod (pe_callTy call_int1 (by rfl) T.free_int (by decide +kernel) (pa_cons (pe_ix ix_list (pv 2) (pe_op op_mod (pe_callTy call_int1 (by rfl) T.free_int (by decide +kernel) (pa_cons (pe_ix ix_list (pv 3) (pe_int) (fun _ _ => rfl)) pa_nil)) (pe_callB call_len_seq (by rfl) T.free_len PySem.boot_len (pa_cons (pv 2) pa_nil))) (fun _ _ => rfl)) pa_nil)) (pv 1)))
      (pss_cons (ps_asg (pe_op op_add (pe_ix ix_list (pv 3) (pe_int) (fun _ _ => rfl)) (pe_int)) (pg_sub (pv 3) (pe_int) set_list))
      (pss_one (ps_ret (pv 4)))))), ?_⟩
    try dsimp only [cxK]
    have i0 : atI [V.ref dg, V.ref pl] 0 = some (V.ref dg) := atI_nat (j := 0) rfl
    have i1 : atI [V.ref dg, V.ref pl] 1 = some (V.ref pl) := atI_nat (j := 1) rfl
    have i2 : atI [V.int n] 0 = some (V.int n) := atI_nat (j := 0) rfl
    have hne := ok.ne
    walk_at "sx"
    refine x_rI (by rw [List.length_map]; omega) ?_
    have hpos : (0 : Int) < (ds.length : Nat) := by omega
    obtain ⟨d, hd, hat⟩ := ints_at (ds := ds) (i := n % (((ds.map V.int).length : Nat) : Int)) (Int.emod_nonneg _ (by rw [List.length_map]; omega)) (by rw [List.length_map]; exact Int.emod_lt_of_pos _ hpos)
    walk_at "sx"
    refine x_rI hm ?_
    walk_at "sx"
    refine x_gSub ?_
    walk_at "sx"
    refine ⟨pl, [V.int n], 0, 0, rfl, rfl, h3, rfl, ?_⟩
    walk_at "sx"
    have ns : s ≠ pl := ne_of h1 h3 (by intro q; injection q with q; cases q)
    have hr0 := ok.rng d hd
    have hle : d % m ≤ d := by
      rcases Int.lt_or_le d m with h | h
      · rw [Int.emod_eq_of_lt hr0.1 h]
        exact Int.le_refl _
      · have := Int.emod_lt_of_pos d hm
        omega
    refine k _ (d % m) ⟨(upd_ne ns).trans h1, (upd_ne hdp).trans h2, ⟨n + 1, upd_same⟩, hdp⟩ (fun b o e hb => (upd_ne hb).trans e) (Int.emod_nonneg _ (by omega)) (Int.emod_lt_of_pos _ hm) (by omega)
end
end Dp
namespace Dp
open PySem PySem.Spec PyProof.Rows L2 SX
/-! ### the law's names -/
def CapIs (i : Nat) (w : List Nat) : Prop := (65 + i) ∈ w ∧ ∀ c ∈ w, 65 ≤ c ∧ c ≤ 90 → c = 65 + i
theorem CapIs.inj {i j : Nat} {w : List Nat} (hj : j < 10) (h : CapIs i w) (k : CapIs j w) : i = j := by
  have z := h.2 (65 + j) k.1 (by omega)
  omega
def isLow (c : Nat) : Prop := (97 ≤ c ∧ c ≤ 122) ∨ (48 ≤ c ∧ c ≤ 57)
instance (c : Nat) : Decidable (isLow c) := by unfold isLow; infer_instance
def wordOf (cs : List Nat) (p i : Nat) : List Nat := cs.take p ++ [65 + i] ++ cs.drop p
theorem wordOf_mem {cs : List Nat} {p i c : Nat} (h : c ∈ wordOf cs p i) : c ∈ cs ∨ c = 65 + i := by
  unfold wordOf at h
  rcases List.mem_append.mp h with e | e
  · rcases List.mem_append.mp e with e | e
    · exact .inl (List.mem_of_mem_take e)
    · exact .inr (List.mem_singleton.mp e)
  · exact .inl (List.mem_of_mem_drop e)
theorem wordOf_cap {cs : List Nat} {p i : Nat} (h : ∀ c ∈ cs, isLow c) : CapIs i (wordOf cs p i) := by
  refine ⟨by unfold wordOf; simp, fun c hc hz => ?_⟩
  rcases wordOf_mem hc with e | e
  · have z : (97 ≤ c ∧ c ≤ 122) ∨ (48 ≤ c ∧ c ≤ 57) := h c e
    omega
  · exact e
theorem wordOf_len (cs : List Nat) (p i : Nat) : (wordOf cs p i).length = cs.length + 1 := by
  unfold wordOf
  rw [List.length_append, List.length_append, List.length_take, List.length_drop, List.length_singleton]
  omega
theorem wordOf_sign {cs : List Nat} {p i : Nat} (hi : i < 10) (h : ∀ c ∈ cs, isLow c) : ∀ c ∈ wordOf cs p i, isL c ∨ isD c := fun c hc => by
  show ((97 ≤ c ∧ c ≤ 122) ∨ (65 ≤ c ∧ c ≤ 90)) ∨ (48 ≤ c ∧ c ≤ 57)
  rcases wordOf_mem hc with e | e
  · have z : (97 ≤ c ∧ c ≤ 122) ∨ (48 ≤ c ∧ c ≤ 57) := h c e
    omega
  · omega
theorem wordOf_hd {cs : List Nat} {p i c : Nat} {r : List Nat} (hi : i < 10) (h : ∀ c ∈ cs, isLow c) (hl : cs.length ≤ 4) (e : wordOf cs p i = c :: r) (hd : ¬ isD c) : NameOk (wordOf cs p i) := by
  have z := wordOf_sign (p := p) hi h
  refine ⟨⟨c, r, e, ?_⟩, z, by rw [wordOf_len]; omega⟩
  exact (z c (by rw [e]; exact List.mem_cons_self)).resolve_right hd
theorem wordOf_v {cs : List Nat} {p i : Nat} (hi : i < 10) (h : ∀ c ∈ cs, isLow c) (hl : cs.length ≤ 4) : NameOk (118 :: wordOf cs p i) ∧ CapIs i (118 :: wordOf cs p i) := by
  have z := wordOf_sign (p := p) hi h
  refine ⟨⟨⟨118, _, rfl, .inl (by omega)⟩, fun c hc => ?_, by rw [List.length_cons, wordOf_len]; omega⟩, List.mem_cons_of_mem _ (wordOf_cap h).1, fun c hc hz => ?_⟩
  · rcases List.mem_cons.mp hc with e | e
    · rw [e]
      exact .inl (.inl (by omega))
    · exact z c e
  · rcases List.mem_cons.mp hc with e | e
    · omega
    · exact (wordOf_cap h).2 c e hz
theorem letters_at : ∀ v : Nat, v < 36 → ∃ c, atI (Str.ofString "abcdefghijklmnopqrstuvwxyz0123456789").cps.toList (v : Int) = some c ∧ isLow c := by
  have h : ∀ v : Nat, v < 36 → (match atI (Str.ofString "abcdefghijklmnopqrstuvwxyz0123456789").cps.toList (v : Int) with | some c => decide (isLow c) | none => false) = true := by decide +kernel
  intro v hv
  have z := h v hv
  split at z
  · rename_i c e
    exact ⟨c, e, of_decide_eq_true z⟩
  · exact absurd z (by decide)
theorem caps_at : ∀ i : Nat, i < 10 → atI (Str.ofString "ABCDEFGHIJ").cps.toList (i : Int) = some (65 + i) := by decide +kernel
theorem digits_cut : (cutS (Str.ofString "abcdefghijklmnopqrstuvwxyz0123456789") (some 26) none).cps.toList = [48, 49, 50, 51, 52, 53, 54, 55, 56, 57] := by decide +kernel
theorem cutS_to (cs : List Nat) (p : Nat) (h : p ≤ cs.length) : cutS (S cs) none (some (p : Int)) = S (cs.take p) := by
  unfold cutS
  rw [HT.sIx_none, HT.sIx_nat, S_len, Nat.min_eq_left h, List.drop_zero, Nat.sub_zero]
theorem cutS_from (cs : List Nat) (p : Nat) (h : p ≤ cs.length) : cutS (S cs) (some (p : Int)) none = S (cs.drop p) := by
  unfold cutS
  rw [HT.sIx_none, HT.sIx_nat, S_len, Nat.min_eq_left h]
  have e : (S cs).cps.toList = cs := by simp
  rw [e, List.take_of_length_le (by rw [List.length_drop]; omega)]
theorem singles (cs : List Nat) : TL.joinL [] (cs.map fun c => [c]) = cs := by
  rw [joinL_nil]
  induction cs with
  | nil => rfl
  | cons c r ih =>
    rw [List.map_cons, List.flatten_cons, ih]
    rfl
theorem x_joinZ {K : PySem.W.Frag} {a : Addr} {H : Hp} {z : Str} {ls : List (List Nat)} {s : List Nat} {Z : Str → List Str → Prop} (hH : H a = some (.lst (txts ls))) (hz : z = SX.S s) (hl : (ls.map (·.length)).sum + ls.length * s.length ≤ 100000) (q : Z (SX.S s) (ls.map SX.S)) :
    ∃ a' p, ∃ ys : List Str, V.str z = .str a' ∧ [V.ref a] = [.ref p] ∧ (SqL K H p (ys.map V.str) ∨ SqT K H p (ys.map V.str)) ∧ (ys.map (·.length)).sum + ys.length * a'.length ≤ 16777216 ∧ Z a' ys := by
  subst hz
  refine ⟨_, a, ls.map SX.S, rfl, rfl, .inl (SqL.of ?_), ?_, q⟩
  · rw [List.map_map]
    exact hH
  · rw [SX.lens, List.length_map, SX.S_len]
    exact Nat.le_trans hl (by decide)
structure StS (s dg pl : Addr) (ds : List Int) (H0 H : Hp) : Prop where
  at_ : StAt H s dg pl ds
  keep : Stay pl H0 H
theorem StS.refl {s dg pl : Addr} {ds : List Int} {H : Hp} (h : StAt H s dg pl ds) : StS s dg pl ds H H := ⟨h, fun _ _ e _ => e⟩
theorem StS.same {s dg pl : Addr} {ds : List Int} {H0 H H' : Hp} (h : StS s dg pl ds H0 H) (k : Same H H') : StS s dg pl ds H0 H' := ⟨h.at_.same k, fun b o e n => k _ _ (h.keep b o e n)⟩
theorem StS.step {s dg pl : Addr} {ds : List Int} {H0 H H' : Hp} (h : StS s dg pl ds H0 H) (a : StAt H' s dg pl ds) (k : Stay pl H H') : StS s dg pl ds H0 H' := ⟨a, h.keep.trans k⟩
theorem StAt.rm {s dg pl D : Addr} {ds : List Int} {H : Hp} (h : StAt H s dg pl ds) (h1 : s ≠ D) (h2 : dg ≠ D) (h3 : pl ≠ D) : StAt (rm D H) s dg pl ds := by
  obtain ⟨a, b, ⟨n, c⟩, d⟩ := h
  exact ⟨(rm_at h1).trans a, (rm_at h2).trans b, ⟨n, (rm_at h3).trans c⟩, d⟩
theorem StAt.apart {s dg pl D : Addr} {ds : List Int} {H : Hp} (h : StAt H s dg pl ds) (hD : H D = none) : s ≠ D ∧ dg ≠ D ∧ pl ≠ D := by
  obtain ⟨a, b, ⟨n, c⟩, d⟩ := h
  exact ⟨ne_of_none a hD, ne_of_none b hD, ne_of_none c hD⟩
theorem kp_stay {pl : Addr} {H H' : Hp} (s : Stay pl H H') : Kp (fun b => b = pl) H H' := fun b o e n => s b o e n
theorem stay_kp {pl : Addr} {H H' : Hp} (s : Kp (fun b => b = pl) H H') : Stay pl H H' := fun b o e n => s b o e n
def spWord : Sp := fun vs H Q _ => ∃ (s dg pl : Addr) (ds : List Int) (i : Nat), vs = [.ref s, .int (i : Int)] ∧ StAt H s dg pl ds ∧ DsOk ds ∧ i < 10 ∧
  ∀ (H' : Hp) (w : List Nat), StAt H' s dg pl ds → Stay pl H H' → NameOk w → CapIs i w → Q (.str (S w)) H'
section
variable {P : Program} {w : World} {K : PySem.W.Frag} {mg : Str → Option Value} {base : Heap}
theorem sc_law_word : FnScope ["_law_stream_here", "_law_index", "_law_letters", "_law_size", "_law_text_here", "_law_place", "_law_word_here", "_law_k"] ["_law_stream_here", "_law_index"] (defScope s_law_word) := ⟨rfl, rfl, rfl, by decide +kernel, rfl, by decide +kernel, by decide +kernel⟩
theorem ok_law_word (T : Tx K mg) (k_law_next : C8.Cal P w K mg base 1 "_law_next" spNext []) : C8.Cal P w K mg base 2 "_law_word" spWord [] := by
  obtain ⟨fd, F⟩ := T.f_law_word
  refine calOf F T.glo__law_word (F.bindsN (ps := ["_law_stream_here", "_law_index"]) fun _ _ _ _ _ _ us hl => match us, hl with | [_, _], _ => rfl) sc_law_word ?_ ?_
  · rintro vs H Q E ⟨s, dg, pl, ds, i, rfl, _⟩
    rfl
  · rintro cdv A outer st H vs Q E hr ⟨s, dg, pl, ds, ix, rfl, h0, ok, hix, k⟩
    refine ⟨_, pss_cons (ps_set (i := 2) sc_law_word.nd rfl (Or.inr rfl) (pe_str))
      (pss_cons (ps_set (i := 3) sc_law_word.nd rfl (Or.inl rfl) (C8.pe_c k_law_next hr (by decide) (by rfl) (pa_cons (pv 0) (pa_cons (pe_int) pa_nil))))
      (pss_cons (ps_set (i := 4) sc_law_word.nd rfl (Or.inl rfl) (pe_join (pe_str) (pe_lc (own := [("_law_k", 7)]) (tt := tYes) rfl sc_law_word.nd (pi_range1 (by rfl) T.free_range (pa_cons (pv 3) pa_nil)) (blkOk_by (own := [("_law_k", 7)]) (N := ["_law_stream_here", "_law_index", "_law_letters", "_law_size", "_law_text_here", "_law_place", "_law_word_here", "_law_k"]) (sc := defScope s_law_word) (by decide +kernel)) (fun _ _ _ _ _ => pg_name (i := 7) sc_law_word.nd rfl (Or.inl rfl)) (fun _ _ _ _ _ => pts_nil) (fun _ _ _ _ _ => pe_ix ix_str (pv 2) (C8.pe_c k_law_next hr (by decide) (by rfl) (pa_cons (pv 0) (pa_cons (pe_int) pa_nil))) (fun _ _ => rfl)))))
      (pss_cons (ps_set (i := 5) sc_law_word.nd rfl (Or.inl rfl) (C8.pe_c k_law_next hr (by decide) (by rfl) (pa_cons (pv 0) (pa_cons (pe_op op_add (pv 3) (pe_int)) pa_nil))))
      (pss_cons (ps_set (i := 6) sc_law_word.nd rfl (Or.inl rfl) (pe_op op_add_str (pe_op op_add_str (pe_slice sl_str (pv 4) po_none (po_some (pv 5))) (pe_ix ix_str (pe_str) (pv 1) (fun _ _ => rfl))) (pe_slice sl_str (pv 4) (po_some (pv 5)) po_none)))
      (pss_cons (ps_if (pt_cmpR op_in_sign (pe_ix ix_str (pv 6) (pe_int) (fun _ _ => rfl)) (pe_slice sl_str (pv 2) (po_some (pe_int)) po_none) (by rfl)) (pss_one (ps_set (i := 6) sc_law_word.nd rfl (Or.inl rfl) (pe_op op_add_str (pe_str) (pv 6)))) (pss_nil))
      (pss_one (ps_ret (pv 6)))))))), ?_⟩
    try dsimp only [cxK]
    walk_at "sx"
    refine ⟨s, dg, pl, ds, 5, rfl, h0, ok, by decide, fun H1 v h1 y1 v0 v1 _ => ?_⟩
    walk_at "sx"
    refine x_rng1E (by omega) (by omega) ?_
    intro D hD
    obtain ⟨nD1, nD2, nD3⟩ := h1.apart hD
    refine lc_gen (walk_range (lo := 0) (n := v.toNat)) (by omega) hD (fun b => b = pl) (fun H => StAt H s dg pl ds) (fun _ y _ => ∃ c, y = .str (S [c]) ∧ isLow c) (fun z => nD3 z.symm) (fun _ _ _ _ h _ => h) h1 (fun _ _ _ => trivial) y_fn ?_ ?_ (gm_name 7)
    · rintro i x H2 H3 k' hi kp hI ⟨acc, hacc⟩ ⟨rfl, rfl⟩ hk
      refine ⟨rfl, ?_⟩
      walk_at "sx"
      refine ⟨s, dg, pl, ds, 36, rfl, hI.same rm_same, ok, by decide, fun H4 u h4 y4 u0 u1 _ => ?_⟩
      obtain ⟨c, hc, hl⟩ := letters_at u.toNat (by omega)
      rw [Int.toNat_of_nonneg u0] at hc
      exact ⟨_, u, c, rfl, rfl, by decide +kernel, hc, hk _ _ (kp_stay y4) (h4.rm nD1 nD2 nD3) ⟨c, rfl, hl⟩⟩
    · rintro ys H2 hlen hD' hI kp hR
      obtain ⟨cs, ecs, hcs⟩ : ∃ cs : List Nat, ys = txts (cs.map fun c => [c]) ∧ ∀ c ∈ cs, isLow c := by
        have hall : ∀ y ∈ ys, ∃ c, y = V.str (S [c]) ∧ isLow c := fun y hy => by
          obtain ⟨i, hi⟩ := List.mem_iff_getElem?.mp hy
          exact hR i y hi
        clear hlen hD' hR
        induction ys with
        | nil => exact ⟨[], rfl, fun c h => by cases h⟩
        | cons y r ih =>
          obtain ⟨cs, e, h⟩ := ih fun z hz => hall z (List.mem_cons_of_mem _ hz)
          obtain ⟨c, e1, h1⟩ := hall y List.mem_cons_self
          refine ⟨c :: cs, by rw [e1, e]; rfl, fun d hd => ?_⟩
          rcases List.mem_cons.mp hd with q | q
          · rw [q]
            exact h1
          · exact h d q
      have hcl : cs.length = v.toNat := by
        rw [← hlen, ecs, List.length_map, List.length_map]
      rw [ecs] at hD'
      have h2 : StAt H2 s dg pl ds := hI.same rm_same
      have y2 : Stay pl H1 H2 := (stay_kp kp).trans (Stay.same rm_same)
      walk_at "sx"
      refine x_joinZ hD' S_empty ?_ ?_
      · simp only [List.length_map, List.length_nil, Nat.mul_zero, Nat.add_zero, List.map_map]
        have e : (List.map ((fun x => x.length) ∘ fun c => [c]) cs).sum = cs.length := by
          clear hD' hcl ecs hcs
          induction cs with
          | nil => rfl
          | cons c r ih =>
            rw [List.map_cons, List.sum_cons, ih, List.length_cons]
            show 1 + r.length = _
            omega
        rw [e]
        omega
      rw [join_S, singles]
      walk_at "sx"
      refine ⟨s, dg, pl, ds, _, rfl, h2, ok, by omega, fun H3 p h3 y3 p0 p1 _ => ?_⟩
      obtain ⟨pn, rfl⟩ : ∃ pn : Nat, p = (pn : Int) := ⟨p.toNat, by omega⟩
      have hpn : pn ≤ cs.length := by omega
      have hz : (S cs).length ≤ sizeLine := S_small (by omega)
      walk_at "sx"
      refine ⟨_, rfl, hz, ?_⟩
      rw [cutS_to cs pn hpn]
      walk_at "sx"
      refine ⟨_, _, _, rfl, rfl, by decide +kernel, caps_at ix hix, ?_⟩
      have b1 : (cs.take pn).length ≤ 4 := by
        rw [List.length_take]
        omega
      have b2 : ([65 + ix] : List Nat).length ≤ 1 := Nat.le_refl _
      have b3 : (cs.drop pn).length ≤ 4 := by
        rw [List.length_drop]
        omega
      refine x_addS (b := [65 + ix]) b1 b2 (by decide) fun b4 => ?_
      rw [S_cat]
      walk_at "sx"
      refine ⟨_, rfl, hz, ?_⟩
      rw [cutS_from cs pn hpn]
      walk_at "sx"
      have ew : cs.take pn ++ [65 + ix] ++ cs.drop pn = wordOf cs pn ix := rfl
      rw [ew]
      have hwl : (wordOf cs pn ix).length ≤ 5 := by
        rw [wordOf_len]
        omega
      obtain ⟨c0, r0, e0⟩ : ∃ c r, wordOf cs pn ix = c :: r := by
        cases e : wordOf cs pn ix with
        | nil =>
          have z := wordOf_len cs pn ix
          rw [e] at z
          cases z
        | cons c r => exact ⟨c, r, rfl⟩
      have hc0 : atI (S (wordOf cs pn ix)).cps.toList 0 = some c0 := by
        rw [e0]
        exact atI_nat (xs := c0 :: r0) (j := 0) rfl
      refine ⟨_, 0, c0, rfl, rfl, S_small (by omega), hc0, ?_⟩
      walk_at "sx"
      refine ⟨_, rfl, by decide +kernel, ?_⟩
      refine ⟨c0, _, rfl, rfl, ?_⟩
      rw [digits_cut]
      walk_at "sx"
      have yy := (y1.trans y2).trans y3
      refine x_both (fun hb => ?_) fun hb => ?_
      · walk_at "sx"
        have b5 : ([118] : List Nat).length ≤ 1 := Nat.le_refl _
        have ev : (Str.ofString "v" : Str) = S [118] := by decide +kernel
        rw [ev]
        refine x_addS b5 hwl (by decide) fun b6 => ?_
        rw [S_cat]
        walk_at "sx"
        obtain ⟨z1, z2⟩ := wordOf_v (p := pn) hix hcs (by omega)
        exact k H3 (118 :: wordOf cs pn ix) h3 yy z1 z2
      · walk_at "sx"
        have hnd : ¬ isD c0 := fun q => by
          have z := of_decide_eq_false hb
          have q : 48 ≤ c0 ∧ c0 ≤ 57 := q
          simp only [List.mem_cons, List.not_mem_nil, or_false] at z
          omega
        exact k H3 _ h3 yy (wordOf_hd hix hcs (by omega) e0 hnd) (wordOf_cap hcs)
end
end Dp
namespace Dp
open PySem PySem.Spec PyProof.Rows L2 SX
/-! ### the law's things -/
theorem LightOk.snoc {hor : Int} : ∀ {l : List (Int × Int)} {m : Int} {p : Int × Int}, LightOk hor m l → leastAt m l l.length ≤ p.1 → p.1 < p.2 → p.2 ≤ hor → LightOk hor m (l ++ [p]) ∧ leastAt m (l ++ [p]) (l ++ [p]).length = p.2
  | [], m, p, _, h1, h2, h3 => ⟨⟨h1, h2, h3, True.intro⟩, rfl⟩
  | q :: r, m, p, ⟨a, b, c, d⟩, h1, h2, h3 => by
    obtain ⟨e, f⟩ := LightOk.snoc (l := r) (m := q.2) (p := p) d h1 h2 h3
    exact ⟨⟨a, b, c, e⟩, f⟩
theorem StAt.mut {s dg pl q : Addr} {ds : List Int} {H : Hp} {o : HO} (h : StAt H s dg pl ds) (h1 : s ≠ q) (h2 : dg ≠ q) (h3 : pl ≠ q) : StAt (upd H q o) s dg pl ds := by
  obtain ⟨a, b, ⟨n, c⟩, d⟩ := h
  exact ⟨(upd_ne h1).trans a, (upd_ne h2).trans b, ⟨n, (upd_ne h3).trans c⟩, d⟩
def SatT (H : Hp) (a : Addr) (x : Sat) : Prop := ∃ (nt lt : Addr) (ps : List Addr), H a = some (.tup [.str (S x.name), .ref nt, .ref lt]) ∧ H nt = some (.tup [.int x.store, .int x.battery, .int x.level, .int x.reserve, .int x.charge, .int x.settle]) ∧ H lt = some (.tup (ps.map V.ref)) ∧ LightAt H ps x.light
def StaT (H : Hp) (a : Addr) (x : Sta) : Prop := H a = some (.tup [.str (S x.name), .int x.ant, .int x.turn])
def RecT (H : Hp) (a : Addr) (x : Rec) : Prop := ∃ nt ut : Addr, H a = some (.tup [.str (S x.name), .int (x.sat : Int), .ref nt, .ref ut]) ∧ H nt = some (.tup [.int x.ear, .int x.lat, .int x.len, .int x.size, .int x.energy]) ∧ H ut = some (.tup [.int x.worth, .int x.rank, .int x.dead])
def PasT (H : Hp) (a : Addr) (x : Pas) : Prop := ∃ sp nt : Addr, H a = some (.tup [.str (S x.name), .int (x.sat : Int), .int (x.sta : Int), .ref sp, .ref nt]) ∧ H sp = some (.tup [.int x.first, .int x.last]) ∧ H nt = some (.tup [.int x.room, .int x.energy, .int x.fee])
/-- tuples stay -/
def Tp (H H' : Hp) : Prop := ∀ (a : Addr) (xs : List V), H a = some (.tup xs) → H' a = some (.tup xs)
theorem Tp.trans {H H' H2 : Hp} (a : Tp H H') (b : Tp H' H2) : Tp H H2 := fun x xs e => b x xs (a x xs e)
theorem Tp.same {H H' : Hp} (s : Same H H') : Tp H H' := fun _ _ e => s _ _ e
theorem Tp.mut {H : Hp} {q : Addr} {xs : List V} {o : HO} (h : H q = some (.lst xs)) : Tp H (upd H q o) := fun a ys e => (upd_ne (ne_of e h (by intro q; cases q))).trans e
theorem Tp.mutD {H : Hp} {q : Addr} {xs : List (Key × V)} {o : HO} (h : H q = some (.dK xs)) : Tp H (upd H q o) := fun a ys e => (upd_ne (ne_of e h (by intro q; cases q))).trans e
theorem Tp.stay {s dg pl : Addr} {ds : List Int} {H H' : Hp} (k : Stay pl H H') (h : StAt H s dg pl ds) : Tp H H' := by
  obtain ⟨_, _, ⟨n, c⟩, _⟩ := h
  exact fun a xs e => k _ _ e (ne_of e c (by intro q; cases q))
theorem LightAt.tp {H H' : Hp} {ps : List Addr} {l : List (Int × Int)} (h : LightAt H ps l) (k : Tp H H') : LightAt H' ps l := h.up k
theorem SatT.tp {H H' : Hp} {a : Addr} {x : Sat} (h : SatT H a x) (k : Tp H H') : SatT H' a x := by
  obtain ⟨nt, lt, ps, h1, h2, h3, h4⟩ := h
  exact ⟨nt, lt, ps, k _ _ h1, k _ _ h2, k _ _ h3, h4.tp k⟩
theorem StaT.tp {H H' : Hp} {a : Addr} {x : Sta} (h : StaT H a x) (k : Tp H H') : StaT H' a x := k _ _ h
theorem RecT.tp {H H' : Hp} {a : Addr} {x : Rec} (h : RecT H a x) (k : Tp H H') : RecT H' a x := by
  obtain ⟨nt, ut, h1, h2, h3⟩ := h
  exact ⟨nt, ut, k _ _ h1, k _ _ h2, k _ _ h3⟩
theorem PasT.tp {H H' : Hp} {a : Addr} {x : Pas} (h : PasT H a x) (k : Tp H H') : PasT H' a x := by
  obtain ⟨nt, ut, h1, h2, h3⟩ := h
  exact ⟨nt, ut, k _ _ h1, k _ _ h2, k _ _ h3⟩
def spLSat : Sp := fun vs H Q _ => ∃ (s dg pl : Addr) (ds : List Int) (ix : Nat) (hor : Int), vs = [.ref s, .int (ix : Int), .int hor] ∧ StAt H s dg pl ds ∧ DsOk ds ∧ ix < 10 ∧ 1 ≤ hor ∧
  ∀ (H' : Hp) (a : Addr) (x : Sat), StAt H' s dg pl ds → Stay pl H H' → SatT H' a x → SatOk hor x → x.level ≤ 100 → CapIs ix x.name → Q (.ref a) H'
def spLRec : Sp := fun vs H Q _ => ∃ (s dg pl : Addr) (ds : List Int) (ix n : Nat) (hor : Int), vs = [.ref s, .int (ix : Int), .int (n : Int), .int hor] ∧ StAt H s dg pl ds ∧ DsOk ds ∧ ix < 10 ∧ 1 ≤ hor ∧ 0 < n ∧
  ∀ (H' : Hp) (a : Addr) (x : Rec), StAt H' s dg pl ds → Stay pl H H' → RecT H' a x → RecOk hor n x → CapIs ix x.name → Q (.ref a) H'
def spLPas : Sp := fun vs H Q _ => ∃ (s dg pl : Addr) (ds : List Int) (ix n m : Nat) (hor : Int), vs = [.ref s, .int (ix : Int), .int (n : Int), .int (m : Int), .int hor] ∧ StAt H s dg pl ds ∧ DsOk ds ∧ ix < 10 ∧ 1 ≤ hor ∧ 0 < n ∧ 0 < m ∧
  ∀ (H' : Hp) (a : Addr) (x : Pas), StAt H' s dg pl ds → Stay pl H H' → PasT H' a x → PasOk hor n m x → CapIs ix x.name → Q (.ref a) H'
section
variable {P : Program} {w : World} {K : PySem.W.Frag} {mg : Str → Option Value} {base : Heap}
theorem sc_law_satellite : FnScope ["_law_stream_here", "_law_index", "_law_horizon", "_law_store", "_law_battery", "_law_level", "_law_reserve", "_law_light", "_law_least", "_law_k", "_law_first", "_law_end", "_law_numbers"] ["_law_stream_here", "_law_index", "_law_horizon"] (defScope s_law_satellite) := ⟨rfl, rfl, rfl, by decide +kernel, rfl, by decide +kernel, by decide +kernel⟩
theorem ok_law_satellite (T : Tx K mg) (k_law_next : C8.Cal P w K mg base 1 "_law_next" spNext []) (k_law_word : C8.Cal P w K mg base 2 "_law_word" spWord []) : C8.Cal P w K mg base 3 "_law_satellite" spLSat [] := by
  obtain ⟨fd, F⟩ := T.f_law_satellite
  refine calOf F T.glo__law_satellite (F.bindsN (ps := ["_law_stream_here", "_law_index", "_law_horizon"]) fun _ _ _ _ _ _ us hl => match us, hl with | [_, _, _], _ => rfl) sc_law_satellite ?_ ?_
  · rintro vs H Q E ⟨s, dg, pl, ds, ix, hor, rfl, _⟩
    rfl
  · rintro cdv A outer st H vs Q E hr ⟨s, dg, pl, ds, ix, hor, rfl, h0, ok, hix, hh, k⟩
    refine ⟨_, pss_cons (ps_set (i := 3) sc_law_satellite.nd rfl (Or.inl rfl) (C8.pe_c k_law_next hr (by decide) (by rfl) (pa_cons (pv 0) (pa_cons (pe_int) pa_nil))))
      (pss_cons (ps_set (i := 4) sc_law_satellite.nd rfl (Or.inl rfl) (pe_op op_add (pe_int) (C8.pe_c k_law_next hr (by decide) (by rfl) (pa_cons (pv 0) (pa_cons (pe_int) pa_nil)))))
      (pss_cons (ps_set (i := 5) sc_law_satellite.nd rfl (Or.inl rfl) (pe_op op_mod (C8.pe_c k_law_next hr (by decide) (by rfl) (pa_cons (pv 0) (pa_cons (pe_int) pa_nil))) (pe_op op_add (pv 4) (pe_int))))
      (pss_cons (ps_set (i := 6) sc_law_satellite.nd rfl (Or.inl rfl) (pe_op op_mod (C8.pe_c k_law_next hr (by decide) (by rfl) (pa_cons (pv 0) (pa_cons (pe_int) pa_nil))) (pe_op op_add (pe_op op_fdiv (pv 5) (pe_int)) (pe_int))))
      (pss_cons (ps_set (i := 7) sc_law_satellite.nd rfl (Or.inl rfl) (pe_lst (pa_nil)))
      (pss_cons (ps_set (i := 8) sc_law_satellite.nd rfl (Or.inl rfl) (pe_int))
      (pss_cons (ps_for PassesOwn.never rfl (pi_range1 (by rfl) T.free_range (pa_cons (C8.pe_c k_law_next hr (by decide) (by rfl) (pa_cons (pv 0) (pa_cons (pe_int) pa_nil))) pa_nil)) (pg_name (i := 9) sc_law_satellite.nd rfl (Or.inl rfl))
        (pss_cons (ps_set (i := 10) sc_law_satellite.nd rfl (Or.inl rfl) (pe_op op_add (pv 8) (C8.pe_c k_law_next hr (by decide) (by rfl) (pa_cons (pv 0) (pa_cons (pe_int) pa_nil)))))
        (pss_cons (ps_set (i := 11) sc_law_satellite.nd rfl (Or.inl rfl) (pe_op op_add (pe_op op_add (pv 10) (pe_int)) (C8.pe_c k_law_next hr (by decide) (by rfl) (pa_cons (pv 0) (pa_cons (pe_int) pa_nil)))))
        (pss_one (ps_if (pt_cmpR op_le (pv 11) (pv 2) (nomark _)) (pss_cons (ps_expr (pe_bm PySem.F.plainAttrs_list PySem.F.slot_list_append PySem.F.type_list_append mt_append (pv 7) (pa_cons (pe_tup (pa_cons (pv 10) (pa_cons (pv 11) pa_nil))) pa_nil)))
          (pss_one (ps_set (i := 8) sc_law_satellite.nd rfl (Or.inl rfl) (pv 11)))) (pss_nil))))))
      (pss_cons (ps_set (i := 12) sc_law_satellite.nd rfl (Or.inl rfl) (pe_tup (pa_cons (pv 3) (pa_cons (pv 4) (pa_cons (pv 5) (pa_cons (pv 6) (pa_cons (C8.pe_c k_law_next hr (by decide) (by rfl) (pa_cons (pv 0) (pa_cons (pe_int) pa_nil))) (pa_cons (C8.pe_c k_law_next hr (by decide) (by rfl) (pa_cons (pv 0) (pa_cons (pe_int) pa_nil))) pa_nil))))))))
      (pss_one (ps_ret (pe_tup (pa_cons (C8.pe_c k_law_word hr (by decide) (by rfl) (pa_cons (pv 0) (pa_cons (pv 1) pa_nil))) (pa_cons (pv 12) (pa_cons (pe_callTy call_tuple_of (by rfl) T.free_tuple (by decide +kernel) (pa_cons (pv 7) pa_nil)) pa_nil))))))))))))), ?_⟩
    try dsimp only [cxK]
    have z0 : Stay pl H H := Stay.same (Same.refl _)
    walk_at "sx"
    refine ⟨s, dg, pl, ds, _, rfl, h0, ok, by decide, fun H1 a h1 y1 a0 a1 a60 => ?_⟩
    have z1 := z0.trans y1
    walk_at "sx"
    refine ⟨s, dg, pl, ds, _, rfl, h1, ok, by decide, fun H2 b h2 y2 b0 b1 b60 => ?_⟩
    have z2 := z1.trans y2
    walk_at "sx"
    refine ⟨s, dg, pl, ds, _, rfl, h2, ok, by decide, fun H3 c h3 y3 c0 c1 c60 => ?_⟩
    have z3 := z2.trans y3
    walk_at "sx"
    refine x_rI (by omega) ?_
    walk_at "sx"
    have lv0 : 0 ≤ c % (10 + b + 1) := Int.emod_nonneg _ (by omega)
    have lv1 : c % (10 + b + 1) < 10 + b + 1 := Int.emod_lt_of_pos _ (by omega)
    generalize c % (10 + b + 1) = lv at lv0 lv1 ⊢
    refine ⟨s, dg, pl, ds, _, rfl, h3, ok, by decide, fun H4 d h4 y4 d0 d1 d60 => ?_⟩
    have z4 := z3.trans y4
    walk_at "sx"
    refine x_rI ⟨by decide, by decide⟩ ?_
    walk_at "sx"
    refine x_rI (by omega) ?_
    walk_at "sx"
    have rv0 : 0 ≤ d % (lv / 3 + 1) := Int.emod_nonneg _ (by omega)
    have rv1 : d % (lv / 3 + 1) < lv / 3 + 1 := Int.emod_lt_of_pos _ (by omega)
    generalize d % (lv / 3 + 1) = rv at rv0 rv1 ⊢
    refine ⟨show 0 ≤ sizeLine by decide, fun q fq => ?_⟩
    have y5 : Same H4 (upd H4 q (.lst [])) := same_upd (Same.refl _) fq
    have eq : upd H4 q (.lst []) q = some (.lst []) := upd_same
    have npq : q ≠ pl := (h4.apart fq).2.2.symm
    generalize upd H4 q (.lst []) = H5 at y5 eq ⊢
    have h5 := h4.same y5
    have z5 := z4.trans (Stay.same (p := pl) y5)
    walk_at "sx"
    refine ⟨s, dg, pl, ds, _, rfl, h5, ok, by decide, fun H6 cn h6 y6 cn0 cn1 cn60 => ?_⟩
    have z6 := z5.trans y6
    walk_at "sx"
    have hq0 : H q = none := by
      cases e : H q with
      | none => rfl
      | some o =>
        rw [z4 _ _ e npq] at fq
        cases fq
    refine x_rng1E (by omega) (by omega) ?_
    have eq6 := y6 _ _ eq npq
    have apq := h4.apart fq
    refine for_gen (walk_range (lo := 0) (n := cn.toNat)) (fun i σ H' => ∃ (le : Int) (light : List (Int × Int)) (ps : List Addr) (v9 v10 v11 v12 : Option V), StAt H' s dg pl ds ∧ Stay pl H H' ∧ H' q = some (.lst (ps.map V.ref)) ∧ LightAt H' ps light ∧ LightOk hor 0 light ∧ light.length ≤ i ∧ leastAt 0 light light.length = le ∧ 0 ≤ le ∧
      σ = [some (.ref s), some (.int (ix : Int)), some (.int hor), some (.int a), some (.int (10 + b)), some (.int lv), some (.int rv), some (.ref q), some (.int le), v9, v10, v11, v12]) ?_ ?_ ?_ ?_
    · exact ⟨0, [], [], none, none, none, none, h6, z6, eq6, ⟨rfl, fun i p z e _ => by simp at e⟩, True.intro, Nat.zero_le _, rfl, Int.le_refl _, rfl⟩
    · intros
      trivial
    · rintro i x σ Ha Hb hi ⟨le, light, ps, v9, v10, v11, v12, ha, za, hqa, hla, lok1, hlen, hle, hle0, rfl⟩ ⟨rfl, rfl⟩
      walk_at "sx"
      refine ⟨s, dg, pl, ds, _, rfl, ha, ok, by decide, fun Hc f hc yc f0 f1 f60 => ?_⟩
      walk_at "sx"
      refine ⟨s, dg, pl, ds, _, rfl, hc, ok, by decide, fun Hd g hd yd g0 g1 g60 => ?_⟩
      walk_at "sx"
      have zd := (za.trans yc).trans yd
      have hqd := yd _ _ (yc _ _ hqa npq) npq
      have hld := (hla.tp (Tp.stay yc ha)).tp (Tp.stay yd hc)
      refine x_both (fun hb => ?_) fun hb => ?_
      · have hb := of_decide_eq_true hb
        walk_at "sx"
        refine ⟨show 2 ≤ sizeLine by decide, fun t ht => ?_⟩
        have hqe := (upd_ne (o := .tup [V.int (le + f), V.int (le + f + 1 + g)]) (ne_of_none hqd ht)).trans hqd
        have hps : ps.length ≤ 3 := by
          have z := hld.1
          omega
        walk_at "sx"
        refine x_app hqe (by rw [List.length_map]; omega) ?_
        walk_at "sx"
        obtain ⟨w1, w2⟩ := LightOk.snoc (p := (le + f, le + f + 1 + g)) lok1 (by rw [hle]; show le ≤ le + f; omega) (by show le + f < le + f + 1 + g; omega) hb
        have he := hd.same (same_upd (o := .tup [V.int (le + f), V.int (le + f + 1 + g)]) (Same.refl _) ht)
        refine ⟨_, light ++ [(le + f, le + f + 1 + g)], ps ++ [t], _, _, _, _, he.mut apq.1 apq.2.1 apq.2.2, ?_, by rw [List.map_append]; exact upd_same, ?_, w1, by rw [List.length_append, List.length_singleton]; omega, w2, by show 0 ≤ le + f + 1 + g; omega, rfl⟩
        · intro bb o e hbb
          have nq : bb ≠ q := ne_of_none e hq0
          rw [upd_ne nq, upd_ne (ne_of_none (zd _ _ e hbb) ht)]
          exact zd _ _ e hbb
        · refine LightAt.snoc (hld.tp (fun aa xs e => ?_)) ?_
          · rw [upd_ne (ne_of e hqd (by intro q; cases q)), upd_ne (ne_of_none e ht)]
            exact e
          · rw [upd_ne (ne_of_none hqd ht).symm]
            exact upd_same
      · walk_at "sx"
        exact ⟨le, light, ps, _, _, _, _, hd, zd, hqd, hld, lok1, by omega, hle, hle0, rfl⟩
    rintro σ H6 ⟨le, light, ps, v9, v10, v11, v12, h6, z6, hqa, hla, lok1, hlen, hle, hle0, rfl⟩
    walk_at "sx"
    refine ⟨s, dg, pl, ds, _, rfl, h6, ok, by decide, fun H7 ch h7 y7 ch0 ch1 ch60 => ?_⟩
    have z7 := z6.trans y7
    walk_at "sx"
    refine ⟨s, dg, pl, ds, _, rfl, h7, ok, by decide, fun H8 se h8 y8 se0 se1 se60 => ?_⟩
    have z8 := z7.trans y8
    walk_at "sx"
    refine ⟨show 6 ≤ sizeLine by decide, fun nt fnt => ?_⟩
    have y9 : Same H8 (upd H8 nt (.tup [.int a, .int (10 + b), .int lv, .int rv, .int ch, .int se])) := same_upd (Same.refl _) fnt
    have ent : upd H8 nt (.tup [.int a, .int (10 + b), .int lv, .int rv, .int ch, .int se]) nt = some (.tup [.int a, .int (10 + b), .int lv, .int rv, .int ch, .int se]) := upd_same
    have npnt : nt ≠ pl := (h8.apart fnt).2.2.symm
    generalize upd H8 nt (.tup [.int a, .int (10 + b), .int lv, .int rv, .int ch, .int se]) = H9 at y9 ent ⊢
    have h9 := h8.same y9
    have z9 := z8.trans (Stay.same (p := pl) y9)
    walk_at "sx"
    refine ⟨s, dg, pl, ds, ix, rfl, h9, ok, hix, fun H10 nm h10 y10 hnm hcap => ?_⟩
    have z10 := z9.trans y10
    walk_at "sx"
    have hqm : H10 q = some (.lst (ps.map V.ref)) := y10 _ _ (y9 _ _ (y8 _ _ (y7 _ _ hqa npq) npq)) npq
    have tpm := (Tp.stay y7 h6).trans ((Tp.stay y8 h7).trans ((Tp.same y9).trans (Tp.stay y10 h9)))
    walk_at "sx"
    intro lt flt
    have y11 : Same H10 (upd H10 lt (.tup (ps.map V.ref))) := same_upd (Same.refl _) flt
    have elt : upd H10 lt (.tup (ps.map V.ref)) lt = some (.tup (ps.map V.ref)) := upd_same
    have nplt : lt ≠ pl := (h10.apart flt).2.2.symm
    generalize upd H10 lt (.tup (ps.map V.ref)) = H11 at y11 elt ⊢
    have h11 := h10.same y11
    have z11 := z10.trans (Stay.same (p := pl) y11)
    walk_at "sx"
    refine ⟨show 3 ≤ sizeLine by decide, fun rt frt => ?_⟩
    have y12 : Same H11 (upd H11 rt (.tup [.str (S nm), .ref nt, .ref lt])) := same_upd (Same.refl _) frt
    have ert : upd H11 rt (.tup [.str (S nm), .ref nt, .ref lt]) rt = some (.tup [.str (S nm), .ref nt, .ref lt]) := upd_same
    have nprt : rt ≠ pl := (h11.apart frt).2.2.symm
    generalize upd H11 rt (.tup [.str (S nm), .ref nt, .ref lt]) = H12 at y12 ert ⊢
    have h12 := h11.same y12
    have z12 := z11.trans (Stay.same (p := pl) y12)
    walk_at "sx"
    have ent' := (Tp.stay y10 h9) _ _ ent
    refine k H12 rt ⟨nm, a, 10 + b, lv, rv, ch, se, light⟩ h12 z12 ⟨nt, lt, ps, ert, y12 _ _ (y11 _ _ ent'), y12 _ _ elt, (hla.tp tpm).tp ((Tp.same y11).trans (Tp.same y12))⟩ ⟨hnm, ?_, ?_, ?_, ?_, ?_, ?_, lok1, ?_⟩ (by show lv ≤ 100; omega) hcap
    · show 0 ≤ a ∧ a ≤ 1000000
      omega
    · show 0 ≤ 10 + b ∧ 10 + b ≤ 1000000
      omega
    · show 0 ≤ lv ∧ lv ≤ 10 + b
      omega
    · show 0 ≤ rv ∧ rv ≤ lv
      omega
    · show 0 ≤ ch ∧ ch ≤ 1000
      omega
    · show 0 ≤ se ∧ se ≤ 60
      omega
    · show light.length ≤ 3
      omega
theorem sc_law_recording : FnScope ["_law_stream_here", "_law_index", "_law_satellites", "_law_horizon", "_law_earliest", "_law_latest", "_law_length", "_law_deadline", "_law_numbers", "_law_urgency"] ["_law_stream_here", "_law_index", "_law_satellites", "_law_horizon"] (defScope s_law_recording) := ⟨rfl, rfl, rfl, by decide +kernel, rfl, by decide +kernel, by decide +kernel⟩
theorem ok_law_recording (T : Tx K mg) (k_law_next : C8.Cal P w K mg base 1 "_law_next" spNext []) (k_law_word : C8.Cal P w K mg base 2 "_law_word" spWord []) : C8.Cal P w K mg base 3 "_law_recording" spLRec [] := by
  obtain ⟨fd, F⟩ := T.f_law_recording
  refine calOf F T.glo__law_recording (F.bindsN (ps := ["_law_stream_here", "_law_index", "_law_satellites", "_law_horizon"]) fun _ _ _ _ _ _ us hl => match us, hl with | [_, _, _, _], _ => rfl) sc_law_recording ?_ ?_
  · rintro vs H Q E ⟨s, dg, pl, ds, ix, n, hor, rfl, _⟩
    rfl
  · rintro cdv A outer st H vs Q E hr ⟨s, dg, pl, ds, ix, n, hor, rfl, h0, ok, hix, hh, hn, k⟩
    refine ⟨_, pss_cons (ps_set (i := 4) sc_law_recording.nd rfl (Or.inl rfl) (pe_op op_mod (C8.pe_c k_law_next hr (by decide) (by rfl) (pa_cons (pv 0) (pa_cons (pe_int) pa_nil))) (pv 3)))
      (pss_cons (ps_set (i := 5) sc_law_recording.nd rfl (Or.inl rfl) (pe_callB (call_min2 rfl) (by rfl) T.free_min (by decide +kernel) (pa_cons (pe_op op_add (pv 4) (pe_ix ix_list (pe_lst (pa_cons (pe_int) (pa_cons (pe_int) (pa_cons (pe_int) (pa_cons (pe_int) (pa_cons (pe_int) pa_nil)))))) (C8.pe_c k_law_next hr (by decide) (by rfl) (pa_cons (pv 0) (pa_cons (pe_int) pa_nil))) (fun _ _ => rfl))) (pa_cons (pe_op op_sub (pv 3) (pe_int)) pa_nil))))
      (pss_cons (ps_set (i := 6) sc_law_recording.nd rfl (Or.inl rfl) (pe_op op_add (pe_int) (pe_op op_mod (C8.pe_c k_law_next hr (by decide) (by rfl) (pa_cons (pv 0) (pa_cons (pe_int) pa_nil))) (pe_op op_sub (pv 3) (pv 5)))))
      (pss_cons (ps_set (i := 7) sc_law_recording.nd rfl (Or.inl rfl) (pe_callB (call_min2 rfl) (by rfl) T.free_min (by decide +kernel) (pa_cons (pv 3) (pa_cons (pe_op op_add (pe_ix ix_list (pe_lst (pa_cons (pe_int) (pa_cons (pe_int) (pa_cons (pe_int) pa_nil)))) (C8.pe_c k_law_next hr (by decide) (by rfl) (pa_cons (pv 0) (pa_cons (pe_int) pa_nil))) (fun _ _ => rfl)) (C8.pe_c k_law_next hr (by decide) (by rfl) (pa_cons (pv 0) (pa_cons (pe_int) pa_nil)))) pa_nil))))
      (pss_cons (ps_set (i := 8) sc_law_recording.nd rfl (Or.inl rfl) (pe_tup (pa_cons (pv 4) (pa_cons (pv 5) (pa_cons (pv 6) (pa_cons (C8.pe_c k_law_next hr (by decide) (by rfl) (pa_cons (pv 0) (pa_cons (pe_int) pa_nil))) (pa_cons (C8.pe_c k_law_next hr (by decide) (by rfl) (pa_cons (pv 0) (pa_cons (pe_int) pa_nil))) pa_nil)))))))
      (pss_cons (ps_set (i := 9) sc_law_recording.nd rfl (Or.inl rfl) (pe_tup (pa_cons (pe_op op_add (pe_int) (C8.pe_c k_law_next hr (by decide) (by rfl) (pa_cons (pv 0) (pa_cons (pe_int) pa_nil)))) (pa_cons (pe_op op_add (pe_int) (C8.pe_c k_law_next hr (by decide) (by rfl) (pa_cons (pv 0) (pa_cons (pe_int) pa_nil)))) (pa_cons (pv 7) pa_nil)))))
      (pss_one (ps_ret (pe_tup (pa_cons (C8.pe_c k_law_word hr (by decide) (by rfl) (pa_cons (pv 0) (pa_cons (pv 1) pa_nil))) (pa_cons (C8.pe_c k_law_next hr (by decide) (by rfl) (pa_cons (pv 0) (pa_cons (pv 2) pa_nil))) (pa_cons (pv 8) (pa_cons (pv 9) pa_nil)))))))))))), ?_⟩
    try dsimp only [cxK]
    have z0 : Stay pl H H := Stay.same (Same.refl _)
    walk_at "sx"
    refine ⟨s, dg, pl, ds, _, rfl, h0, ok, by decide, fun H1 a h1 y1 a0 a1 a60 => ?_⟩
    have z1 := z0.trans y1
    walk_at "sx"
    refine x_rI (by omega) ?_
    walk_at "sx"
    have ev0 : 0 ≤ a % hor := Int.emod_nonneg _ (by omega)
    have ev1 : a % hor < hor := Int.emod_lt_of_pos _ (by omega)
    generalize a % hor = ev at ev0 ev1 ⊢
    refine ⟨show 5 ≤ sizeLine by decide, fun t1 ft1 => ?_⟩
    have y2 : Same H1 (upd H1 t1 (.lst [.int 0, .int 0, .int 1, .int 2, .int 5])) := same_upd (Same.refl _) ft1
    have et1 : upd H1 t1 (.lst [.int 0, .int 0, .int 1, .int 2, .int 5]) t1 = some (.lst [.int 0, .int 0, .int 1, .int 2, .int 5]) := upd_same
    have npt1 : t1 ≠ pl := (h1.apart ft1).2.2.symm
    generalize upd H1 t1 (.lst [.int 0, .int 0, .int 1, .int 2, .int 5]) = H2 at y2 et1 ⊢
    have h2 := h1.same y2
    have z2 := z1.trans (Stay.same (p := pl) y2)
    walk_at "sx"
    refine ⟨s, dg, pl, ds, _, rfl, h2, ok, by decide, fun H3 b h3 y3 b0 b1 b60 => ?_⟩
    have z3 := z2.trans y3
    walk_at "sx"
    obtain ⟨d1, hd1, at1⟩ := ints_at (ds := [0, 0, 1, 2, 5]) b0 b1
    have hd1 : 0 ≤ d1 ∧ d1 ≤ 5 := (by decide : ∀ d ∈ ([0, 0, 1, 2, 5] : List Int), 0 ≤ d ∧ d ≤ 5) d1 hd1
    refine ⟨t1, _, b, _, rfl, rfl, SqL.of (y3 _ _ et1 npt1), at1, ?_⟩
    walk_at "sx"
    have la : ev ≤ (if hor - 1 < ev + d1 then hor - 1 else ev + d1) ∧ (if hor - 1 < ev + d1 then hor - 1 else ev + d1) ≤ ev + 20 ∧ (if hor - 1 < ev + d1 then hor - 1 else ev + d1) ≤ hor - 1 := by
      split
      · omega
      · omega
    generalize (if hor - 1 < ev + d1 then hor - 1 else ev + d1) = la0 at la ⊢
    refine ⟨s, dg, pl, ds, _, rfl, h3, ok, by decide, fun H4 c h4 y4 c0 c1 c60 => ?_⟩
    have z4 := z3.trans y4
    walk_at "sx"
    refine x_rI (by omega) ?_
    walk_at "sx"
    have lg0 : 0 ≤ c % (hor - la0) := Int.emod_nonneg _ (by omega)
    have lg1 : c % (hor - la0) < hor - la0 := Int.emod_lt_of_pos _ (by omega)
    generalize c % (hor - la0) = lg at lg0 lg1 ⊢
    refine ⟨show 3 ≤ sizeLine by decide, fun t2 ft2 => ?_⟩
    have y5 : Same H4 (upd H4 t2 (.lst [.int 60, .int 40, .int 30])) := same_upd (Same.refl _) ft2
    have et2 : upd H4 t2 (.lst [.int 60, .int 40, .int 30]) t2 = some (.lst [.int 60, .int 40, .int 30]) := upd_same
    have npt2 : t2 ≠ pl := (h4.apart ft2).2.2.symm
    generalize upd H4 t2 (.lst [.int 60, .int 40, .int 30]) = H5 at y5 et2 ⊢
    have h5 := h4.same y5
    have z5 := z4.trans (Stay.same (p := pl) y5)
    walk_at "sx"
    refine ⟨s, dg, pl, ds, _, rfl, h5, ok, by decide, fun H6 d h6 y6 d0 d1 d60 => ?_⟩
    have z6 := z5.trans y6
    walk_at "sx"
    obtain ⟨d2, hd2, at2⟩ := ints_at (ds := [60, 40, 30]) d0 d1
    have hd2 : 30 ≤ d2 ∧ d2 ≤ 60 := (by decide : ∀ d ∈ ([60, 40, 30] : List Int), 30 ≤ d ∧ d ≤ 60) d2 hd2
    refine ⟨t2, _, d, _, rfl, rfl, SqL.of (y6 _ _ et2 npt2), at2, ?_⟩
    walk_at "sx"
    refine ⟨s, dg, pl, ds, _, rfl, h6, ok, by decide, fun H7 e h7 y7 e0 e1 e60 => ?_⟩
    have z7 := z6.trans y7
    walk_at "sx"
    have dl : 0 ≤ (if d2 + e < hor then d2 + e else hor) ∧ (if d2 + e < hor then d2 + e else hor) ≤ hor := by
      split
      · omega
      · omega
    generalize (if d2 + e < hor then d2 + e else hor) = dl0 at dl ⊢
    refine ⟨s, dg, pl, ds, _, rfl, h7, ok, by decide, fun H8 f h8 y8 f0 f1 f60 => ?_⟩
    have z8 := z7.trans y8
    walk_at "sx"
    refine ⟨s, dg, pl, ds, _, rfl, h8, ok, by decide, fun H9 g h9 y9 g0 g1 g60 => ?_⟩
    have z9 := z8.trans y9
    walk_at "sx"
    refine ⟨show 5 ≤ sizeLine by decide, fun nt fnt => ?_⟩
    have y10 : Same H9 (upd H9 nt (.tup [.int ev, .int la0, .int (1 + lg), .int f, .int g])) := same_upd (Same.refl _) fnt
    have ent : upd H9 nt (.tup [.int ev, .int la0, .int (1 + lg), .int f, .int g]) nt = some (.tup [.int ev, .int la0, .int (1 + lg), .int f, .int g]) := upd_same
    have npnt : nt ≠ pl := (h9.apart fnt).2.2.symm
    generalize upd H9 nt (.tup [.int ev, .int la0, .int (1 + lg), .int f, .int g]) = H10 at y10 ent ⊢
    have h10 := h9.same y10
    have z10 := z9.trans (Stay.same (p := pl) y10)
    walk_at "sx"
    refine ⟨s, dg, pl, ds, _, rfl, h10, ok, by decide, fun H11 u h11 y11 u0 u1 u60 => ?_⟩
    have z11 := z10.trans y11
    walk_at "sx"
    refine ⟨s, dg, pl, ds, _, rfl, h11, ok, by decide, fun H12 v h12 y12 v0 v1 v60 => ?_⟩
    have z12 := z11.trans y12
    walk_at "sx"
    refine ⟨show 3 ≤ sizeLine by decide, fun ut fut => ?_⟩
    have y13 : Same H12 (upd H12 ut (.tup [.int (1 + u), .int (1 + v), .int dl0])) := same_upd (Same.refl _) fut
    have eut : upd H12 ut (.tup [.int (1 + u), .int (1 + v), .int dl0]) ut = some (.tup [.int (1 + u), .int (1 + v), .int dl0]) := upd_same
    have nput : ut ≠ pl := (h12.apart fut).2.2.symm
    generalize upd H12 ut (.tup [.int (1 + u), .int (1 + v), .int dl0]) = H13 at y13 eut ⊢
    have h13 := h12.same y13
    have z13 := z12.trans (Stay.same (p := pl) y13)
    walk_at "sx"
    refine ⟨s, dg, pl, ds, ix, rfl, h13, ok, hix, fun H14 nm h14 y14 hnm hcap => ?_⟩
    have z14 := z13.trans y14
    walk_at "sx"
    refine ⟨s, dg, pl, ds, _, rfl, h14, ok, by omega, fun H15 x h15 y15 x0 x1 x60 => ?_⟩
    have z15 := z14.trans y15
    walk_at "sx"
    obtain ⟨xn, rfl⟩ : ∃ xn : Nat, x = (xn : Int) := ⟨x.toNat, by omega⟩
    refine ⟨show 4 ≤ sizeLine by decide, fun rt frt => ?_⟩
    have y16 : Same H15 (upd H15 rt (.tup [.str (S nm), .int (xn : Int), .ref nt, .ref ut])) := same_upd (Same.refl _) frt
    have ert : upd H15 rt (.tup [.str (S nm), .int (xn : Int), .ref nt, .ref ut]) rt = some (.tup [.str (S nm), .int (xn : Int), .ref nt, .ref ut]) := upd_same
    have nprt : rt ≠ pl := (h15.apart frt).2.2.symm
    generalize upd H15 rt (.tup [.str (S nm), .int (xn : Int), .ref nt, .ref ut]) = H16 at y16 ert ⊢
    have h16 := h15.same y16
    have z16 := z15.trans (Stay.same (p := pl) y16)
    walk_at "sx"
    have tpu : Tp H13 H16 := (Tp.stay y14 h13).trans ((Tp.stay y15 h14).trans (Tp.same y16))
    have tpn : Tp H10 H16 := (Tp.stay y11 h10).trans ((Tp.stay y12 h11).trans ((Tp.same y13).trans tpu))
    refine k H16 rt ⟨nm, xn, ev, la0, 1 + lg, f, g, 1 + u, 1 + v, dl0⟩ h16 z16 ⟨nt, ut, ert, tpn _ _ ent, tpu _ _ eut⟩ ⟨hnm, ?_, ?_, la, ?_, ?_, ?_, ?_, ?_, dl⟩ hcap
    · show xn < n
      omega
    · show 0 ≤ ev ∧ ev ≤ hor - 1
      omega
    · show 1 ≤ 1 + lg ∧ 1 + lg ≤ hor - la0
      omega
    · show 0 ≤ f ∧ f ≤ 1000000
      omega
    · show 0 ≤ g ∧ g ≤ 1000000
      omega
    · show 1 ≤ 1 + u ∧ 1 + u ≤ 1000
      omega
    · show 1 ≤ 1 + v ∧ 1 + v ≤ 3
      omega
theorem sc_law_pass : FnScope ["_law_stream_here", "_law_index", "_law_satellites", "_law_stations", "_law_horizon", "_law_first", "_law_end", "_law_numbers"] ["_law_stream_here", "_law_index", "_law_satellites", "_law_stations", "_law_horizon"] (defScope s_law_pass) := ⟨rfl, rfl, rfl, by decide +kernel, rfl, by decide +kernel, by decide +kernel⟩
theorem ok_law_pass (T : Tx K mg) (k_law_next : C8.Cal P w K mg base 1 "_law_next" spNext []) (k_law_word : C8.Cal P w K mg base 2 "_law_word" spWord []) : C8.Cal P w K mg base 3 "_law_pass" spLPas [] := by
  obtain ⟨fd, F⟩ := T.f_law_pass
  refine calOf F T.glo__law_pass (F.bindsN (ps := ["_law_stream_here", "_law_index", "_law_satellites", "_law_stations", "_law_horizon"]) fun _ _ _ _ _ _ us hl => match us, hl with | [_, _, _, _, _], _ => rfl) sc_law_pass ?_ ?_
  · rintro vs H Q E ⟨s, dg, pl, ds, ix, n, m, hor, rfl, _⟩
    rfl
  · rintro cdv A outer st H vs Q E hr ⟨s, dg, pl, ds, ix, n, m, hor, rfl, h0, ok, hix, hh, hn, hm, k⟩
    refine ⟨_, pss_cons (ps_set (i := 5) sc_law_pass.nd rfl (Or.inl rfl) (pe_op op_mod (pe_op op_add (pe_int) (C8.pe_c k_law_next hr (by decide) (by rfl) (pa_cons (pv 0) (pa_cons (pe_int) pa_nil)))) (pv 4)))
      (pss_cons (ps_set (i := 6) sc_law_pass.nd rfl (Or.inl rfl) (pe_callB (call_min2 rfl) (by rfl) T.free_min (by decide +kernel) (pa_cons (pv 4) (pa_cons (pe_op op_add (pe_op op_add (pv 5) (pe_int)) (C8.pe_c k_law_next hr (by decide) (by rfl) (pa_cons (pv 0) (pa_cons (pe_int) pa_nil)))) pa_nil))))
      (pss_cons (ps_set (i := 7) sc_law_pass.nd rfl (Or.inl rfl) (pe_tup (pa_cons (C8.pe_c k_law_next hr (by decide) (by rfl) (pa_cons (pv 0) (pa_cons (pe_int) pa_nil))) (pa_cons (C8.pe_c k_law_next hr (by decide) (by rfl) (pa_cons (pv 0) (pa_cons (pe_int) pa_nil))) (pa_cons (C8.pe_c k_law_next hr (by decide) (by rfl) (pa_cons (pv 0) (pa_cons (pe_int) pa_nil))) pa_nil)))))
      (pss_one (ps_ret (pe_tup (pa_cons (C8.pe_c k_law_word hr (by decide) (by rfl) (pa_cons (pv 0) (pa_cons (pv 1) pa_nil))) (pa_cons (C8.pe_c k_law_next hr (by decide) (by rfl) (pa_cons (pv 0) (pa_cons (pv 2) pa_nil))) (pa_cons (C8.pe_c k_law_next hr (by decide) (by rfl) (pa_cons (pv 0) (pa_cons (pv 3) pa_nil))) (pa_cons (pe_tup (pa_cons (pv 5) (pa_cons (pv 6) pa_nil))) (pa_cons (pv 7) pa_nil)))))))))), ?_⟩
    try dsimp only [cxK]
    have z0 : Stay pl H H := Stay.same (Same.refl _)
    walk_at "sx"
    refine ⟨s, dg, pl, ds, _, rfl, h0, ok, by decide, fun H1 a h1 y1 a0 a1 a60 => ?_⟩
    have z1 := z0.trans y1
    walk_at "sx"
    refine x_rI (by omega) ?_
    walk_at "sx"
    have ev0 : 0 ≤ (10 + a) % hor := Int.emod_nonneg _ (by omega)
    have ev1 : (10 + a) % hor < hor := Int.emod_lt_of_pos _ (by omega)
    generalize (10 + a) % hor = ev at ev0 ev1 ⊢
    refine ⟨s, dg, pl, ds, _, rfl, h1, ok, by decide, fun H2 b h2 y2 b0 b1 b60 => ?_⟩
    have z2 := z1.trans y2
    walk_at "sx"
    have dl : ev < (if ev + 1 + b < hor then ev + 1 + b else hor) ∧ (if ev + 1 + b < hor then ev + 1 + b else hor) ≤ hor := by
      split
      · omega
      · omega
    generalize (if ev + 1 + b < hor then ev + 1 + b else hor) = en at dl ⊢
    refine ⟨s, dg, pl, ds, _, rfl, h2, ok, by decide, fun H3 c h3 y3 c0 c1 c60 => ?_⟩
    have z3 := z2.trans y3
    walk_at "sx"
    refine ⟨s, dg, pl, ds, _, rfl, h3, ok, by decide, fun H4 d h4 y4 d0 d1 d60 => ?_⟩
    have z4 := z3.trans y4
    walk_at "sx"
    refine ⟨s, dg, pl, ds, _, rfl, h4, ok, by decide, fun H5 e h5 y5 e0 e1 e60 => ?_⟩
    have z5 := z4.trans y5
    walk_at "sx"
    refine ⟨show 3 ≤ sizeLine by decide, fun nt fnt => ?_⟩
    have y6 : Same H5 (upd H5 nt (.tup [.int c, .int d, .int e])) := same_upd (Same.refl _) fnt
    have ent : upd H5 nt (.tup [.int c, .int d, .int e]) nt = some (.tup [.int c, .int d, .int e]) := upd_same
    have npnt : nt ≠ pl := (h5.apart fnt).2.2.symm
    generalize upd H5 nt (.tup [.int c, .int d, .int e]) = H6 at y6 ent ⊢
    have h6 := h5.same y6
    have z6 := z5.trans (Stay.same (p := pl) y6)
    walk_at "sx"
    refine ⟨s, dg, pl, ds, ix, rfl, h6, ok, hix, fun H7 nm h7 y7 hnm hcap => ?_⟩
    have z7 := z6.trans y7
    walk_at "sx"
    refine ⟨s, dg, pl, ds, _, rfl, h7, ok, by omega, fun H8 x h8 y8 x0 x1 x60 => ?_⟩
    have z8 := z7.trans y8
    walk_at "sx"
    obtain ⟨xn, rfl⟩ : ∃ xn : Nat, x = (xn : Int) := ⟨x.toNat, by omega⟩
    refine ⟨s, dg, pl, ds, _, rfl, h8, ok, by omega, fun H9 u h9 y9 u0 u1 u60 => ?_⟩
    have z9 := z8.trans y9
    walk_at "sx"
    obtain ⟨un, rfl⟩ : ∃ un : Nat, u = (un : Int) := ⟨u.toNat, by omega⟩
    refine ⟨show 2 ≤ sizeLine by decide, fun sp fsp => ?_⟩
    have y10 : Same H9 (upd H9 sp (.tup [.int ev, .int en])) := same_upd (Same.refl _) fsp
    have esp : upd H9 sp (.tup [.int ev, .int en]) sp = some (.tup [.int ev, .int en]) := upd_same
    have npsp : sp ≠ pl := (h9.apart fsp).2.2.symm
    generalize upd H9 sp (.tup [.int ev, .int en]) = H10 at y10 esp ⊢
    have h10 := h9.same y10
    have z10 := z9.trans (Stay.same (p := pl) y10)
    walk_at "sx"
    refine ⟨show 5 ≤ sizeLine by decide, fun rt frt => ?_⟩
    have y11 : Same H10 (upd H10 rt (.tup [.str (S nm), .int (xn : Int), .int (un : Int), .ref sp, .ref nt])) := same_upd (Same.refl _) frt
    have ert : upd H10 rt (.tup [.str (S nm), .int (xn : Int), .int (un : Int), .ref sp, .ref nt]) rt = some (.tup [.str (S nm), .int (xn : Int), .int (un : Int), .ref sp, .ref nt]) := upd_same
    have nprt : rt ≠ pl := (h10.apart frt).2.2.symm
    generalize upd H10 rt (.tup [.str (S nm), .int (xn : Int), .int (un : Int), .ref sp, .ref nt]) = H11 at y11 ert ⊢
    have h11 := h10.same y11
    have z11 := z10.trans (Stay.same (p := pl) y11)
    walk_at "sx"
    have tpn : Tp H6 H11 := (Tp.stay y7 h6).trans ((Tp.stay y8 h7).trans ((Tp.stay y9 h8).trans ((Tp.same y10).trans (Tp.same y11))))
    refine k H11 rt ⟨nm, xn, un, ev, en, c, d, e⟩ h11 z11 ⟨sp, nt, ert, y11 _ _ esp, tpn _ _ ent⟩ ⟨hnm, ?_, ?_, ⟨ev0, dl.1, dl.2⟩, ?_, ?_, ?_⟩ hcap
    · show xn < n
      omega
    · show un < m
      omega
    · show 0 ≤ c ∧ c ≤ 1000000
      omega
    · show 0 ≤ d ∧ d ≤ 1000000
      omega
    · show 0 ≤ e ∧ e ≤ 1000
      omega
end
end Dp
namespace Dp
open PySem PySem.Spec PyProof.Rows L2 SX
/-! ### the law's worlds -/
def dWorld (a b c d e : V) : List (Key × V) := [(.inr (Str.ofString "horizon"), a), (.inr (Str.ofString "satellites"), b), (.inr (Str.ofString "stations"), c), (.inr (Str.ofString "recordings"), d), (.inr (Str.ofString "passes"), e)]
theorem dv_horizon (a b c d e : V) : valV (dWorld a b c d e) (.inr (Str.ofString "horizon")) = some a := by kernel_rfl
theorem dv_satellites (a b c d e : V) : valV (dWorld a b c d e) (.inr (Str.ofString "satellites")) = some b := by kernel_rfl
theorem dv_stations (a b c d e : V) : valV (dWorld a b c d e) (.inr (Str.ofString "stations")) = some c := by kernel_rfl
theorem dv_recordings (a b c d e : V) : valV (dWorld a b c d e) (.inr (Str.ofString "recordings")) = some d := by kernel_rfl
theorem dv_passes (a b c d e : V) : valV (dWorld a b c d e) (.inr (Str.ofString "passes")) = some e := by kernel_rfl
theorem dp_satellites (a b c d e v : V) : putK (dWorld a b c d e) (.inr (Str.ofString "satellites")) v = dWorld a v c d e := by kernel_rfl
theorem dp_stations (a b c d e v : V) : putK (dWorld a b c d e) (.inr (Str.ofString "stations")) v = dWorld a b v d e := by kernel_rfl
theorem dp_recordings (a b c d e v : V) : putK (dWorld a b c d e) (.inr (Str.ofString "recordings")) v = dWorld a b c v e := by kernel_rfl
theorem dp_passes (a b c d e v : V) : putK (dWorld a b c d e) (.inr (Str.ofString "passes")) v = dWorld a b c d v := by kernel_rfl
theorem d_merge (a b c d e : V) : mergeK [] (dWorld a b c d e) = dWorld a b c d e := by kernel_rfl
theorem x_join {J n : L2.St → Hp → Prop} {r : VK} {b c : L2.St → Hp → Prop} {t u : TS} {k : Bool} {σ : L2.St} {H : Hp} (rest : ∀ σ H, J σ H → n σ H)
    (both : ∀ n' : L2.St → Hp → Prop, (∀ σ H, J σ H → n' σ H) → if k = true then t ⟨n', r, b, c⟩ σ H else u ⟨n', r, b, c⟩ σ H) : if k = true then t ⟨n, r, b, c⟩ σ H else u ⟨n, r, b, c⟩ σ H := both n rest
theorem x_pair {tk tv : TE} {r : List (TE × TE)} {σ : L2.St} {H : Hp} {Q : List (V × V) → Hp → Prop} (h : tk σ H fun x H1 => tv σ H1 fun y H2 => tPairs r σ H2 fun ps H3 => Q ((x, y) :: ps) H3) : tPairs ((tk, tv) :: r) σ H Q := h
theorem x_pair0 {σ : L2.St} {H : Hp} {Q : List (V × V) → Hp → Prop} (h : Q [] H) : tPairs [] σ H Q := h
theorem x_dput {td ty tv : TE} {n b c : L2.St → Hp → Prop} {r : VK} {σ : L2.St} {H : Hp} (h : tv σ H fun v H1 => td σ H1 fun x H2 => ty σ H2 fun y H3 => ∃ a H4, x = .ref a ∧ DPut H3 a y v H4 ∧ n σ H4) : sDPut td ty tv ⟨n, r, b, c⟩ σ H := h
theorem x_dputE {H3 : Hp} {a : Addr} {kvs : List (Key × V)} {k : Str} {v : V} {Z : Hp → Prop} (hH : H3 a = some (.dK kvs)) (hz : kvs.length ≤ 100) (q : Z (upd H3 a (.dK (putK kvs (.inr k) v)))) : ∃ a' H4, V.ref a = .ref a' ∧ DPut H3 a' (.str k) v H4 ∧ Z H4 :=
  ⟨a, _, rfl, DPut.k (k := .inr k) hH (Nat.lt_of_le_of_lt hz (by decide)), q⟩
theorem x_dget {td ty : TE} {σ : L2.St} {H : Hp} {Q : VK} (h : td σ H fun x H1 => ty σ H1 fun y H2 => ∃ a v, x = .ref a ∧ DGet H2 a y (some v) ∧ Q v H2) : tDGet td ty σ H Q := h
theorem x_dgetE {H2 : Hp} {a : Addr} {kvs : List (Key × V)} {k : Str} {v : V} {Z : V → Prop} (hH : H2 a = some (.dK kvs)) (hv : valV kvs (.inr k) = some v) (q : Z v) : ∃ a' v', V.ref a = .ref a' ∧ DGet H2 a' (.str k) (some v') ∧ Z v' := by
  refine ⟨a, v, rfl, ?_, q⟩
  rw [← hv]
  exact DGet.k (k := .inr k) hH
theorem same_stay {pl : Addr} {H H1 H2 : Hp} (s : Same H H1) (h : H pl = none) (t : Stay pl H1 H2) : Same H H2 := fun b o e => t _ _ (s _ _ e) (ne_of_none e h)
theorem things_of {α : Type} {R : Addr → α → Prop} : ∀ {ys : List V} {C : Nat → α → Prop}, (∀ (i : Nat) (y : V), ys[i]? = some y → ∃ a x, y = V.ref a ∧ R a x ∧ C i x) → ∃ (as : List Addr) (xs : List α), ys = as.map V.ref ∧ Each R as xs ∧ ∀ (i : Nat) (x : α), xs[i]? = some x → C i x
  | [], C, _ => ⟨[], [], rfl, ⟨rfl, fun i a x e _ => by simp at e⟩, fun i x e => by simp at e⟩
  | y :: r, C, h => by
    obtain ⟨as, xs, e1, e2, e3⟩ := things_of (ys := r) (C := fun i => C (i + 1)) fun i z hz => h (i + 1) z hz
    obtain ⟨a, x, f1, f2, f3⟩ := h 0 y rfl
    refine ⟨a :: as, x :: xs, by rw [f1, e1]; rfl, ⟨by rw [List.length_cons, List.length_cons, e2.1], fun i b z h1 h2 => ?_⟩, fun i z hz => ?_⟩
    · cases i with
      | zero =>
        have h1 := Option.some.inj h1
        have h2 := Option.some.inj h2
        rw [← h1, ← h2]
        exact f2
      | succ i => exact e2.2 i b z h1 h2
    · cases i with
      | zero =>
        have hz := Option.some.inj hz
        rw [← hz]
        exact f3
      | succ i => exact e3 i z hz
theorem caps_nodup {α : Type} {xs : List α} {f : α → List Nat} (hl : xs.length ≤ 10) (h : ∀ (i : Nat) (x : α), xs[i]? = some x → CapIs i (f x)) : (xs.map f).Nodup := by
  refine nodup_of fun i j w h1 h2 => ?_
  rw [List.getElem?_map] at h1 h2
  cases e1 : xs[i]? with
  | none =>
    rw [e1] at h1
    cases h1
  | some x =>
    cases e2 : xs[j]? with
    | none =>
      rw [e2] at h2
      cases h2
    | some y =>
      rw [e1] at h1
      rw [e2] at h2
      have h1 := Option.some.inj h1
      have h2 := Option.some.inj h2
      have c1 := h i x e1
      have c2 := h j y e2
      rw [h1] at c1
      rw [h2] at c2
      have z := (List.getElem?_eq_some_iff.mp e2).1
      exact CapIs.inj (by omega) c1 c2
theorem kp_rm {pl : Addr} {H H' : Hp} (k : Kp (fun b => b = pl) H H') : Same (rm pl H) (rm pl H') := fun b o e => by
  obtain ⟨e1, e2⟩ := rm_of e
  rw [rm_at e2]
  exact k _ _ e1 e2
theorem Tp.rm {D : Addr} {H : Hp} {xs : List V} (h : H D = some (.lst xs)) : Tp H (rm D H) := fun a ys e => by
  rw [rm_at (ne_of e h (by intro q; cases q))]
  exact e
section
variable {K : PySem.W.Frag} {te : TE} {vs : List Nat} {σ : L2.St} {H1 : Hp} {s dg pl : Addr} {ds : List Int}
/-- a comprehension over a range that makes things with the stream -/
theorem th_gen {α : Type} {T : Hp → Addr → α → Prop} (htp : ∀ (H H' : Hp) (a : Addr) (x : α), T H a x → Tp H H' → T H' a x) {C : Nat → α → Prop} {m : Nat} {j : Nat} {Qd : Addr → Hp → Prop} (hm : m ≤ 100) (h1 : StAt H1 s dg pl ds)
    (turn : ∀ (i : Nat) (H2 : Hp) (k : VK), i < m → StAt H2 s dg pl ds → (∀ (H4 : Hp) (a : Addr) (x : α), StAt H4 s dg pl ds → Stay pl H2 H4 → T H4 a x → C i x → k (.ref a) H4) →
      wipe ((wipe σ vs).set j (some (.int (0 + (i : Int))))) vs = wipe σ vs ∧ te ((wipe σ vs).set j (some (.int (0 + (i : Int))))) H2 k)
    (done : ∀ (D : Addr) (H' : Hp) (as : List Addr) (xs : List α), H1 D = none → StAt H' s dg pl ds → Stay pl H1 H' → H' D = some (.lst (as.map V.ref)) → Each (T H') as xs → xs.length = m → (∀ (i : Nat) (x : α), xs[i]? = some x → C i x) → Qd D H') : ∀ D, H1 D = none →
    ∃ W : Nat → Nat → Hp → Prop, (∃ m, W 0 m (upd H1 D (.lst []))) ∧ ∀ i m0 H, W i m0 H →
      ((Itr 0 m).stop i H ∧ Qd D H) ∨ ((Itr 0 m).go i H ∧ ∃ Nx : Hp → Prop, (∀ H', Nx H' → ∃ m', m' < m0 ∧ W (i + 1) m' H') ∧ ∀ x H', (Itr 0 m).yld i H x H' → gName j x (wipe σ vs) H' fun σ2 H2 => wipe σ2 vs = wipe σ vs ∧ tYes σ2 H2 fun b H3 =>
        if b = true then te σ2 H3 fun y H4 => ∃ acc, H4 D = some (.lst acc) ∧ acc.length < sizeLine ∧ Nx (upd H4 D (.lst (acc ++ [y]))) else Nx H3) := by
  intro D hD
  obtain ⟨nD1, nD2, nD3⟩ := h1.apart hD
  refine lc_gen (walk_range (lo := 0) (n := m)) (by omega) hD (fun b => b = pl) (fun H => StAt H s dg pl ds) (fun i y H => ∃ a x, y = V.ref a ∧ T (rm pl H) a x ∧ C i x) (fun z => nD3 z.symm) ?_ h1 (fun _ _ _ => trivial) y_fn ?_ ?_ (gm_name j)
  · rintro i y H H' ⟨a, x, e1, e2, e3⟩ kp
    exact ⟨a, x, e1, htp _ _ _ _ e2 (Tp.same (kp_rm kp)), e3⟩
  · rintro i x H2 H3 k' hi kp hI ⟨acc, hacc⟩ ⟨rfl, rfl⟩ hk
    refine turn i H3 k' hi (hI.same rm_same) fun H4 a x h4 y4 t4 c4 => ?_
    have hD4 : H4 D = some (.lst acc) := y4 _ _ hacc nD3.symm
    have h4' := h4.rm nD1 nD2 nD3
    obtain ⟨n, hn⟩ := h4'.atP
    exact hk _ _ (kp_stay y4) h4' ⟨a, x, rfl, htp _ _ _ _ t4 ((Tp.rm hD4).trans (Tp.rm hn)), c4⟩
  · rintro ys H2 hlen hD' hI kp hR
    obtain ⟨as, xs, e1, e2, e3⟩ := things_of hR
    rw [e1] at hD'
    refine done D H2 as xs hD (hI.same rm_same) ((stay_kp kp).trans (Stay.same rm_same)) hD' (e2.mono fun a x t => htp _ _ _ _ t ((Tp.same rm_same).trans (Tp.same rm_same))) ?_ e3
    rw [← e2.1, ← hlen, e1, List.length_map]
end
/-- the world as the law keeps it: a dict of lists of tuples -/
structure WdF (H : Hp) (d l1 l2 l3 l4 : Addr) (as bs cs ps : List Addr) (W : Wd) : Prop where
  o : H d = some (.dK (dWorld (.int W.hor) (.ref l1) (.ref l2) (.ref l3) (.ref l4)))
  h1 : H l1 = some (.lst (as.map V.ref))
  h2 : H l2 = some (.lst (bs.map V.ref))
  h3 : H l3 = some (.lst (cs.map V.ref))
  h4 : H l4 = some (.lst (ps.map V.ref))
  e1 : Each (SatT H) as W.sats
  e2 : Each (StaT H) bs W.stas
  e3 : Each (RecT H) cs W.recs
  e4 : Each (PasT H) ps W.pass
theorem WdF.same {H H' : Hp} {d l1 l2 l3 l4 : Addr} {as bs cs ps : List Addr} {W : Wd} (D : WdF H d l1 l2 l3 l4 as bs cs ps W) (s : Same H H') : WdF H' d l1 l2 l3 l4 as bs cs ps W :=
  ⟨s _ _ D.o, s _ _ D.h1, s _ _ D.h2, s _ _ D.h3, s _ _ D.h4, D.e1.mono fun _ _ z => z.tp (Tp.same s), D.e2.mono fun _ _ z => z.tp (Tp.same s), D.e3.mono fun _ _ z => z.tp (Tp.same s), D.e4.mono fun _ _ z => z.tp (Tp.same s)⟩
def spLWorld (K : PySem.W.Frag) : Sp := fun vs H Q _ => ∃ (a : Addr) (ns : List Int), vs = [.ref a] ∧ SqL K H a (ns.map V.int) ∧
  ∀ (H' : Hp) (d l1 l2 l3 l4 : Addr) (as bs cs ps : List Addr) (W : Wd), Same H H' → WdF H' d l1 l2 l3 l4 as bs cs ps W → WOk W → (∀ x ∈ W.sats, x.level ≤ 100) → Q (.ref d) H'
section
variable {P : Program} {w : World} {K : PySem.W.Frag} {mg : Str → Option Value} {base : Heap}
theorem sc_law_world : FnScope ["_law_script", "_law_stream_here", "_law_horizon", "_law_satellites", "_law_stations", "_law_recordings", "_law_passes", "_law_world_here", "_law_k"] ["_law_script"] (defScope s_law_world) := ⟨rfl, rfl, rfl, by decide +kernel, rfl, by decide +kernel, by decide +kernel⟩
theorem ok_law_world (T : Tx K mg) (k_law_stream : C8.Cal P w K mg base 2 "_law_stream" (spStream K) []) (k_law_next : C8.Cal P w K mg base 1 "_law_next" spNext []) (k_law_word : C8.Cal P w K mg base 2 "_law_word" spWord []) (k_law_satellite : C8.Cal P w K mg base 3 "_law_satellite" spLSat []) (k_law_recording : C8.Cal P w K mg base 3 "_law_recording" spLRec []) (k_law_pass : C8.Cal P w K mg base 3 "_law_pass" spLPas []) : C8.Cal P w K mg base 4 "_law_world" (spLWorld K) [] := by
  obtain ⟨fd, F⟩ := T.f_law_world
  refine calOf F T.glo__law_world (F.bindsN (ps := ["_law_script"]) fun _ _ _ _ _ _ us hl => match us, hl with | [_], _ => rfl) sc_law_world ?_ ?_
  · rintro vs H Q E ⟨a, ns, rfl, _⟩
    rfl
  · rintro cdv A outer st H vs Q E hr ⟨a, ns, rfl, ha, k⟩
    have hu := hu_of hr
    refine ⟨_, pss_cons (ps_set (i := 1) sc_law_world.nd rfl (Or.inr rfl) (C8.pe_c k_law_stream hr (by decide) (by rfl) (pa_cons (pv 0) (pa_cons (pe_int) (pa_cons (pe_int) pa_nil)))))
      (pss_cons (ps_set (i := 2) sc_law_world.nd rfl (Or.inr rfl) (pe_op op_add (pe_int) (C8.pe_c k_law_next hr (by decide) (by rfl) (pa_cons (pv 1) (pa_cons (pe_int) pa_nil)))))
      (pss_cons (ps_if (pt_cmpR op_eq (C8.pe_c k_law_next hr (by decide) (by rfl) (pa_cons (pv 1) (pa_cons (pe_int) pa_nil))) (pe_int) (nomark _)) (pss_one (ps_set (i := 2) sc_law_world.nd rfl (Or.inr rfl) (pe_op op_add (pe_int) (C8.pe_c k_law_next hr (by decide) (by rfl) (pa_cons (pv 1) (pa_cons (pe_int) pa_nil)))))) (pss_nil))
      (pss_cons (ps_set (i := 3) sc_law_world.nd rfl (Or.inr rfl) (pe_op op_add (pe_op op_mod (pe_op op_fdiv (C8.pe_c k_law_next hr (by decide) (by rfl) (pa_cons (pv 1) (pa_cons (pe_int) pa_nil))) (pe_int)) (pe_int)) (pe_callTy call_int1 (by rfl) T.free_int (by decide +kernel) (pa_cons (pe_cmpR op_gt (C8.pe_c k_law_next hr (by decide) (by rfl) (pa_cons (pv 1) (pa_cons (pe_int) pa_nil))) (pe_int) (nomark _)) pa_nil))))
      (pss_cons (ps_set (i := 4) sc_law_world.nd rfl (Or.inr rfl) (pe_op op_add (pe_int) (pe_op op_fdiv (C8.pe_c k_law_next hr (by decide) (by rfl) (pa_cons (pv 1) (pa_cons (pe_int) pa_nil))) (pe_int))))
      (pss_cons (ps_set (i := 5) sc_law_world.nd rfl (Or.inl rfl) (C8.pe_c k_law_next hr (by decide) (by rfl) (pa_cons (pv 1) (pa_cons (pe_int) pa_nil))))
      (pss_cons (ps_set (i := 6) sc_law_world.nd rfl (Or.inl rfl) (C8.pe_c k_law_next hr (by decide) (by rfl) (pa_cons (pv 1) (pa_cons (pe_int) pa_nil))))
      (pss_cons (ps_set (i := 3) sc_law_world.nd rfl (Or.inr rfl) (pe_callB (call_min2 rfl) (by rfl) T.free_min (by decide +kernel) (pa_cons (pe_int) (pa_cons (pv 3) pa_nil))))
      (pss_cons (ps_if (pt_cmpR op_eq (pv 3) (pe_int) (nomark _)) (pss_cons (ps_set (i := 5) sc_law_world.nd rfl (Or.inl rfl) (pe_int))
        (pss_one (ps_set (i := 6) sc_law_world.nd rfl (Or.inl rfl) (pe_int)))) (pss_nil))
      (pss_cons (ps_set (i := 7) sc_law_world.nd rfl (Or.inl rfl) (pe_disp (pps_cons (pe_str) (pv 2) (pps_cons (pe_str) (pe_lst (pa_nil)) (pps_cons (pe_str) (pe_lst (pa_nil)) (pps_cons (pe_str) (pe_lst (pa_nil)) (pps_cons (pe_str) (pe_lst (pa_nil)) (pps_nil)))))) (by rfl) (by rfl) (fun z => by cases z) (by decide)))
      (pss_cons (ps_dput hu (pv 7) (pe_str) (pe_lc (own := [("_law_k", 8)]) (tt := tYes) rfl sc_law_world.nd (pi_range1 (by rfl) T.free_range (pa_cons (pv 3) pa_nil)) (blkOk_by (own := [("_law_k", 8)]) (N := ["_law_script", "_law_stream_here", "_law_horizon", "_law_satellites", "_law_stations", "_law_recordings", "_law_passes", "_law_world_here", "_law_k"]) (sc := defScope s_law_world) (by decide +kernel)) (fun _ _ _ _ _ => pg_name (i := 8) sc_law_world.nd rfl (Or.inl rfl)) (fun _ _ _ _ _ => pts_nil) (fun _ _ _ _ _ => C8.pe_c k_law_satellite hr (by decide) (by rfl) (pa_cons (pv 1) (pa_cons (pv 8) (pa_cons (pv 2) pa_nil))))) rfl)
      (pss_cons (ps_dput hu (pv 7) (pe_str) (pe_lc (own := [("_law_k", 8)]) (tt := tYes) rfl sc_law_world.nd (pi_range1 (by rfl) T.free_range (pa_cons (pv 4) pa_nil)) (blkOk_by (own := [("_law_k", 8)]) (N := ["_law_script", "_law_stream_here", "_law_horizon", "_law_satellites", "_law_stations", "_law_recordings", "_law_passes", "_law_world_here", "_law_k"]) (sc := defScope s_law_world) (by decide +kernel)) (fun _ _ _ _ _ => pg_name (i := 8) sc_law_world.nd rfl (Or.inl rfl)) (fun _ _ _ _ _ => pts_nil) (fun _ _ _ _ _ => pe_tup (pa_cons (C8.pe_c k_law_word hr (by decide) (by rfl) (pa_cons (pv 1) (pa_cons (pv 8) pa_nil))) (pa_cons (pe_op op_add (pe_int) (pe_op op_fdiv (C8.pe_c k_law_next hr (by decide) (by rfl) (pa_cons (pv 1) (pa_cons (pe_int) pa_nil))) (pe_int))) (pa_cons (C8.pe_c k_law_next hr (by decide) (by rfl) (pa_cons (pv 1) (pa_cons (pe_int) pa_nil))) pa_nil))))) rfl)
      (pss_cons (ps_dput hu (pv 7) (pe_str) (pe_lc (own := [("_law_k", 8)]) (tt := tYes) rfl sc_law_world.nd (pi_range1 (by rfl) T.free_range (pa_cons (pv 5) pa_nil)) (blkOk_by (own := [("_law_k", 8)]) (N := ["_law_script", "_law_stream_here", "_law_horizon", "_law_satellites", "_law_stations", "_law_recordings", "_law_passes", "_law_world_here", "_law_k"]) (sc := defScope s_law_world) (by decide +kernel)) (fun _ _ _ _ _ => pg_name (i := 8) sc_law_world.nd rfl (Or.inl rfl)) (fun _ _ _ _ _ => pts_nil) (fun _ _ _ _ _ => C8.pe_c k_law_recording hr (by decide) (by rfl) (pa_cons (pv 1) (pa_cons (pv 8) (pa_cons (pv 3) (pa_cons (pv 2) pa_nil)))))) rfl)
      (pss_cons (ps_dput hu (pv 7) (pe_str) (pe_lc (own := [("_law_k", 8)]) (tt := tYes) rfl sc_law_world.nd (pi_range1 (by rfl) T.free_range (pa_cons (pv 6) pa_nil)) (blkOk_by (own := [("_law_k", 8)]) (N := ["_law_script", "_law_stream_here", "_law_horizon", "_law_satellites", "_law_stations", "_law_recordings", "_law_passes", "_law_world_here", "_law_k"]) (sc := defScope s_law_world) (by decide +kernel)) (fun _ _ _ _ _ => pg_name (i := 8) sc_law_world.nd rfl (Or.inl rfl)) (fun _ _ _ _ _ => pts_nil) (fun _ _ _ _ _ => C8.pe_c k_law_pass hr (by decide) (by rfl) (pa_cons (pv 1) (pa_cons (pv 8) (pa_cons (pv 3) (pa_cons (pv 4) (pa_cons (pv 2) pa_nil))))))) rfl)
      (pss_one (ps_ret (pv 7)))))))))))))))), ?_⟩
    try dsimp only [cxK]
    walk_at "sx"
    refine ⟨a, ns, 0, 24, rfl, ha, by decide, by decide, by decide, fun H0 s dg pl ds s0 hpl h0 ok => ?_⟩
    walk_at "sx"
    refine ⟨s, dg, pl, ds, _, rfl, h0, ok, by decide, fun H1 v1 h1 y1 v10 v11 _ => ?_⟩
    have s1 := same_stay s0 hpl y1
    walk_at "sx"
    refine ⟨s, dg, pl, ds, _, rfl, h1, ok, by decide, fun H2 v2 h2 y2 v20 v21 _ => ?_⟩
    have s2 := same_stay s1 hpl y2
    walk_at "sx"
    refine x_join (J := fun σ H' => ∃ hor : Int, 1 ≤ hor ∧ hor ≤ 80 ∧ StAt H' s dg pl ds ∧ Same H H' ∧ σ = [some (.ref a), some (.ref s), some (.int hor), none, none, none, none, none, none]) ?_ ?_
    rotate_left
    · intro n' rest
      refine x_both (fun _ => ?_) fun _ => ?_
      · walk_at "sx"
        refine ⟨s, dg, pl, ds, _, rfl, h2, ok, by decide, fun H3 v3 h3 y3 v30 v31 _ => ?_⟩
        walk_at "sx"
        exact rest _ _ ⟨1 + v3, by omega, by omega, h3, same_stay s2 hpl y3, rfl⟩
      · walk_at "sx"
        exact rest _ _ ⟨40 + v1, by omega, by omega, h2, s2, rfl⟩
    clear s2 h2 y2 s1 h1 y1
    rintro σ H3 ⟨hor, hh1, hh2, h3, s3, rfl⟩
    walk_at "sx"
    refine ⟨s, dg, pl, ds, _, rfl, h3, ok, by decide, fun H4 v4 h4 y4 v40 v41 _ => ?_⟩
    have s4 := same_stay s3 hpl y4
    walk_at "sx"
    refine x_rI ⟨by decide, by decide⟩ ?_
    walk_at "sx"
    refine x_rI (by decide) ?_
    walk_at "sx"
    refine ⟨s, dg, pl, ds, _, rfl, h4, ok, by decide, fun H5 v5 h5 y5 v50 v51 _ => ?_⟩
    have s5 := same_stay s4 hpl y5
    walk_at "sx"
    refine x_int1b ?_
    walk_at "sx"
    refine ⟨s, dg, pl, ds, _, rfl, h5, ok, by decide, fun H6 v6 h6 y6 v60 v61 _ => ?_⟩
    have s6 := same_stay s5 hpl y6
    walk_at "sx"
    refine x_rI ⟨by decide, by decide⟩ ?_
    walk_at "sx"
    refine ⟨s, dg, pl, ds, _, rfl, h6, ok, by decide, fun H7 v7 h7 y7 v70 v71 _ => ?_⟩
    have s7 := same_stay s6 hpl y7
    walk_at "sx"
    refine ⟨s, dg, pl, ds, _, rfl, h7, ok, by decide, fun H8 v8 h8 y8 v80 v81 _ => ?_⟩
    have s8 := same_stay s7 hpl y8
    walk_at "sx"
    generalize hsa : (if v4 / 3 % 3 + (if decide (0 < v5) = true then 1 else 0) < 3 then v4 / 3 % 3 + (if decide (0 < v5) = true then 1 else 0) else 3) = sa
    have sa0 : 0 ≤ sa ∧ sa ≤ 3 := by
      rw [← hsa]
      split
      · split
        · omega
        · omega
      · omega
    clear hsa
    obtain ⟨sn0, rfl⟩ : ∃ n : Nat, sa = (n : Int) := ⟨sa.toNat, by omega⟩
    obtain ⟨tn0, et⟩ : ∃ n : Nat, 1 + v6 / 2 = (n : Int) := ⟨(1 + v6 / 2).toNat, by omega⟩
    obtain ⟨rn0, rfl⟩ : ∃ n : Nat, v7 = (n : Int) := ⟨v7.toNat, by omega⟩
    obtain ⟨pn0, rfl⟩ : ∃ n : Nat, v8 = (n : Int) := ⟨v8.toNat, by omega⟩
    rw [et]
    have tn1 : 1 ≤ tn0 ∧ tn0 ≤ 2 := by omega
    refine x_join (J := fun σ H' => ∃ sn tn rn pn : Nat, sn ≤ 3 ∧ 1 ≤ tn ∧ tn ≤ 2 ∧ rn ≤ 5 ∧ pn ≤ 5 ∧ (sn = 0 → rn = 0 ∧ pn = 0) ∧ H' = H8 ∧ σ = [some (.ref a), some (.ref s), some (.int hor), some (.int (sn : Int)), some (.int (tn : Int)), some (.int (rn : Int)), some (.int (pn : Int)), none, none]) ?_ ?_
    rotate_left
    · intro n' rest
      refine x_both (fun hb => ?_) fun hb => ?_
      · walk_at "sx"
        exact rest _ _ ⟨sn0, tn0, 0, 0, by omega, tn1.1, tn1.2, by omega, by omega, fun _ => ⟨rfl, rfl⟩, rfl, rfl⟩
      · walk_at "sx"
        have hne : ¬ sn0 = 0 := fun q => of_decide_eq_false hb (by rw [q]; rfl)
        exact rest _ _ ⟨sn0, tn0, rn0, pn0, by omega, tn1.1, tn1.2, by omega, by omega, fun q => absurd q hne, rfl, rfl⟩
    rintro σ H8 ⟨sn, tn, rn, pn, ksn, ktn1, ktn2, krn, kpn, kz, rfl, rfl⟩
    walk_at "sx"
    intro d hd
    have hd0 : H d = none := s8.free hd
    obtain ⟨ap1, ap2, ap3⟩ := h8.apart hd
    refine x_pair ?_
    walk_at "sx"
    refine x_pair ?_
    walk_at "sx"
    refine ⟨Nat.zero_le _, fun q1 hq1 => ?_⟩
    refine x_pair ?_
    walk_at "sx"
    refine ⟨Nat.zero_le _, fun q2 hq2 => ?_⟩
    refine x_pair ?_
    walk_at "sx"
    refine ⟨Nat.zero_le _, fun q3 hq3 => ?_⟩
    refine x_pair ?_
    walk_at "sx"
    refine ⟨Nat.zero_le _, fun q4 hq4 => ?_⟩
    refine x_pair0 ?_
    have g0 : upd H8 d (.dK []) d = some (.dK []) := upd_same
    have g1 := (upd_ne (o := .lst []) (ne_of_none g0 hq1)).trans g0
    have g2 := (upd_ne (o := .lst []) (ne_of_none g1 hq2)).trans g1
    have g3 := (upd_ne (o := .lst []) (ne_of_none g2 hq3)).trans g2
    have g4 := (upd_ne (o := .lst []) (ne_of_none g3 hq4)).trans g3
    have sx := same_upd (o := .lst []) (same_upd (o := .lst []) (same_upd (o := .lst []) (same_upd (o := .lst []) (same_upd (o := .dK []) (Same.refl H8) hd) hq1) hq2) hq3) hq4
    refine ⟨g4, dWorld (.int hor) (.ref q1) (.ref q2) (.ref q3) (.ref q4), rfl, show 5 ≤ 15 by decide, ?_⟩
    rw [d_merge]
    have h9 := (h8.same sx).mut (o := .dK (dWorld (.int hor) (.ref q1) (.ref q2) (.ref q3) (.ref q4))) ap1 ap2 ap3
    have s9 := same_mut (o := .dK (dWorld (.int hor) (.ref q1) (.ref q2) (.ref q3) (.ref q4))) (s8.trans sx) hd0
    have o9 : upd (upd (upd (upd (upd (upd H8 d (.dK [])) q1 (.lst [])) q2 (.lst [])) q3 (.lst [])) q4 (.lst [])) d (.dK (dWorld (.int hor) (.ref q1) (.ref q2) (.ref q3) (.ref q4))) d = some (.dK (dWorld (.int hor) (.ref q1) (.ref q2) (.ref q3) (.ref q4))) := upd_same
    generalize upd (upd (upd (upd (upd (upd H8 d (.dK [])) q1 (.lst [])) q2 (.lst [])) q3 (.lst [])) q4 (.lst [])) d (.dK (dWorld (.int hor) (.ref q1) (.ref q2) (.ref q3) (.ref q4))) = H9 at h9 s9 o9 ⊢
    walk_at "sx"
    refine x_dput ?_
    walk_at "sx"
    refine x_rng1E (by omega) (by omega) ?_
    rw [Int.toNat_natCast]
    refine th_gen (T := SatT) (C := fun i x => CapIs i x.name ∧ SatOk hor x ∧ x.level ≤ 100) (fun _ _ _ _ h k => h.tp k) (by omega) h9 (fun i H2 k' hi h2 hk => ?_) fun D1 Hx as ss hD hx yx hDx ex nss css => ?_
    · refine ⟨rfl, ?_⟩
      walk_at "sx"
      exact ⟨s, dg, pl, ds, i, hor, by simp, h2, ok, by omega, hh1, fun H4 b x h4 y4 t4 o4 w4 c4 => hk _ _ _ h4 y4 t4 ⟨c4, o4, w4⟩⟩
    walk_at "sx"
    have ox := yx _ _ o9 ap3.symm
    refine x_dputE ox (show 5 ≤ 100 by decide) ?_
    rw [dp_satellites]
    have ndD1 : D1 ≠ d := (ne_of_none o9 hD).symm
    have npD1 : D1 ≠ pl := (h9.apart hD).2.2.symm
    have h10 := hx.mut (o := .dK (dWorld (.int hor) (.ref D1) (.ref q2) (.ref q3) (.ref q4))) ap1 ap2 ap3
    have s10 := same_mut (o := .dK (dWorld (.int hor) (.ref D1) (.ref q2) (.ref q3) (.ref q4))) (same_stay s9 hpl yx) hd0
    have o10 : upd Hx d (.dK (dWorld (.int hor) (.ref D1) (.ref q2) (.ref q3) (.ref q4))) d = some (.dK (dWorld (.int hor) (.ref D1) (.ref q2) (.ref q3) (.ref q4))) := upd_same
    have tm := Tp.mutD (o := .dK (dWorld (.int hor) (.ref D1) (.ref q2) (.ref q3) (.ref q4))) ox
    have ty := (Tp.stay yx h9).trans tm
    have r110 := (upd_ne (o := .dK (dWorld (.int hor) (.ref D1) (.ref q2) (.ref q3) (.ref q4))) ndD1).trans hDx
    have t110 := ex.mono fun _ _ z => z.tp tm
    clear tm ty
    generalize upd Hx d (.dK (dWorld (.int hor) (.ref D1) (.ref q2) (.ref q3) (.ref q4))) = H10 at h10 s10 o10 r110 t110 ⊢
    walk_at "sx"
    refine x_dput ?_
    walk_at "sx"
    refine x_rng1E (by omega) (by omega) ?_
    rw [Int.toNat_natCast]
    refine th_gen (T := StaT) (C := fun i x => CapIs i x.name ∧ StaOk x) (fun _ _ _ _ h k => h.tp k) (by omega) h10 (fun i H2 k' hi h2 hk => ?_) fun D2 Hx bs ts hD hx yx hDx ex nts cts => ?_
    · refine ⟨rfl, ?_⟩
      walk_at "sx"
      refine ⟨s, dg, pl, ds, i, by simp, h2, ok, by omega, fun Ha nm ha ya hnm hcap => ?_⟩
      walk_at "sx"
      refine ⟨s, dg, pl, ds, _, rfl, ha, ok, by decide, fun Hb u hb yb u0 u1 _ => ?_⟩
      walk_at "sx"
      refine x_rI ⟨by decide, by decide⟩ ?_
      walk_at "sx"
      refine ⟨s, dg, pl, ds, _, rfl, hb, ok, by decide, fun Hc v hc yc v0 v1 _ => ?_⟩
      walk_at "sx"
      refine ⟨show 3 ≤ sizeLine by decide, fun t ht => ?_⟩
      have sy := same_upd (o := .tup [.str (S nm), .int (1 + u / 3), .int v]) (Same.refl Hc) ht
      exact hk _ t ⟨nm, 1 + u / 3, v⟩ (hc.same sy) (ya.trans (yb.trans (yc.trans (Stay.same sy)))) upd_same ⟨hcap, hnm, (by show 1 ≤ 1 + u / 3 ∧ 1 + u / 3 ≤ 3; omega), (by show 0 ≤ v ∧ v ≤ 60; omega)⟩
    walk_at "sx"
    have ox := yx _ _ o10 ap3.symm
    refine x_dputE ox (show 5 ≤ 100 by decide) ?_
    rw [dp_stations]
    have ndD2 : D2 ≠ d := (ne_of_none o10 hD).symm
    have npD2 : D2 ≠ pl := (h10.apart hD).2.2.symm
    have h11 := hx.mut (o := .dK (dWorld (.int hor) (.ref D1) (.ref D2) (.ref q3) (.ref q4))) ap1 ap2 ap3
    have s11 := same_mut (o := .dK (dWorld (.int hor) (.ref D1) (.ref D2) (.ref q3) (.ref q4))) (same_stay s10 hpl yx) hd0
    have o11 : upd Hx d (.dK (dWorld (.int hor) (.ref D1) (.ref D2) (.ref q3) (.ref q4))) d = some (.dK (dWorld (.int hor) (.ref D1) (.ref D2) (.ref q3) (.ref q4))) := upd_same
    have tm := Tp.mutD (o := .dK (dWorld (.int hor) (.ref D1) (.ref D2) (.ref q3) (.ref q4))) ox
    have ty := (Tp.stay yx h10).trans tm
    have r211 := (upd_ne (o := .dK (dWorld (.int hor) (.ref D1) (.ref D2) (.ref q3) (.ref q4))) ndD2).trans hDx
    have t211 := ex.mono fun _ _ z => z.tp tm
    have r111 := (upd_ne (o := .dK (dWorld (.int hor) (.ref D1) (.ref D2) (.ref q3) (.ref q4))) ndD1).trans (yx _ _ r110 npD1)
    have t111 := t110.mono fun _ _ z => z.tp ty
    clear tm ty
    generalize upd Hx d (.dK (dWorld (.int hor) (.ref D1) (.ref D2) (.ref q3) (.ref q4))) = H11 at h11 s11 o11 r211 t211 r111 t111 ⊢
    walk_at "sx"
    refine x_dput ?_
    walk_at "sx"
    refine x_rng1E (by omega) (by omega) ?_
    rw [Int.toNat_natCast]
    refine th_gen (T := RecT) (C := fun i x => CapIs i x.name ∧ RecOk hor sn x) (fun _ _ _ _ h k => h.tp k) (by omega) h11 (fun i H2 k' hi h2 hk => ?_) fun D3 Hx cs rs hD hx yx hDx ex nrs crs => ?_
    · refine ⟨rfl, ?_⟩
      walk_at "sx"
      exact ⟨s, dg, pl, ds, i, sn, hor, by simp, h2, ok, by omega, hh1, by omega, fun H4 b x h4 y4 t4 o4 c4 => hk _ _ _ h4 y4 t4 ⟨c4, o4⟩⟩
    walk_at "sx"
    have ox := yx _ _ o11 ap3.symm
    refine x_dputE ox (show 5 ≤ 100 by decide) ?_
    rw [dp_recordings]
    have ndD3 : D3 ≠ d := (ne_of_none o11 hD).symm
    have npD3 : D3 ≠ pl := (h11.apart hD).2.2.symm
    have h12 := hx.mut (o := .dK (dWorld (.int hor) (.ref D1) (.ref D2) (.ref D3) (.ref q4))) ap1 ap2 ap3
    have s12 := same_mut (o := .dK (dWorld (.int hor) (.ref D1) (.ref D2) (.ref D3) (.ref q4))) (same_stay s11 hpl yx) hd0
    have o12 : upd Hx d (.dK (dWorld (.int hor) (.ref D1) (.ref D2) (.ref D3) (.ref q4))) d = some (.dK (dWorld (.int hor) (.ref D1) (.ref D2) (.ref D3) (.ref q4))) := upd_same
    have tm := Tp.mutD (o := .dK (dWorld (.int hor) (.ref D1) (.ref D2) (.ref D3) (.ref q4))) ox
    have ty := (Tp.stay yx h11).trans tm
    have r312 := (upd_ne (o := .dK (dWorld (.int hor) (.ref D1) (.ref D2) (.ref D3) (.ref q4))) ndD3).trans hDx
    have t312 := ex.mono fun _ _ z => z.tp tm
    have r112 := (upd_ne (o := .dK (dWorld (.int hor) (.ref D1) (.ref D2) (.ref D3) (.ref q4))) ndD1).trans (yx _ _ r111 npD1)
    have t112 := t111.mono fun _ _ z => z.tp ty
    have r212 := (upd_ne (o := .dK (dWorld (.int hor) (.ref D1) (.ref D2) (.ref D3) (.ref q4))) ndD2).trans (yx _ _ r211 npD2)
    have t212 := t211.mono fun _ _ z => z.tp ty
    clear tm ty
    generalize upd Hx d (.dK (dWorld (.int hor) (.ref D1) (.ref D2) (.ref D3) (.ref q4))) = H12 at h12 s12 o12 r312 t312 r112 t112 r212 t212 ⊢
    walk_at "sx"
    refine x_dput ?_
    walk_at "sx"
    refine x_rng1E (by omega) (by omega) ?_
    rw [Int.toNat_natCast]
    refine th_gen (T := PasT) (C := fun i x => CapIs i x.name ∧ PasOk hor sn tn x) (fun _ _ _ _ h k => h.tp k) (by omega) h12 (fun i H2 k' hi h2 hk => ?_) fun D4 Hx ps us hD hx yx hDx ex nus cus => ?_
    · refine ⟨rfl, ?_⟩
      walk_at "sx"
      exact ⟨s, dg, pl, ds, i, sn, tn, hor, by simp, h2, ok, by omega, hh1, by omega, by omega, fun H4 b x h4 y4 t4 o4 c4 => hk _ _ _ h4 y4 t4 ⟨c4, o4⟩⟩
    walk_at "sx"
    have ox := yx _ _ o12 ap3.symm
    refine x_dputE ox (show 5 ≤ 100 by decide) ?_
    rw [dp_passes]
    have ndD4 : D4 ≠ d := (ne_of_none o12 hD).symm
    have npD4 : D4 ≠ pl := (h12.apart hD).2.2.symm
    have h13 := hx.mut (o := .dK (dWorld (.int hor) (.ref D1) (.ref D2) (.ref D3) (.ref D4))) ap1 ap2 ap3
    have s13 := same_mut (o := .dK (dWorld (.int hor) (.ref D1) (.ref D2) (.ref D3) (.ref D4))) (same_stay s12 hpl yx) hd0
    have o13 : upd Hx d (.dK (dWorld (.int hor) (.ref D1) (.ref D2) (.ref D3) (.ref D4))) d = some (.dK (dWorld (.int hor) (.ref D1) (.ref D2) (.ref D3) (.ref D4))) := upd_same
    have tm := Tp.mutD (o := .dK (dWorld (.int hor) (.ref D1) (.ref D2) (.ref D3) (.ref D4))) ox
    have ty := (Tp.stay yx h12).trans tm
    have r413 := (upd_ne (o := .dK (dWorld (.int hor) (.ref D1) (.ref D2) (.ref D3) (.ref D4))) ndD4).trans hDx
    have t413 := ex.mono fun _ _ z => z.tp tm
    have r113 := (upd_ne (o := .dK (dWorld (.int hor) (.ref D1) (.ref D2) (.ref D3) (.ref D4))) ndD1).trans (yx _ _ r112 npD1)
    have t113 := t112.mono fun _ _ z => z.tp ty
    have r213 := (upd_ne (o := .dK (dWorld (.int hor) (.ref D1) (.ref D2) (.ref D3) (.ref D4))) ndD2).trans (yx _ _ r212 npD2)
    have t213 := t212.mono fun _ _ z => z.tp ty
    have r313 := (upd_ne (o := .dK (dWorld (.int hor) (.ref D1) (.ref D2) (.ref D3) (.ref D4))) ndD3).trans (yx _ _ r312 npD3)
    have t313 := t312.mono fun _ _ z => z.tp ty
    clear tm ty
    generalize upd Hx d (.dK (dWorld (.int hor) (.ref D1) (.ref D2) (.ref D3) (.ref D4))) = H13 at h13 s13 o13 r413 t413 r113 t113 r213 t213 r313 t313 ⊢
    walk_at "sx"
    refine k H13 d D1 D2 D3 D4 as bs cs ps ⟨hor, ss, ts, rs, us⟩ s13 ⟨o13, r113, r213, r313, r413, t113, t213, t313, t413⟩ ⟨⟨hh1, (by show hor ≤ 500; omega)⟩, ?_, ?_, ?_, ?_, ?_, ?_, ?_, ?_, ?_, ?_, ?_, ?_⟩ fun x hx => ?_
    · show ss.length ≤ 3
      omega
    · show ts.length ≤ 3
      omega
    · show rs.length ≤ 10
      omega
    · show us.length ≤ 10
      omega
    · intro x hx
      obtain ⟨i, hi⟩ := List.mem_iff_getElem?.mp hx
      exact (css i x hi).2.1
    · intro x hx
      obtain ⟨i, hi⟩ := List.mem_iff_getElem?.mp hx
      exact (cts i x hi).2
    · intro x hx
      obtain ⟨i, hi⟩ := List.mem_iff_getElem?.mp hx
      show RecOk hor ss.length x
      rw [nss]
      exact (crs i x hi).2
    · intro x hx
      obtain ⟨i, hi⟩ := List.mem_iff_getElem?.mp hx
      show PasOk hor ss.length ts.length x
      rw [nss, nts]
      exact (cus i x hi).2
    · exact caps_nodup (xs := ss) (by omega) fun i x hi => (css i x hi).1
    · exact caps_nodup (xs := ts) (by omega) fun i x hi => (cts i x hi).1
    · exact caps_nodup (xs := rs) (by omega) fun i x hi => (crs i x hi).1
    · exact caps_nodup (xs := us) (by omega) fun i x hi => (cus i x hi).1
    · obtain ⟨i, hi⟩ := List.mem_iff_getElem?.mp hx
      exact (css i x hi).2.2
end
end Dp
namespace Dp
open PySem PySem.Spec PyProof.Rows L2 SX
/-! ### a world with greater numbers -/
/-- y is x but for its great numbers -/
structure GrS (x y : Sat) : Prop where
  name : y.name = x.name
  store : 0 ≤ y.store ∧ y.store ≤ 1000000
  battery : 100000 ≤ y.battery ∧ y.battery ≤ 1000000
  level : y.level = x.level
  reserve : y.reserve = x.reserve
  charge : y.charge = 1000
  settle : y.settle = 60
  light : y.light = x.light
structure GrP (x y : Pas) : Prop where
  name : y.name = x.name
  sat : y.sat = x.sat
  sta : y.sta = x.sta
  first : y.first = x.first
  last : y.last = x.last
  room : 0 ≤ y.room ∧ y.room ≤ 1000000
  energy : 0 ≤ y.energy ∧ y.energy ≤ 1000000
  fee : y.fee = 1000
theorem GrS.ok {hor : Int} {x y : Sat} (g : GrS x y) (h : SatOk hor x) (hl : x.level ≤ 100) : SatOk hor y := by
  obtain ⟨g1, g2, g3, g4, g5, g6, g7, g8⟩ := g
  obtain ⟨h1, h2, h3, h4, h5, h6, h7, h8, h9⟩ := h
  exact ⟨by rw [g1]; exact h1, g2, by omega, by omega, by omega, by omega, by omega, by rw [g8]; exact h8, by rw [g8]; exact h9⟩
theorem GrP.ok {hor : Int} {n m : Nat} {x y : Pas} (g : GrP x y) (h : PasOk hor n m x) : PasOk hor n m y := by
  obtain ⟨g1, g2, g3, g4, g5, g6, g7, g8⟩ := g
  obtain ⟨h1, h2, h3, h4, h5, h6, h7⟩ := h
  exact ⟨by rw [g1]; exact h1, by rw [g2]; exact h2, by rw [g3]; exact h3, by omega, g6, g7, by omega⟩
theorem map_same {α : Type} {f : α → List Nat} {l l' : List α} (hl : l'.length = l.length) (h : ∀ (i : Nat) (x y : α), l[i]? = some x → l'[i]? = some y → f y = f x) : l'.map f = l.map f := by
  apply List.ext_getElem?
  intro i
  rw [List.getElem?_map, List.getElem?_map]
  cases e : l'[i]? with
  | none =>
    have z := List.getElem?_eq_none_iff.mp e
    rw [List.getElem?_eq_none (by omega)]
  | some y =>
    have z := (List.getElem?_eq_some_iff.mp e).1
    obtain ⟨x, hx⟩ : ∃ x, l[i]? = some x := ⟨l[i]'(by omega), List.getElem?_eq_getElem _⟩
    rw [hx]
    show some (f y) = some (f x)
    rw [h i x y hx e]
def spGreater (K : PySem.W.Frag) : Sp := fun vs H Q _ => ∃ (a d l1 l2 l3 l4 : Addr) (ns : List Int) (as bs cs ps : List Addr) (W : Wd), vs = [.ref a, .int 24, .ref d] ∧ SqL K H a (ns.map V.int) ∧ WdF H d l1 l2 l3 l4 as bs cs ps W ∧ WOk W ∧ (∀ x ∈ W.sats, x.level ≤ 100) ∧
  ∀ (H' : Hp) (d l1 l2 l3 l4 : Addr) (as bs cs ps : List Addr) (W' : Wd), Same H H' → WdF H' d l1 l2 l3 l4 as bs cs ps W' → WOk W' → Q (.ref d) H'
section
variable {P : Program} {w : World} {K : PySem.W.Frag} {mg : Str → Option Value} {base : Heap}
theorem sc_law_greater : FnScope ["_law_script", "_law_first", "_law_world_here", "_law_stream_here", "_law_great", "_law_satellites", "_law_name", "_law_numbers", "_law_light", "_law_store", "_law_result", "_law_passes", "_law_satellite_here", "_law_station", "_law_span"] ["_law_script", "_law_first", "_law_world_here"] (defScope s_law_greater) := ⟨rfl, rfl, rfl, by decide +kernel, rfl, by decide +kernel, by decide +kernel⟩
theorem ok_law_greater (T : Tx K mg) (k_law_stream : C8.Cal P w K mg base 2 "_law_stream" (spStream K) []) (k_law_next : C8.Cal P w K mg base 1 "_law_next" spNext []) : C8.Cal P w K mg base 3 "_law_greater" (spGreater K) [] := by
  obtain ⟨fd, F⟩ := T.f_law_greater
  refine calOf F T.glo__law_greater (F.bindsN (ps := ["_law_script", "_law_first", "_law_world_here"]) fun _ _ _ _ _ _ us hl => match us, hl with | [_, _, _], _ => rfl) sc_law_greater ?_ ?_
  · rintro vs H Q E ⟨a, d, l1, l2, l3, l4, ns, as, bs, cs, ps, W, rfl, _⟩
    rfl
  · rintro cdv A outer st H vs Q E hr ⟨a, d, l1, l2, l3, l4, ns, as, bs, cs, ps, W, rfl, ha, D, wok, hlev, k⟩
    have hu := hu_of hr
    refine ⟨_, pss_cons (ps_set (i := 3) sc_law_greater.nd rfl (Or.inl rfl) (C8.pe_c k_law_stream hr (by decide) (by rfl) (pa_cons (pv 0) (pa_cons (pv 1) (pa_cons (pe_int) pa_nil)))))
      (pss_cons (ps_set (i := 4) sc_law_greater.nd rfl (Or.inl rfl) (pe_lst (pa_cons (pe_int) (pa_cons (pe_int) (pa_cons (pe_int) (pa_cons (pe_int) (pa_cons (pe_int) pa_nil)))))))
      (pss_cons (ps_set (i := 5) sc_law_greater.nd rfl (Or.inl rfl) (pe_lst (pa_nil)))
      (pss_cons (ps_for PassesOwn.never rfl (pi_list (pe_dget hu (pv 2) (pe_str) (fun _ _ => rfl))) (pg_tup (n := 3) rfl (pgs_cons (pg_name (i := 6) sc_law_greater.nd rfl (Or.inl rfl)) (pgs_cons (pg_name (i := 7) sc_law_greater.nd rfl (Or.inl rfl)) (pgs_cons (pg_name (i := 8) sc_law_greater.nd rfl (Or.inl rfl)) pgs_nil))))
        (pss_cons (ps_set (i := 9) sc_law_greater.nd rfl (Or.inl rfl) (pe_ix ix_list (pv 4) (C8.pe_c k_law_next hr (by decide) (by rfl) (pa_cons (pv 3) (pa_cons (pe_int) pa_nil))) (fun _ _ => rfl)))
        (pss_one (ps_expr (pe_bm PySem.F.plainAttrs_list PySem.F.slot_list_append PySem.F.type_list_append mt_append (pv 5) (pa_cons (pe_tup (pa_cons (pv 6) (pa_cons (pe_op op_catT (pe_op op_catT (pe_tup (pa_cons (pv 9) (pa_cons (pe_ix ix_list (pv 4) (C8.pe_c k_law_next hr (by decide) (by rfl) (pa_cons (pv 3) (pa_cons (pe_int) pa_nil))) (fun _ _ => rfl)) pa_nil))) (pe_slice sl_tup (pv 7) (po_some (pe_int)) (po_some (pe_int)))) (pe_tup (pa_cons (pe_int) (pa_cons (pe_int) pa_nil)))) (pa_cons (pv 8) pa_nil)))) pa_nil))))))
      (pss_cons (ps_set (i := 10) sc_law_greater.nd rfl (Or.inl rfl) (pe_callTy call_dict_same (by rfl) T.free_dict (by decide +kernel) (pa_cons (pv 2) pa_nil)))
      (pss_cons (ps_dput hu (pv 10) (pe_str) (pv 5) rfl)
      (pss_cons (ps_set (i := 11) sc_law_greater.nd rfl (Or.inl rfl) (pe_lst (pa_nil)))
      (pss_cons (ps_for PassesOwn.never rfl (pi_list (pe_dget hu (pv 2) (pe_str) (fun _ _ => rfl))) (pg_tup (n := 5) rfl (pgs_cons (pg_name (i := 6) sc_law_greater.nd rfl (Or.inl rfl)) (pgs_cons (pg_name (i := 12) sc_law_greater.nd rfl (Or.inl rfl)) (pgs_cons (pg_name (i := 13) sc_law_greater.nd rfl (Or.inl rfl)) (pgs_cons (pg_name (i := 14) sc_law_greater.nd rfl (Or.inl rfl)) (pgs_cons (pg_name (i := 7) sc_law_greater.nd rfl (Or.inl rfl)) pgs_nil))))))
        (pss_one (ps_expr (pe_bm PySem.F.plainAttrs_list PySem.F.slot_list_append PySem.F.type_list_append mt_append (pv 11) (pa_cons (pe_tup (pa_cons (pv 6) (pa_cons (pv 12) (pa_cons (pv 13) (pa_cons (pv 14) (pa_cons (pe_tup (pa_cons (pe_ix ix_list (pv 4) (C8.pe_c k_law_next hr (by decide) (by rfl) (pa_cons (pv 3) (pa_cons (pe_int) pa_nil))) (fun _ _ => rfl)) (pa_cons (pe_ix ix_list (pv 4) (C8.pe_c k_law_next hr (by decide) (by rfl) (pa_cons (pv 3) (pa_cons (pe_int) pa_nil))) (fun _ _ => rfl)) (pa_cons (pe_int) pa_nil)))) pa_nil)))))) pa_nil)))))
      (pss_cons (ps_dput hu (pv 10) (pe_str) (pv 11) rfl)
      (pss_one (ps_ret (pv 10))))))))))), ?_⟩
    try dsimp only [cxK]
    walk_at "sx"
    refine ⟨a, ns, 24, 4, rfl, ha, by decide, by decide, by decide, fun H0 s dg pl ds s0 hpl h0 ok => ?_⟩
    walk_at "sx"
    refine ⟨show 5 ≤ sizeLine by decide, fun t ht => ?_⟩
    walk_at "sx"
    refine ⟨Nat.zero_le _, fun q hq => ?_⟩
    walk_at "sx"
    refine x_dget ?_
    have et0 : upd H0 t (.lst [.int 1000000, .int 999999, .int 123456, .int 100000, .int 7]) t = _ := upd_same
    have et := (upd_ne (o := .lst []) (ne_of_none et0 hq)).trans et0
    have su : Same H0 _ := same_upd (o := .lst []) (same_upd (o := .lst [.int 1000000, .int 999999, .int 123456, .int 100000, .int 7]) (Same.refl H0) ht) hq
    have h1 := h0.same su
    have s1 := s0.trans su
    have hq0 : H q = none := s0.free ((same_upd (o := .lst [.int 1000000, .int 999999, .int 123456, .int 100000, .int 7]) (Same.refl H0) ht).free hq)
    have ht0 : H t = none := s0.free ht
    have npt : t ≠ pl := (h0.apart ht).2.2.symm
    have nqt : t ≠ q := ne_of_none et0 hq
    obtain ⟨aq1, aq2, aq3⟩ := (h0.same (same_upd (o := .lst [.int 1000000, .int 999999, .int 123456, .int 100000, .int 7]) (Same.refl H0) ht)).apart hq
    have eq1 : upd (upd H0 t (.lst [.int 1000000, .int 999999, .int 123456, .int 100000, .int 7])) q (.lst []) q = some (.lst []) := upd_same
    generalize upd (upd H0 t (.lst [.int 1000000, .int 999999, .int 123456, .int 100000, .int 7])) q (.lst []) = H1 at et h1 s1 eq1 ⊢
    clear et0
    have D1 := D.same s1
    walk_at "sx"
    refine x_dgetE D1.o (dv_satellites _ _ _ _ _) ?_
    have hl1 := D1.h1
    walk_at "sx"
    have gr : ∀ v : Int, 0 ≤ v → v < 5 → ∃ d : Int, 0 ≤ d ∧ d ≤ 1000000 ∧ (v < 4 → 100000 ≤ d) ∧ atI [V.int 1000000, V.int 999999, V.int 123456, V.int 100000, V.int 7] v = some (V.int d) := fun v v0 v1 => by
      have hc : v = 0 ∨ v = 1 ∨ v = 2 ∨ v = 3 ∨ v = 4 := by omega
      rcases hc with rfl | rfl | rfl | rfl | rfl
      · exact ⟨1000000, by decide, by decide, fun _ => by decide, atI_nat (j := 0) rfl⟩
      · exact ⟨999999, by decide, by decide, fun _ => by decide, atI_nat (j := 1) rfl⟩
      · exact ⟨123456, by decide, by decide, fun _ => by decide, atI_nat (j := 2) rfl⟩
      · exact ⟨100000, by decide, by decide, fun _ => by decide, atI_nat (j := 3) rfl⟩
      · exact ⟨7, by decide, by decide, fun h => absurd h (by decide), atI_nat (j := 4) rfl⟩
    refine for_gen (walk_list (K := K) (a := l1) (xs := as.map V.ref)) (fun i σ H' => ∃ (as' : List Addr) (xs' : List Sat) (v6 v7 v8 v9 : Option V), StAt H' s dg pl ds ∧ Same H H' ∧ H' t = some (.lst [.int 1000000, .int 999999, .int 123456, .int 100000, .int 7]) ∧ H' q = some (.lst (as'.map V.ref)) ∧ Each (SatT H') as' xs' ∧ xs'.length = i ∧
      (∀ (j : Nat) (y : Sat), xs'[j]? = some y → ∃ x, W.sats[j]? = some x ∧ GrS x y) ∧ σ = [some (.ref a), some (.int 24), some (.ref d), some (.ref s), some (.ref t), some (.ref q), v6, v7, v8, v9, none, none, none, none, none]) ?_ ?_ ?_ ?_
    · exact ⟨[], [], none, none, none, none, h1, s1, et, eq1, ⟨rfl, fun i a x e _ => by simp at e⟩, rfl, (fun j y e => by simp at e), rfl⟩
    · rintro i σ H' _ ⟨as', xs', v6, v7, v8, v9, _, sH, _⟩
      exact SqL.of (sH _ _ D.h1)
    · rintro i x σ Ha Hb hi ⟨as', xs', v6, v7, v8, v9, ha', sa, hta, hqa, hea, hlen, hgr, rfl⟩ ⟨rfl, hx⟩
      rw [List.getElem?_map] at hx
      rw [List.length_map] at hi
      obtain ⟨b, hb⟩ : ∃ b, as[i]? = some b := ⟨as[i], List.getElem?_eq_getElem hi⟩
      rw [hb] at hx
      have hx := Option.some.inj hx
      subst hx
      obtain ⟨x, hxs⟩ : ∃ x, W.sats[i]? = some x := ⟨W.sats[i]'(by rw [← D.e1.1]; exact hi), List.getElem?_eq_getElem _⟩
      obtain ⟨nt, lt, lps, t1, t2, t3, t4⟩ := (D.e1.2 i b x hb hxs).tp (Tp.same sa)
      walk_at "sx"
      refine ⟨s, dg, pl, ds, _, rfl, ha', ok, by decide, fun Hc v hc yc v0 v1 _ => ?_⟩
      obtain ⟨g1, g10, g11, _, gat⟩ := gr v v0 v1
      have htc := yc _ _ hta npt
      have hqc := yc _ _ hqa aq3.symm
      walk_at "sx"
      refine ⟨s, dg, pl, ds, _, rfl, hc, ok, by decide, fun Hd u hd yd u0 u1 _ => ?_⟩
      obtain ⟨g2, g20, g21, g22, gat2⟩ := gr u u0 (by omega)
      have g22 := g22 u1
      have htd := yd _ _ htc npt
      have zd := same_stay (same_stay sa hpl yc) hpl yd
      have hqd := yd _ _ hqc aq3.symm
      have tpd := (Tp.stay yc ha').trans (Tp.stay yd hc)
      walk_at "sx"
      refine ⟨show 2 ≤ sizeLine by decide, fun c1 hc1 => ?_⟩
      have e1 : upd Hd c1 (.tup [.int g1, .int g2]) c1 = some (.tup [.int g1, .int g2]) := upd_same
      have hnt := (upd_ne (o := .tup [.int g1, .int g2]) (ne_of_none (tpd _ _ t2) hc1)).trans (tpd _ _ t2)
      walk_at "sx"
      refine ⟨nt, _, rfl, SqT.of hnt, (show ¬ (HT.sIx 6 0 (some 2) = 0 ∧ HT.sIx 6 6 (some 4) = 6) from by decide), fun c2 hc2 => ?_⟩
      have ecut : cutV [V.int x.store, V.int x.battery, V.int x.level, V.int x.reserve, V.int x.charge, V.int x.settle] (some 2) (some 4) = [V.int x.level, V.int x.reserve] := rfl
      rw [ecut]
      have e1 := (upd_ne (o := .tup [V.int x.level, V.int x.reserve]) (ne_of_none e1 hc2)).trans e1
      refine ⟨c1, c2, _, _, rfl, rfl, SqT.of e1, SqT.of upd_same, (by intro q; cases q), show 4 ≤ sizeLine by decide, (fun q => by cases q), fun _ c3 hc3 => ?_⟩
      walk_at "sx"
      refine ⟨show 2 ≤ sizeLine by decide, fun c4 hc4 => ?_⟩
      refine ⟨c3, c4, _, _, rfl, rfl, SqT.of ((upd_ne (ne_of_none upd_same hc4)).trans upd_same), SqT.of upd_same, (by intro q; cases q), show 6 ≤ sizeLine by decide, (fun q => by cases q), fun _ c5 hc5 => ?_⟩
      walk_at "sx"
      refine ⟨show 3 ≤ sizeLine by decide, fun c6 hc6 => ?_⟩
      have sm := same_upd (o := .tup [V.str (S x.name), V.ref c5, V.ref lt]) (same_upd (o := .tup ([V.int g1, V.int g2] ++ [V.int x.level, V.int x.reserve] ++ [V.int 1000, V.int 60])) (same_upd (o := .tup [V.int 1000, V.int 60]) (same_upd (o := .tup ([V.int g1, V.int g2] ++ [V.int x.level, V.int x.reserve])) (same_upd (o := .tup [V.int x.level, V.int x.reserve]) (same_upd (o := .tup [V.int g1, V.int g2]) (Same.refl Hd) hc1) hc2) hc3) hc4) hc5) hc6
      have e6 : (upd (upd (upd (upd (upd (upd (Hd) c1 (.tup [V.int g1, V.int g2])) c2 (.tup [V.int x.level, V.int x.reserve])) c3 (.tup ([V.int g1, V.int g2] ++ [V.int x.level, V.int x.reserve]))) c4 (.tup [V.int 1000, V.int 60])) c5 (.tup ([V.int g1, V.int g2] ++ [V.int x.level, V.int x.reserve] ++ [V.int 1000, V.int 60]))) c6 (.tup [V.str (S x.name), V.ref c5, V.ref lt])) c6 = some (.tup [V.str (S x.name), V.ref c5, V.ref lt]) := upd_same
      have e5 : (upd (upd (upd (upd (upd (upd (Hd) c1 (.tup [V.int g1, V.int g2])) c2 (.tup [V.int x.level, V.int x.reserve])) c3 (.tup ([V.int g1, V.int g2] ++ [V.int x.level, V.int x.reserve]))) c4 (.tup [V.int 1000, V.int 60])) c5 (.tup ([V.int g1, V.int g2] ++ [V.int x.level, V.int x.reserve] ++ [V.int 1000, V.int 60]))) c6 (.tup [V.str (S x.name), V.ref c5, V.ref lt])) c5 = some (.tup [V.int g1, V.int g2, V.int x.level, V.int x.reserve, V.int 1000, V.int 60]) := (upd_ne (ne_of_none upd_same hc6)).trans upd_same
      generalize upd (upd (upd (upd (upd (upd (Hd) c1 (.tup [V.int g1, V.int g2])) c2 (.tup [V.int x.level, V.int x.reserve])) c3 (.tup ([V.int g1, V.int g2] ++ [V.int x.level, V.int x.reserve]))) c4 (.tup [V.int 1000, V.int 60])) c5 (.tup ([V.int g1, V.int g2] ++ [V.int x.level, V.int x.reserve] ++ [V.int 1000, V.int 60]))) c6 (.tup [V.str (S x.name), V.ref c5, V.ref lt]) = He at sm e6 e5 ⊢
      walk_at "sx"
      have hqe := sm _ _ hqd
      have hl0 : as'.length ≤ 3 := by
        have z1 := hea.1
        have z2 := wok.nsat
        have z3 := (List.getElem?_eq_some_iff.mp hxs).1
        omega
      refine x_app hqe (by rw [List.length_map]; omega) ?_
      have tm := Tp.mut (o := .lst (as'.map V.ref ++ [V.ref c6])) hqe
      have tt := (tpd.trans (Tp.same sm)).trans tm
      refine ⟨as' ++ [c6], xs' ++ [⟨x.name, g1, g2, x.level, x.reserve, 1000, 60, x.light⟩], _, _, _, _, (hd.same sm).mut aq1 aq2 aq3, same_mut (zd.trans sm) hq0, (upd_ne nqt).trans (sm _ _ htd), by rw [List.map_append]; exact upd_same, ?_, by rw [List.length_append, List.length_singleton]; omega, fun j y hj => ?_, rfl⟩
      · exact (hea.mono fun _ _ z => z.tp tt).snoc ⟨c5, lt, lps, tm _ _ e6, tm _ _ e5, tt _ _ t3, t4.tp tt⟩
      · by_cases hlt : j < xs'.length
        · rw [List.getElem?_append_left hlt] at hj
          exact hgr j y hj
        · have ej : j = xs'.length := by
            have z := (List.getElem?_eq_some_iff.mp hj).1
            rw [List.length_append, List.length_singleton] at z
            omega
          subst ej
          rw [List.getElem?_append_right (Nat.le_refl _), Nat.sub_self] at hj
          have hj := Option.some.inj hj
          subst hj
          exact ⟨x, by rw [hlen]; exact hxs, rfl, ⟨g10, g11⟩, ⟨g22, g21⟩, rfl, rfl, rfl, rfl, rfl⟩
    rintro σ H2 ⟨as', ss, v6, v7, v8, v9, h2, s2, et2, eq2, eS, hlS, hgr, rfl⟩
    rw [List.length_map] at hlS
    have D2 := D.same s2
    walk_at "sx"
    refine ⟨d, _, rfl, D2.o, fun r hr2 => ?_⟩
    walk_at "sx"
    refine x_dput ?_
    have hr0 : H r = none := s2.free hr2
    obtain ⟨ar1, ar2, ar3⟩ := h2.apart hr2
    have nqr : q ≠ r := ne_of_none eq2 hr2
    have ntr : t ≠ r := ne_of_none et2 hr2
    walk_at "sx"
    refine x_dputE upd_same (show 5 ≤ 100 by decide) ?_
    rw [dp_satellites]
    have sr := same_upd (o := .dK (dWorld (.int W.hor) (.ref l1) (.ref l2) (.ref l3) (.ref l4))) (Same.refl H2) hr2
    have er0 : upd H2 r (.dK (dWorld (.int W.hor) (.ref l1) (.ref l2) (.ref l3) (.ref l4))) r = _ := upd_same
    have tr := (Tp.same sr).trans (Tp.mutD (o := .dK (dWorld (.int W.hor) (.ref q) (.ref l2) (.ref l3) (.ref l4))) er0)
    have h3 := (h2.same sr).mut (o := .dK (dWorld (.int W.hor) (.ref q) (.ref l2) (.ref l3) (.ref l4))) ar1 ar2 ar3
    have s3 := same_mut (o := .dK (dWorld (.int W.hor) (.ref q) (.ref l2) (.ref l3) (.ref l4))) (s2.trans sr) hr0
    have er3 : upd (upd H2 r (.dK (dWorld (.int W.hor) (.ref l1) (.ref l2) (.ref l3) (.ref l4)))) r (.dK (dWorld (.int W.hor) (.ref q) (.ref l2) (.ref l3) (.ref l4))) r = some (.dK (dWorld (.int W.hor) (.ref q) (.ref l2) (.ref l3) (.ref l4))) := upd_same
    have eq3 := (upd_ne (o := .dK (dWorld (.int W.hor) (.ref q) (.ref l2) (.ref l3) (.ref l4))) nqr).trans (sr _ _ eq2)
    have et3 := (upd_ne (o := .dK (dWorld (.int W.hor) (.ref q) (.ref l2) (.ref l3) (.ref l4))) ntr).trans (sr _ _ et2)
    have eS3 := eS.mono fun _ _ z => z.tp tr
    generalize upd (upd H2 r (.dK (dWorld (.int W.hor) (.ref l1) (.ref l2) (.ref l3) (.ref l4)))) r (.dK (dWorld (.int W.hor) (.ref q) (.ref l2) (.ref l3) (.ref l4))) = H3 at h3 s3 er3 eq3 et3 eS3 ⊢
    walk_at "sx"
    refine ⟨Nat.zero_le _, fun p hp => ?_⟩
    have hp0 : H p = none := s3.free hp
    obtain ⟨ap1, ap2, ap3⟩ := h3.apart hp
    have nqp : q ≠ p := ne_of_none eq3 hp
    have ntp : t ≠ p := ne_of_none et3 hp
    have nrp : r ≠ p := ne_of_none er3 hp
    have npr := nrp.symm
    have sp := same_upd (o := .lst []) (Same.refl H3) hp
    have ep4 : upd H3 p (.lst []) p = some (.lst []) := upd_same
    have h4 := h3.same sp
    have s4 := s3.trans sp
    have er4 := sp _ _ er3
    have eq4 := sp _ _ eq3
    have et4 := sp _ _ et3
    have eS4 := eS3.mono fun _ _ z => z.tp (Tp.same sp)
    generalize upd H3 p (.lst []) = H4 at sp ep4 h4 s4 er4 eq4 et4 eS4 ⊢
    walk_at "sx"
    refine x_dget ?_
    have D4 := D.same s4
    walk_at "sx"
    refine x_dgetE D4.o (dv_passes _ _ _ _ _) ?_
    have hl4 := D4.h4
    walk_at "sx"
    refine for_gen (walk_list (K := K) (a := l4) (xs := ps.map V.ref)) (fun i σ H' => ∃ (ps' : List Addr) (xs' : List Pas) (v6 v7 v12 v13 v14 : Option V), StAt H' s dg pl ds ∧ Same H H' ∧ H' t = some (.lst [.int 1000000, .int 999999, .int 123456, .int 100000, .int 7]) ∧ H' q = some (.lst (as'.map V.ref)) ∧ Each (SatT H') as' ss ∧
      H' r = some (.dK (dWorld (.int W.hor) (.ref q) (.ref l2) (.ref l3) (.ref l4))) ∧ H' p = some (.lst (ps'.map V.ref)) ∧ Each (PasT H') ps' xs' ∧ xs'.length = i ∧ (∀ (j : Nat) (y : Pas), xs'[j]? = some y → ∃ x, W.pass[j]? = some x ∧ GrP x y) ∧
      σ = [some (.ref a), some (.int 24), some (.ref d), some (.ref s), some (.ref t), some (.ref q), v6, v7, v8, v9, some (.ref r), some (.ref p), v12, v13, v14]) ?_ ?_ ?_ ?_
    · exact ⟨[], [], _, _, none, none, none, h4, s4, et4, eq4, eS4, er4, ep4, ⟨rfl, fun i a x e _ => by simp at e⟩, rfl, (fun j y e => by simp at e), rfl⟩
    · rintro i σ H' _ ⟨ps', xs', v6, v7, v12, v13, v14, _, sH, _⟩
      exact SqL.of (sH _ _ D.h4)
    · rintro i x σ Ha Hb hi ⟨ps', xs', v6, v7, v12, v13, v14, ha', sa, hta, hqa, hsa, hra, hpa, hea, hlen, hgr, rfl⟩ ⟨rfl, hx⟩
      rw [List.getElem?_map] at hx
      rw [List.length_map] at hi
      obtain ⟨b, hb⟩ : ∃ b, ps[i]? = some b := ⟨ps[i], List.getElem?_eq_getElem hi⟩
      rw [hb] at hx
      have hx := Option.some.inj hx
      subst hx
      obtain ⟨x, hxs⟩ : ∃ x, W.pass[i]? = some x := ⟨W.pass[i]'(by rw [← D.e4.1]; exact hi), List.getElem?_eq_getElem _⟩
      obtain ⟨sp1, nt, t1, t2, t3⟩ := (D.e4.2 i b x hb hxs).tp (Tp.same sa)
      have hpa' := hpa
      walk_at "sx"
      refine ⟨s, dg, pl, ds, _, rfl, ha', ok, by decide, fun Hc v hc yc v0 v1 _ => ?_⟩
      obtain ⟨g1, g10, g11, _, gat⟩ := gr v v0 v1
      have htc := yc _ _ hta npt
      have hpc := yc _ _ hpa ap3.symm
      walk_at "sx"
      refine ⟨s, dg, pl, ds, _, rfl, hc, ok, by decide, fun Hd u hd yd u0 u1 _ => ?_⟩
      obtain ⟨g2, g20, g21, g22, gat2⟩ := gr u u0 u1
      have htd := yd _ _ htc npt
      have zd := same_stay (same_stay sa hpl yc) hpl yd
      have hpd := yd _ _ hpc ap3.symm
      have hqd := yd _ _ (yc _ _ hqa aq3.symm) aq3.symm
      have hrd := yd _ _ (yc _ _ hra ar3.symm) ar3.symm
      have tpd := (Tp.stay yc ha').trans (Tp.stay yd hc)
      walk_at "sx"
      refine ⟨show 3 ≤ sizeLine by decide, fun c1 hc1 => ?_⟩
      walk_at "sx"
      refine ⟨show 5 ≤ sizeLine by decide, fun c2 hc2 => ?_⟩
      have sm := same_upd (o := .tup [.str (S x.name), .int (x.sat : Int), .int (x.sta : Int), .ref sp1, .ref c1]) (same_upd (o := .tup [.int g1, .int g2, .int 1000]) (Same.refl Hd) hc1) hc2
      have e2 : upd (upd Hd c1 (.tup [.int g1, .int g2, .int 1000])) c2 (.tup [.str (S x.name), .int (x.sat : Int), .int (x.sta : Int), .ref sp1, .ref c1]) c2 = some (.tup [.str (S x.name), .int (x.sat : Int), .int (x.sta : Int), .ref sp1, .ref c1]) := upd_same
      have e1 : upd (upd Hd c1 (.tup [.int g1, .int g2, .int 1000])) c2 (.tup [.str (S x.name), .int (x.sat : Int), .int (x.sta : Int), .ref sp1, .ref c1]) c1 = some (.tup [.int g1, .int g2, .int 1000]) := (upd_ne (ne_of_none upd_same hc2)).trans upd_same
      generalize upd (upd Hd c1 (.tup [.int g1, .int g2, .int 1000])) c2 (.tup [.str (S x.name), .int (x.sat : Int), .int (x.sta : Int), .ref sp1, .ref c1]) = He at sm e1 e2 ⊢
      walk_at "sx"
      have hpe := sm _ _ hpd
      have hl0 : ps'.length ≤ 10 := by
        have z1 := hea.1
        have z2 := wok.npas
        have z3 := (List.getElem?_eq_some_iff.mp hxs).1
        omega
      refine x_app hpe (by rw [List.length_map]; omega) ?_
      have tm := Tp.mut (o := .lst (ps'.map V.ref ++ [V.ref c2])) hpe
      have tt := (tpd.trans (Tp.same sm)).trans tm
      refine ⟨ps' ++ [c2], xs' ++ [⟨x.name, x.sat, x.sta, x.first, x.last, g1, g2, 1000⟩], _, _, _, _, _, (hd.same sm).mut ap1 ap2 ap3, same_mut (zd.trans sm) hp0, (upd_ne ntp).trans (sm _ _ htd), (upd_ne nqp).trans (sm _ _ hqd), hsa.mono fun _ _ z => z.tp tt, (upd_ne nrp).trans (sm _ _ hrd), by rw [List.map_append]; exact upd_same, ?_, by rw [List.length_append, List.length_singleton]; omega, fun j y hj => ?_, rfl⟩
      · exact (hea.mono fun _ _ z => z.tp tt).snoc ⟨sp1, c1, tm _ _ e2, tt _ _ t2, tm _ _ e1⟩
      · by_cases hlt : j < xs'.length
        · rw [List.getElem?_append_left hlt] at hj
          exact hgr j y hj
        · have ej : j = xs'.length := by
            have z := (List.getElem?_eq_some_iff.mp hj).1
            rw [List.length_append, List.length_singleton] at z
            omega
          subst ej
          rw [List.getElem?_append_right (Nat.le_refl _), Nat.sub_self] at hj
          have hj := Option.some.inj hj
          subst hj
          exact ⟨x, by rw [hlen]; exact hxs, rfl, rfl, rfl, rfl, rfl, ⟨g10, g11⟩, ⟨g20, g21⟩, rfl⟩
    rintro σ H5 ⟨ps', us, v6, v7, v12, v13, v14, h5, s5, et5, eq5, eS5, er5, ep5, eU, hlU, hgrP, rfl⟩
    rw [List.length_map] at hlU
    walk_at "sx"
    refine x_dput ?_
    walk_at "sx"
    refine x_dputE er5 (show 5 ≤ 100 by decide) ?_
    rw [dp_passes]
    walk_at "sx"
    have D5 := D.same s5
    have tm := Tp.mutD (o := .dK (dWorld (.int W.hor) (.ref q) (.ref l2) (.ref l3) (.ref p))) er5
    have nl2 : l2 ≠ r := ne_of_none D.h2 hr0
    have nl3 : l3 ≠ r := ne_of_none D.h3 hr0
    have hls : ss.length = W.sats.length := by rw [hlS]; exact D.e1.1
    have hlp : us.length = W.pass.length := by rw [hlU]; exact D.e4.1
    refine k _ r q l2 l3 p as' bs cs ps' ⟨W.hor, ss, W.stas, W.recs, us⟩ (same_mut s5 hr0) ⟨upd_same, (upd_ne nqr).trans eq5, (upd_ne nl2).trans D5.h2, (upd_ne nl3).trans D5.h3, (upd_ne npr).trans ep5, eS5.mono fun _ _ z => z.tp tm, D5.e2.mono fun _ _ z => z.tp tm, D5.e3.mono fun _ _ z => z.tp tm, eU.mono fun _ _ z => z.tp tm⟩
      ⟨wok.hor, (by show ss.length ≤ 3; rw [hls]; exact wok.nsat), wok.nsta, wok.nrec, (by show us.length ≤ 10; rw [hlp]; exact wok.npas), ?_, wok.stas, ?_, ?_, ?_, wok.dsta, wok.drec, ?_⟩
    · intro y hy
      obtain ⟨i, hi⟩ := List.mem_iff_getElem?.mp hy
      obtain ⟨x, hx, g⟩ := hgr i y hi
      exact g.ok (wok.sats x (List.mem_of_getElem? hx)) (hlev x (List.mem_of_getElem? hx))
    · intro y hy
      show RecOk W.hor ss.length y
      rw [hls]
      exact wok.recs y hy
    · intro y hy
      obtain ⟨i, hi⟩ := List.mem_iff_getElem?.mp hy
      obtain ⟨x, hx, g⟩ := hgrP i y hi
      show PasOk W.hor ss.length W.stas.length y
      rw [hls]
      exact g.ok (wok.pass x (List.mem_of_getElem? hx))
    · show (ss.map (·.name)).Nodup
      rw [map_same (l := W.sats) hls fun i x y h1 h2 => ?_]
      · exact wok.dsat
      · obtain ⟨x', hx', g⟩ := hgr i y h2
        rw [h1] at hx'
        have e := Option.some.inj hx'
        subst e
        exact g.name
    · show (us.map (·.name)).Nodup
      rw [map_same (l := W.pass) hlp fun i x y h1 h2 => ?_]
      · exact wok.dpas
      · obtain ⟨x', hx', g⟩ := hgrP i y h2
        rw [h1] at hx'
        have e := Option.some.inj hx'
        subst e
        exact g.name
end
end Dp
namespace Dp
open PySem PySem.Spec PyProof.Rows L2 SX
/-! ### the law's lines -/
theorem take_two {α : Type} {l : List α} {i : Nat} {a b : α} (h1 : l[i]? = some a) (h2 : l[i + 1]? = some b) : l.take (i + 2) = l.take i ++ [a, b] := by
  rw [take_snoc (i := i + 1) h2, take_snoc h1, List.append_assoc]
  rfl
theorem txts_app (a b : List (List Nat)) : txts (a ++ b) = txts a ++ txts b := List.map_append
theorem app_line {α : Type} {l : List α} {f : α → List Nat} {B : List (List Nat)} {i : Nat} {x : α} {H : Hp} {q : Addr} {z : List Nat} (hx : l[i]? = some x) (hz : f x = z) : upd H q (.lst (txts (B ++ (l.take i).map f) ++ [V.str (S z)])) q = some (.lst (txts (B ++ (l.take (i + 1)).map f))) := by
  have e : txts (B ++ (l.take i).map f) ++ [V.str (S z)] = txts (B ++ (l.take (i + 1)).map f) := by
    rw [take_snoc hx, List.map_append, ← List.append_assoc, txts_app (B ++ _), ← hz]
    rfl
  rw [← e]
  exact upd_same
theorem sum_words : ∀ ws : List (List Nat), (∀ w ∈ ws, w.length ≤ 15) → (ws.map (·.length)).sum ≤ 15 * ws.length
  | [], _ => Nat.le_refl _
  | a :: r, h => by
    have z := sum_words r fun w hw => h w (List.mem_cons_of_mem _ hw)
    have y := h a List.mem_cons_self
    rw [List.map_cons, List.sum_cons, List.length_cons]
    omega
theorem line_few {ws : List (List Nat)} (h : LineOk ws) : (ws.map (·.length)).sum + ws.length * ([32] : List Nat).length ≤ 100000 := by
  have z := sum_words ws fun w hw => (h.2.2 w hw).2.1
  have y := h.2.1
  rw [List.length_singleton]
  omega
theorem S_space : (Str.ofString " " : Str) = SX.S [32] := by decide +kernel
theorem word_Sat (x : Sat) {hor : Int} (ok : SatOk hor x) (hh : hor ≤ 500) {k : Nat} (hk : k < 6) : ∃ (key : String) (n : Int), atI [V.str (Str.ofString "store"), V.str (Str.ofString "battery"), V.str (Str.ofString "level"), V.str (Str.ofString "reserve"), V.str (Str.ofString "charge"), V.str (Str.ofString "settle")] (0 + (k : Int)) = some (V.str (Str.ofString key)) ∧ atI [V.int x.store, V.int x.battery, V.int x.level, V.int x.reserve, V.int x.charge, V.int x.settle] (0 + (k : Int)) = some (V.int n) ∧
    (satW x)[2 + 2 * k]? = some (lit key) ∧ (satW x)[2 + 2 * k + 1]? = some (num n) ∧ 0 ≤ n ∧ n < 10000000 := by
  obtain ⟨o1, o2, o3, o4, o5, o6, o7, o8, o9⟩ := ok
  have hc : k = 0 ∨ k = 1 ∨ k = 2 ∨ k = 3 ∨ k = 4 ∨ k = 5 := by omega
  rcases hc with rfl | rfl | rfl | rfl | rfl | rfl
  · exact ⟨"store", x.store, atI_nat (j := 0) rfl, atI_nat (j := 0) rfl, rfl, rfl, by omega, by omega⟩
  · exact ⟨"battery", x.battery, atI_nat (j := 1) rfl, atI_nat (j := 1) rfl, rfl, rfl, by omega, by omega⟩
  · exact ⟨"level", x.level, atI_nat (j := 2) rfl, atI_nat (j := 2) rfl, rfl, rfl, by omega, by omega⟩
  · exact ⟨"reserve", x.reserve, atI_nat (j := 3) rfl, atI_nat (j := 3) rfl, rfl, rfl, by omega, by omega⟩
  · exact ⟨"charge", x.charge, atI_nat (j := 4) rfl, atI_nat (j := 4) rfl, rfl, rfl, by omega, by omega⟩
  · exact ⟨"settle", x.settle, atI_nat (j := 5) rfl, atI_nat (j := 5) rfl, rfl, rfl, by omega, by omega⟩
theorem word_RecA (sn : List (List Nat)) (x : Rec) {hor : Int} {n0 : Nat} (ok : RecOk hor n0 x) (hh : hor ≤ 500) {k : Nat} (hk : k < 5) : ∃ (key : String) (n : Int), atI [V.str (Str.ofString "from"), V.str (Str.ofString "to"), V.str (Str.ofString "length"), V.str (Str.ofString "size"), V.str (Str.ofString "energy")] (0 + (k : Int)) = some (V.str (Str.ofString key)) ∧ atI [V.int x.ear, V.int x.lat, V.int x.len, V.int x.size, V.int x.energy] (0 + (k : Int)) = some (V.int n) ∧
    (recW sn x)[4 + 2 * k]? = some (lit key) ∧ (recW sn x)[4 + 2 * k + 1]? = some (num n) ∧ 0 ≤ n ∧ n < 10000000 := by
  obtain ⟨o1, o2, o3, o4, o5, o6, o7, o8, o9, o10⟩ := ok
  have hc : k = 0 ∨ k = 1 ∨ k = 2 ∨ k = 3 ∨ k = 4 := by omega
  rcases hc with rfl | rfl | rfl | rfl | rfl
  · exact ⟨"from", x.ear, atI_nat (j := 0) rfl, atI_nat (j := 0) rfl, rfl, rfl, by omega, by omega⟩
  · exact ⟨"to", x.lat, atI_nat (j := 1) rfl, atI_nat (j := 1) rfl, rfl, rfl, by omega, by omega⟩
  · exact ⟨"length", x.len, atI_nat (j := 2) rfl, atI_nat (j := 2) rfl, rfl, rfl, by omega, by omega⟩
  · exact ⟨"size", x.size, atI_nat (j := 3) rfl, atI_nat (j := 3) rfl, rfl, rfl, by omega, by omega⟩
  · exact ⟨"energy", x.energy, atI_nat (j := 4) rfl, atI_nat (j := 4) rfl, rfl, rfl, by omega, by omega⟩
theorem word_RecB (sn : List (List Nat)) (x : Rec) {hor : Int} {n0 : Nat} (ok : RecOk hor n0 x) (hh : hor ≤ 500) {k : Nat} (hk : k < 3) : ∃ (key : String) (n : Int), atI [V.str (Str.ofString "worth"), V.str (Str.ofString "rank"), V.str (Str.ofString "until")] (0 + (k : Int)) = some (V.str (Str.ofString key)) ∧ atI [V.int x.worth, V.int x.rank, V.int x.dead] (0 + (k : Int)) = some (V.int n) ∧
    (recW sn x)[14 + 2 * k]? = some (lit key) ∧ (recW sn x)[14 + 2 * k + 1]? = some (num n) ∧ 0 ≤ n ∧ n < 10000000 := by
  obtain ⟨o1, o2, o3, o4, o5, o6, o7, o8, o9, o10⟩ := ok
  have hc : k = 0 ∨ k = 1 ∨ k = 2 := by omega
  rcases hc with rfl | rfl | rfl
  · exact ⟨"worth", x.worth, atI_nat (j := 0) rfl, atI_nat (j := 0) rfl, rfl, rfl, by omega, by omega⟩
  · exact ⟨"rank", x.rank, atI_nat (j := 1) rfl, atI_nat (j := 1) rfl, rfl, rfl, by omega, by omega⟩
  · exact ⟨"until", x.dead, atI_nat (j := 2) rfl, atI_nat (j := 2) rfl, rfl, rfl, by omega, by omega⟩
theorem word_Pas (sn tn : List (List Nat)) (x : Pas) {hor : Int} {n0 m0 : Nat} (ok : PasOk hor n0 m0 x) (hh : hor ≤ 500) {k : Nat} (hk : k < 3) : ∃ (key : String) (n : Int), atI [V.str (Str.ofString "room"), V.str (Str.ofString "energy"), V.str (Str.ofString "fee")] (0 + (k : Int)) = some (V.str (Str.ofString key)) ∧ atI [V.int x.room, V.int x.energy, V.int x.fee] (0 + (k : Int)) = some (V.int n) ∧
    (pasW sn tn x)[10 + 2 * k]? = some (lit key) ∧ (pasW sn tn x)[10 + 2 * k + 1]? = some (num n) ∧ 0 ≤ n ∧ n < 10000000 := by
  obtain ⟨o1, o2, o3, o4, o5, o6, o7⟩ := ok
  have hc : k = 0 ∨ k = 1 ∨ k = 2 := by omega
  rcases hc with rfl | rfl | rfl
  · exact ⟨"room", x.room, atI_nat (j := 0) rfl, atI_nat (j := 0) rfl, rfl, rfl, by omega, by omega⟩
  · exact ⟨"energy", x.energy, atI_nat (j := 1) rfl, atI_nat (j := 1) rfl, rfl, rfl, by omega, by omega⟩
  · exact ⟨"fee", x.fee, atI_nat (j := 2) rfl, atI_nat (j := 2) rfl, rfl, rfl, by omega, by omega⟩
def spLines : Sp := fun vs H Q _ => ∃ (d l1 l2 l3 l4 : Addr) (as bs cs ps : List Addr) (W : Wd), vs = [.ref d] ∧ WdF H d l1 l2 l3 l4 as bs cs ps W ∧ WOk W ∧ ∀ (H' : Hp) (p : Addr), Same H H' → H' p = some (.lst (txts ((worldW W).map lineOf))) → Q (.ref p) H'
section
variable {P : Program} {w : World} {K : PySem.W.Frag} {mg : Str → Option Value} {base : Heap}
theorem sc_law_lines : FnScope ["_law_world_here", "_law_lines_here", "_law_name", "_law_numbers", "_law_light", "_law_words", "_law_k", "_law_span", "_law_antennas", "_law_turn", "_law_satellite_here", "_law_urgency", "_law_station"] ["_law_world_here"] (defScope s_law_lines) := ⟨rfl, rfl, rfl, by decide +kernel, rfl, by decide +kernel, by decide +kernel⟩
theorem ok_law_lines (T : Tx K mg) : C8.Cal P w K mg base 1 "_law_lines" spLines [] := by
  obtain ⟨fd, F⟩ := T.f_law_lines
  refine calOf F T.glo__law_lines (F.bindsN (ps := ["_law_world_here"]) fun _ _ _ _ _ _ us hl => match us, hl with | [_], _ => rfl) sc_law_lines ?_ ?_
  · rintro vs H Q E ⟨d, l1, l2, l3, l4, as, bs, cs, ps, W, rfl, _⟩
    rfl
  · rintro cdv A outer st H vs Q E hr ⟨d, l1, l2, l3, l4, as, bs, cs, ps, W, rfl, D, wok, k⟩
    have hu := hu_of hr
    refine ⟨_, pss_cons (ps_set (i := 1) sc_law_lines.nd rfl (Or.inl rfl) (pe_lst (pa_cons (pe_op op_add_str (pe_str) (pe_callTy call_str_int (by rfl) T.free_str (by decide +kernel) (pa_cons (pe_dget hu (pv 0) (pe_str) (fun _ _ => rfl)) pa_nil))) pa_nil)))
      (pss_cons (ps_for PassesOwn.never rfl (pi_list (pe_dget hu (pv 0) (pe_str) (fun _ _ => rfl))) (pg_tup (n := 3) rfl (pgs_cons (pg_name (i := 2) sc_law_lines.nd rfl (Or.inl rfl)) (pgs_cons (pg_name (i := 3) sc_law_lines.nd rfl (Or.inl rfl)) (pgs_cons (pg_name (i := 4) sc_law_lines.nd rfl (Or.inl rfl)) pgs_nil))))
        (pss_cons (ps_set (i := 5) sc_law_lines.nd rfl (Or.inl rfl) (pe_lst (pa_cons (pe_str) (pa_cons (pv 2) pa_nil))))
        (pss_cons (ps_for PassesOwn.never rfl (pi_range1 (by rfl) T.free_range (pa_cons (pe_int) pa_nil)) (pg_name (i := 6) sc_law_lines.nd rfl (Or.inl rfl))
          (pss_one (ps_expr (pe_bm PySem.F.plainAttrs_list PySem.F.slot_list_extend PySem.F.type_list_extend mt_extend (pv 5) (pa_cons (pe_lst (pa_cons (pe_ix ix_list (pe_lst (pa_cons (pe_str) (pa_cons (pe_str) (pa_cons (pe_str) (pa_cons (pe_str) (pa_cons (pe_str) (pa_cons (pe_str) pa_nil))))))) (pv 6) (fun _ _ => rfl)) (pa_cons (pe_callTy call_str_int (by rfl) T.free_str (by decide +kernel) (pa_cons (pe_ix ix_tup (pv 3) (pv 6) (fun _ _ => rfl)) pa_nil)) pa_nil))) pa_nil)))))
        (pss_cons (ps_expr (pe_bm PySem.F.plainAttrs_list PySem.F.slot_list_append PySem.F.type_list_append mt_append (pv 5) (pa_cons (pe_str) pa_nil)))
        (pss_cons (ps_for PassesOwn.never rfl (pi_tup (pv 4)) (pg_name (i := 7) sc_law_lines.nd rfl (Or.inl rfl))
          (pss_one (ps_expr (pe_bm PySem.F.plainAttrs_list PySem.F.slot_list_extend PySem.F.type_list_extend mt_extend (pv 5) (pa_cons (pe_lst (pa_cons (pe_callTy call_str_int (by rfl) T.free_str (by decide +kernel) (pa_cons (pe_ix ix_tup (pv 7) (pe_int) (fun _ _ => rfl)) pa_nil)) (pa_cons (pe_callTy call_str_int (by rfl) T.free_str (by decide +kernel) (pa_cons (pe_ix ix_tup (pv 7) (pe_int) (fun _ _ => rfl)) pa_nil)) pa_nil))) pa_nil)))))
        (pss_one (ps_expr (pe_bm PySem.F.plainAttrs_list PySem.F.slot_list_append PySem.F.type_list_append mt_append (pv 1) (pa_cons (pe_join (pe_str) (pv 5)) pa_nil)))))))))
      (pss_cons (ps_for PassesOwn.never rfl (pi_list (pe_dget hu (pv 0) (pe_str) (fun _ _ => rfl))) (pg_tup (n := 3) rfl (pgs_cons (pg_name (i := 2) sc_law_lines.nd rfl (Or.inl rfl)) (pgs_cons (pg_name (i := 8) sc_law_lines.nd rfl (Or.inl rfl)) (pgs_cons (pg_name (i := 9) sc_law_lines.nd rfl (Or.inl rfl)) pgs_nil))))
        (pss_one (ps_expr (pe_bm PySem.F.plainAttrs_list PySem.F.slot_list_append PySem.F.type_list_append mt_append (pv 1) (pa_cons (pe_op op_add_str (pe_op op_add_str (pe_op op_add_str (pe_op op_add_str (pe_op op_add_str (pe_str) (pv 2)) (pe_str)) (pe_callTy call_str_int (by rfl) T.free_str (by decide +kernel) (pa_cons (pv 8) pa_nil))) (pe_str)) (pe_callTy call_str_int (by rfl) T.free_str (by decide +kernel) (pa_cons (pv 9) pa_nil))) pa_nil)))))
      (pss_cons (ps_for PassesOwn.never rfl (pi_list (pe_dget hu (pv 0) (pe_str) (fun _ _ => rfl))) (pg_tup (n := 4) rfl (pgs_cons (pg_name (i := 2) sc_law_lines.nd rfl (Or.inl rfl)) (pgs_cons (pg_name (i := 10) sc_law_lines.nd rfl (Or.inl rfl)) (pgs_cons (pg_name (i := 3) sc_law_lines.nd rfl (Or.inl rfl)) (pgs_cons (pg_name (i := 11) sc_law_lines.nd rfl (Or.inl rfl)) pgs_nil)))))
        (pss_cons (ps_set (i := 5) sc_law_lines.nd rfl (Or.inl rfl) (pe_lst (pa_cons (pe_str) (pa_cons (pv 2) (pa_cons (pe_str) (pa_cons (pe_ix ix_tup (pe_ix ix_list (pe_dget hu (pv 0) (pe_str) (fun _ _ => rfl)) (pv 10) (fun _ _ => rfl)) (pe_int) (fun _ _ => rfl)) pa_nil))))))
        (pss_cons (ps_for PassesOwn.never rfl (pi_range1 (by rfl) T.free_range (pa_cons (pe_int) pa_nil)) (pg_name (i := 6) sc_law_lines.nd rfl (Or.inl rfl))
          (pss_one (ps_expr (pe_bm PySem.F.plainAttrs_list PySem.F.slot_list_extend PySem.F.type_list_extend mt_extend (pv 5) (pa_cons (pe_lst (pa_cons (pe_ix ix_list (pe_lst (pa_cons (pe_str) (pa_cons (pe_str) (pa_cons (pe_str) (pa_cons (pe_str) (pa_cons (pe_str) pa_nil)))))) (pv 6) (fun _ _ => rfl)) (pa_cons (pe_callTy call_str_int (by rfl) T.free_str (by decide +kernel) (pa_cons (pe_ix ix_tup (pv 3) (pv 6) (fun _ _ => rfl)) pa_nil)) pa_nil))) pa_nil)))))
        (pss_cons (ps_for PassesOwn.never rfl (pi_range1 (by rfl) T.free_range (pa_cons (pe_int) pa_nil)) (pg_name (i := 6) sc_law_lines.nd rfl (Or.inl rfl))
          (pss_one (ps_expr (pe_bm PySem.F.plainAttrs_list PySem.F.slot_list_extend PySem.F.type_list_extend mt_extend (pv 5) (pa_cons (pe_lst (pa_cons (pe_ix ix_list (pe_lst (pa_cons (pe_str) (pa_cons (pe_str) (pa_cons (pe_str) pa_nil)))) (pv 6) (fun _ _ => rfl)) (pa_cons (pe_callTy call_str_int (by rfl) T.free_str (by decide +kernel) (pa_cons (pe_ix ix_tup (pv 11) (pv 6) (fun _ _ => rfl)) pa_nil)) pa_nil))) pa_nil)))))
        (pss_one (ps_expr (pe_bm PySem.F.plainAttrs_list PySem.F.slot_list_append PySem.F.type_list_append mt_append (pv 1) (pa_cons (pe_join (pe_str) (pv 5)) pa_nil))))))))
      (pss_cons (ps_for PassesOwn.never rfl (pi_list (pe_dget hu (pv 0) (pe_str) (fun _ _ => rfl))) (pg_tup (n := 5) rfl (pgs_cons (pg_name (i := 2) sc_law_lines.nd rfl (Or.inl rfl)) (pgs_cons (pg_name (i := 10) sc_law_lines.nd rfl (Or.inl rfl)) (pgs_cons (pg_name (i := 12) sc_law_lines.nd rfl (Or.inl rfl)) (pgs_cons (pg_name (i := 7) sc_law_lines.nd rfl (Or.inl rfl)) (pgs_cons (pg_name (i := 3) sc_law_lines.nd rfl (Or.inl rfl)) pgs_nil))))))
        (pss_cons (ps_set (i := 5) sc_law_lines.nd rfl (Or.inl rfl) (pe_lst (pa_cons (pe_str) (pa_cons (pv 2) (pa_cons (pe_str) (pa_cons (pe_ix ix_tup (pe_ix ix_list (pe_dget hu (pv 0) (pe_str) (fun _ _ => rfl)) (pv 10) (fun _ _ => rfl)) (pe_int) (fun _ _ => rfl)) (pa_cons (pe_str) (pa_cons (pe_ix ix_tup (pe_ix ix_list (pe_dget hu (pv 0) (pe_str) (fun _ _ => rfl)) (pv 12) (fun _ _ => rfl)) (pe_int) (fun _ _ => rfl)) pa_nil))))))))
        (pss_cons (ps_expr (pe_bm PySem.F.plainAttrs_list PySem.F.slot_list_extend PySem.F.type_list_extend mt_extend (pv 5) (pa_cons (pe_lst (pa_cons (pe_str) (pa_cons (pe_callTy call_str_int (by rfl) T.free_str (by decide +kernel) (pa_cons (pe_ix ix_tup (pv 7) (pe_int) (fun _ _ => rfl)) pa_nil)) (pa_cons (pe_str) (pa_cons (pe_callTy call_str_int (by rfl) T.free_str (by decide +kernel) (pa_cons (pe_ix ix_tup (pv 7) (pe_int) (fun _ _ => rfl)) pa_nil)) pa_nil))))) pa_nil)))
        (pss_cons (ps_for PassesOwn.never rfl (pi_range1 (by rfl) T.free_range (pa_cons (pe_int) pa_nil)) (pg_name (i := 6) sc_law_lines.nd rfl (Or.inl rfl))
          (pss_one (ps_expr (pe_bm PySem.F.plainAttrs_list PySem.F.slot_list_extend PySem.F.type_list_extend mt_extend (pv 5) (pa_cons (pe_lst (pa_cons (pe_ix ix_list (pe_lst (pa_cons (pe_str) (pa_cons (pe_str) (pa_cons (pe_str) pa_nil)))) (pv 6) (fun _ _ => rfl)) (pa_cons (pe_callTy call_str_int (by rfl) T.free_str (by decide +kernel) (pa_cons (pe_ix ix_tup (pv 3) (pv 6) (fun _ _ => rfl)) pa_nil)) pa_nil))) pa_nil)))))
        (pss_one (ps_expr (pe_bm PySem.F.plainAttrs_list PySem.F.slot_list_append PySem.F.type_list_append mt_append (pv 1) (pa_cons (pe_join (pe_str) (pv 5)) pa_nil))))))))
      (pss_one (ps_ret (pv 1))))))), ?_⟩
    try dsimp only [cxK]
    have hh := wok.hor
    have hsn : ∀ i : Nat, i < W.sats.length → ∃ (b : Addr) (x : Sat), as[i]? = some b ∧ W.sats[i]? = some x ∧ SatT H b x ∧ W.sn.getD i [] = x.name := fun i hi => by
      obtain ⟨x, hx⟩ : ∃ x, W.sats[i]? = some x := ⟨W.sats[i], List.getElem?_eq_getElem hi⟩
      obtain ⟨b, hb, ht⟩ := D.e1.at_ hx
      refine ⟨b, x, hb, hx, ht, ?_⟩
      unfold Wd.sn
      rw [List.getD_eq_getElem?_getD, List.getElem?_map, hx]
      rfl
    have htn : ∀ i : Nat, i < W.stas.length → ∃ (b : Addr) (x : Sta), bs[i]? = some b ∧ W.stas[i]? = some x ∧ StaT H b x ∧ W.tn.getD i [] = x.name := fun i hi => by
      obtain ⟨x, hx⟩ : ∃ x, W.stas[i]? = some x := ⟨W.stas[i], List.getElem?_eq_getElem hi⟩
      obtain ⟨b, hb, ht⟩ := D.e2.at_ hx
      refine ⟨b, x, hb, hx, ht, ?_⟩
      unfold Wd.tn
      rw [List.getD_eq_getElem?_getD, List.getElem?_map, hx]
      rfl
    walk_at "sx"
    refine x_dget ?_
    walk_at "sx"
    refine x_dgetE D.o (dv_horizon _ _ _ _ _) ?_
    walk_at "sx"
    refine x_strI (small_log (by omega) (by omega)) ?_
    rw [num_S (show 0 ≤ W.hor by omega), lit_S "horizon "]
    have b1 : (lit "horizon ").length ≤ 8 := by decide +kernel
    have b2 : (num W.hor).length ≤ 7 := num_len (by omega)
    walk_at "sx"
    refine ⟨show 1 ≤ sizeLine by decide, fun q hq => ?_⟩
    rw [horA_line]
    have s0 : Same H (upd H q (.lst [V.str (S (lineOf (horW W.hor)))])) := same_upd (Same.refl H) hq
    have hq0 : upd H q (.lst [V.str (S (lineOf (horW W.hor)))]) q = some (.lst (txts ([lineOf (horW W.hor)] ++ []))) := upd_same
    generalize upd H q (.lst [V.str (S (lineOf (horW W.hor)))]) = H0 at s0 hq0 ⊢
    walk_at "sx"
    refine x_dget ?_
    have DD := D.same s0
    walk_at "sx"
    refine x_dgetE DD.o (dv_satellites _ _ _ _ _) ?_
    have hll := DD.h1
    walk_at "sx"
    refine for_gen (walk_list (K := K) (a := l1) (xs := as.map V.ref)) (fun i σ H' => ∃ v2 v3 v4 v5 v6 v7 v8 v9 v10 v11 v12 : Option V, Same H H' ∧ H' q = some (.lst (txts ([lineOf (horW W.hor)] ++ ((W.sats.take i).map (fun x => lineOf (satW x)))))) ∧ σ = [some (.ref d), some (.ref q), v2, v3, v4, v5, v6, v7, v8, v9, v10, v11, v12]) ?_ ?_ ?_ ?_
    · exact ⟨_, _, _, _, _, _, _, _, _, _, _, s0, hq0, rfl⟩
    · rintro i σ H' _ ⟨_, _, _, _, _, _, _, _, _, _, _, sH, _⟩
      exact SqL.of (sH _ _ D.h1)
    · rintro i y σ _ Ha hi ⟨v2, v3, v4, v5, v6, v7, v8, v9, v10, v11, v12, sa, hqa, rfl⟩ ⟨rfl, hx⟩
      rw [List.getElem?_map] at hx
      rw [List.length_map] at hi
      obtain ⟨b, hb⟩ : ∃ b, as[i]? = some b := ⟨as[i], List.getElem?_eq_getElem hi⟩
      rw [hb] at hx
      have hx := Option.some.inj hx
      subst hx
      obtain ⟨x, hxs⟩ : ∃ x, W.sats[i]? = some x := ⟨W.sats[i]'(by rw [← D.e1.1]; exact hi), List.getElem?_eq_getElem _⟩
      have few : (W.sats.take i).length ≤ 10 := by
        rw [List.length_take]
        have := wok.nsat
        have := wok.nsta
        have := wok.nrec
        have := wok.npas
        omega
      have f1 := wok.nsat
      have f2 := wok.nsta
      have f3 := wok.nrec
      have f4 := wok.npas
      have tx := (D.e1.2 i b x hb hxs).tp (Tp.same sa)
      obtain ⟨nt, lt, lps, t1, t2, t3, t4⟩ := tx
      have okx := wok.sats x (List.mem_of_getElem? hxs)
      have lok1 := satW_ok hh.2 okx
      have lfew := okx.few
      walk_at "sx"
      refine ⟨show 2 ≤ sizeLine by decide, fun wl hwl' => ?_⟩
      have hwl : Ha wl = none := hwl'
      rw [lit_S "satellite"]
      have sw : Same Ha (upd Ha wl (.lst [V.str (S (lit "satellite")), V.str (S x.name)])) := same_upd (Same.refl _) hwl
      have hw0 : upd Ha wl (.lst [V.str (S (lit "satellite")), V.str (S x.name)]) wl = some (.lst (txts ((satW x).take (2 + 2 * 0)))) := upd_same
      generalize upd Ha wl (.lst [V.str (S (lit "satellite")), V.str (S x.name)]) = Hw at sw hw0 ⊢
      walk_at "sx"
      refine x_rng1E (by decide) (by decide) ?_
      refine for_gen (walk_range (lo := 0) (n := (6 : Int).toNat)) (fun k σ H' => ∃ u6 : Option V, Same Ha H' ∧ H' wl = some (.lst (txts ((satW x).take (2 + 2 * k)))) ∧ σ = [some (.ref d), some (.ref q), some (.str (S x.name)), some (.ref nt), some (.ref lt), some (.ref wl), u6, v7, v8, v9, v10, v11, v12]) ?_ ?_ ?_ ?_
      · exact ⟨_, sw, hw0, rfl⟩
      · intros
        trivial
      · rintro k y σ Hc _ hk ⟨u6, sc, hwc, rfl⟩ ⟨rfl, rfl⟩
        have hk : k < 6 := hk
        obtain ⟨key, n, e1, e2, e3, e4, e5, e6⟩ := word_Sat x okx hh.2 hk
        have hnt := sc _ _ t2
        walk_at "sx"
        refine ⟨show 6 ≤ sizeLine by decide, fun c1 hc1 => ?_⟩
        have hnt1 := (upd_ne (o := .lst [V.str (Str.ofString "store"), V.str (Str.ofString "battery"), V.str (Str.ofString "level"), V.str (Str.ofString "reserve"), V.str (Str.ofString "charge"), V.str (Str.ofString "settle")]) (ne_of_none hnt hc1)).trans hnt
        walk_at "sx"
        refine x_strI (small_log e5 e6) ?_
        walk_at "sx"
        refine ⟨show 2 ≤ sizeLine by decide, fun c2 hc2 => ?_⟩
        rw [num_S e5, lit_S key]
        have hw1 := (upd_ne (o := .lst [V.str (Str.ofString "store"), V.str (Str.ofString "battery"), V.str (Str.ofString "level"), V.str (Str.ofString "reserve"), V.str (Str.ofString "charge"), V.str (Str.ofString "settle")]) (ne_of_none hwc hc1)).trans hwc
        have hw2 := (upd_ne (o := .lst [V.str (S (lit key)), V.str (S (num n))]) (ne_of_none hw1 hc2)).trans hw1
        have sy := same_upd (o := .lst [V.str (S (lit key)), V.str (S (num n))]) (same_upd (o := .lst [V.str (Str.ofString "store"), V.str (Str.ofString "battery"), V.str (Str.ofString "level"), V.str (Str.ofString "reserve"), V.str (Str.ofString "charge"), V.str (Str.ofString "settle")]) sc hc1) hc2
        walk_at "sx"
        refine x_ext hw2 upd_same (by rw [List.length_map, List.length_take]; show _ + 2 ≤ _; omega) ?_
        exact ⟨_, same_mut sy hwl, by rw [show 2 + 2 * (k + 1) = 2 + 2 * k + 2 from by omega, take_two e3 e4, txts_app]; exact upd_same, rfl⟩
      rintro σ H5 ⟨u6, s5, hw5, rfl⟩
      walk_at "sx"
      have e14 : (satW x).take (2 + 2 * (6 : Int).toNat + 1) = (satW x).take (2 + 2 * (6 : Int).toNat) ++ [lit "light"] := take_snoc rfl
      have hlt := s5 _ _ t3
      refine x_app hw5 (by rw [List.length_map, List.length_take]; show min 14 _ < _; omega) ?_
      rw [lit_S "light"]
      have s6 := same_mut (o := .lst (txts ((satW x).take (2 + 2 * (6 : Int).toNat)) ++ [V.str (S (lit "light"))])) s5 hwl
      have hw6 : upd H5 wl (.lst (txts ((satW x).take (2 + 2 * (6 : Int).toNat)) ++ [V.str (S (lit "light"))])) wl = some (.lst (txts ((satW x).take (15 + 2 * 0)))) := by
        show _ = some (HO.lst (txts ((satW x).take (2 + 2 * (6 : Int).toNat + 1))))
        rw [e14, txts_app]
        exact upd_same
      generalize upd H5 wl (.lst (txts ((satW x).take (2 + 2 * (6 : Int).toNat)) ++ [V.str (S (lit "light"))])) = H6 at s6 hw6 ⊢
      have hlt6 := s6 _ _ t3
      walk_at "sx"
      refine for_gen (walk_tup (K := K) (a := lt) (xs := lps.map V.ref)) (fun j σ H' => ∃ u6 u7 : Option V, Same Ha H' ∧ H' wl = some (.lst (txts ((satW x).take (15 + 2 * j)))) ∧ σ = [some (.ref d), some (.ref q), some (.str (S x.name)), some (.ref nt), some (.ref lt), some (.ref wl), u6, u7, v8, v9, v10, v11, v12]) ?_ ?_ ?_ ?_
      · exact ⟨_, _, s6, hw6, rfl⟩
      · rintro j σ H' _ ⟨_, _, sH, _⟩
        exact SqT.of (sH _ _ t3)
      · rintro j y σ Hc _ hj ⟨u6, u7, sc, hwc, rfl⟩ ⟨rfl, hx⟩
        rw [List.getElem?_map] at hx
        rw [List.length_map] at hj
        obtain ⟨c, hc⟩ : ∃ c, lps[j]? = some c := ⟨lps[j], List.getElem?_eq_getElem hj⟩
        rw [hc] at hx
        have hx := Option.some.inj hx
        subst hx
        obtain ⟨p, hp⟩ : ∃ p, x.light[j]? = some p := ⟨x.light[j]'(by rw [← t4.1]; exact hj), List.getElem?_eq_getElem _⟩
        have hcp := sc _ _ (t4.2 j c p hc hp)
        have i0 : atI [V.int p.1, V.int p.2] 0 = some (V.int p.1) := atI_nat (j := 0) rfl
        have i1 : atI [V.int p.1, V.int p.2] 1 = some (V.int p.2) := atI_nat (j := 1) rfl
        obtain ⟨r1, r2, r3, r4⟩ := light_rng hh.2 (Int.le_refl 0) okx.light p (List.mem_of_getElem? hp)
        obtain ⟨w1, w2⟩ := satW_at hp
        walk_at "sx"
        refine x_strI (small_log r1 r2) ?_
        walk_at "sx"
        refine x_strI (small_log r3 r4) ?_
        walk_at "sx"
        refine ⟨show 2 ≤ sizeLine by decide, fun c2 hc2 => ?_⟩
        rw [num_S r1, num_S r3]
        have hw2 := (upd_ne (o := .lst [V.str (S (num p.1)), V.str (S (num p.2))]) (ne_of_none hwc hc2)).trans hwc
        walk_at "sx"
        refine x_ext hw2 upd_same (by rw [List.length_map, List.length_take]; show _ + 2 ≤ _; have := satW_len x; omega) ?_
        exact ⟨_, _, same_mut (same_upd sc hc2) hwl, by rw [show 15 + 2 * (j + 1) = 15 + 2 * j + 2 from by omega, take_two w1 w2, txts_app]; exact upd_same, rfl⟩
      rintro σ H7 ⟨u6, u7, s7, hw7, rfl⟩
      have et : (satW x).take (15 + 2 * (lps.map V.ref).length) = satW x := List.take_of_length_le (by rw [satW_len, List.length_map, t4.1]; exact Nat.le_refl _)
      rw [et] at hw7
      have hqn := s7 _ _ hqa
      walk_at "sx"
      refine x_joinZ hw7 S_space (line_few lok1) ?_
      rw [join_S]
      walk_at "sx"
      refine x_app hqn (by simp only [List.length_map, List.length_append, List.length_cons, List.length_nil]; omega) ?_
      refine ⟨_, _, _, _, _, _, _, _, _, _, _, same_mut (sa.trans s7) hq, ?_, rfl⟩
      exact app_line hxs rfl
    rintro σ H1 ⟨v2, v3, v4, v5, v6, v7, v8, v9, v10, v11, v12, s1, hq1, rfl⟩
    have eall : (W.sats.take (as.map V.ref).length) = W.sats := List.take_of_length_le (by rw [List.length_map, D.e1.1]; exact Nat.le_refl _)
    rw [eall] at hq1
    clear hq0 s0 DD hll eall
    have s0 := s1
    have hq0 : H1 q = some (.lst (txts ([lineOf (horW W.hor)] ++ (W.sats.map (fun x => lineOf (satW x))) ++ []))) := by
      rw [List.append_nil]
      exact hq1
    clear hq1 s1
    walk_at "sx"
    refine x_dget ?_
    have DD := D.same s0
    walk_at "sx"
    refine x_dgetE DD.o (dv_stations _ _ _ _ _) ?_
    have hll := DD.h2
    walk_at "sx"
    refine for_gen (walk_list (K := K) (a := l2) (xs := bs.map V.ref)) (fun i σ H' => ∃ v2 v3 v4 v5 v6 v7 v8 v9 v10 v11 v12 : Option V, Same H H' ∧ H' q = some (.lst (txts (([lineOf (horW W.hor)] ++ (W.sats.map (fun x => lineOf (satW x))) ) ++ ((W.stas.take i).map (fun x => lineOf (staW x)))))) ∧ σ = [some (.ref d), some (.ref q), v2, v3, v4, v5, v6, v7, v8, v9, v10, v11, v12]) ?_ ?_ ?_ ?_
    · exact ⟨_, _, _, _, _, _, _, _, _, _, _, s0, hq0, rfl⟩
    · rintro i σ H' _ ⟨_, _, _, _, _, _, _, _, _, _, _, sH, _⟩
      exact SqL.of (sH _ _ D.h2)
    · rintro i y σ _ Ha hi ⟨v2, v3, v4, v5, v6, v7, v8, v9, v10, v11, v12, sa, hqa, rfl⟩ ⟨rfl, hx⟩
      rw [List.getElem?_map] at hx
      rw [List.length_map] at hi
      obtain ⟨b, hb⟩ : ∃ b, bs[i]? = some b := ⟨bs[i], List.getElem?_eq_getElem hi⟩
      rw [hb] at hx
      have hx := Option.some.inj hx
      subst hx
      obtain ⟨x, hxs⟩ : ∃ x, W.stas[i]? = some x := ⟨W.stas[i]'(by rw [← D.e2.1]; exact hi), List.getElem?_eq_getElem _⟩
      have few : (W.stas.take i).length ≤ 10 := by
        rw [List.length_take]
        have := wok.nsat
        have := wok.nsta
        have := wok.nrec
        have := wok.npas
        omega
      have f1 := wok.nsat
      have f2 := wok.nsta
      have f3 := wok.nrec
      have f4 := wok.npas
      have tx := (D.e2.2 i b x hb hxs).tp (Tp.same sa)
      have tx : Ha b = some (.tup [.str (S x.name), .int x.ant, .int x.turn]) := tx
      obtain ⟨o1, o2, o3⟩ := wok.stas x (List.mem_of_getElem? hxs)
      walk_at "sx"
      rw [lit_S "station "]
      have c1 : (lit "station ").length ≤ 8 := by decide +kernel
      have c2 : x.name.length ≤ 15 := o1.few
      have c3 : (lit " antennas ").length ≤ 10 := by decide +kernel
      have c4 : (num x.ant).length ≤ 7 := num_len (by omega)
      have c5 : (lit " turn ").length ≤ 6 := by decide +kernel
      have c6 : (num x.turn).length ≤ 7 := num_len (by omega)
      walk_at "sx"
      rw [lit_S " antennas "]
      walk_at "sx"
      refine x_strI (small_log (by omega) (by omega)) ?_
      rw [num_S (show 0 ≤ x.ant by omega)]
      walk_at "sx"
      rw [lit_S " turn "]
      walk_at "sx"
      refine x_strI (small_log (by omega) (by omega)) ?_
      rw [num_S (show 0 ≤ x.turn by omega)]
      walk_at "sx"
      simp only [List.append_assoc]
      rw [staA_line]
      refine x_app hqa (by simp only [List.length_map, List.length_append, List.length_cons, List.length_nil]; omega) ?_
      refine ⟨_, _, _, _, _, _, _, _, _, _, _, same_mut sa hq, ?_, rfl⟩
      exact app_line hxs rfl
    rintro σ H1 ⟨v2, v3, v4, v5, v6, v7, v8, v9, v10, v11, v12, s1, hq1, rfl⟩
    have eall : (W.stas.take (bs.map V.ref).length) = W.stas := List.take_of_length_le (by rw [List.length_map, D.e2.1]; exact Nat.le_refl _)
    rw [eall] at hq1
    clear hq0 s0 DD hll eall
    have s0 := s1
    have hq0 : H1 q = some (.lst (txts (([lineOf (horW W.hor)] ++ (W.sats.map (fun x => lineOf (satW x))) ) ++ (W.stas.map (fun x => lineOf (staW x))) ++ []))) := by
      rw [List.append_nil]
      exact hq1
    clear hq1 s1
    walk_at "sx"
    refine x_dget ?_
    have DD := D.same s0
    walk_at "sx"
    refine x_dgetE DD.o (dv_recordings _ _ _ _ _) ?_
    have hll := DD.h3
    walk_at "sx"
    refine for_gen (walk_list (K := K) (a := l3) (xs := cs.map V.ref)) (fun i σ H' => ∃ v2 v3 v4 v5 v6 v7 v8 v9 v10 v11 v12 : Option V, Same H H' ∧ H' q = some (.lst (txts ((([lineOf (horW W.hor)] ++ (W.sats.map (fun x => lineOf (satW x))) ) ++ (W.stas.map (fun x => lineOf (staW x))) ) ++ ((W.recs.take i).map (fun x => lineOf (recW W.sn x)))))) ∧ σ = [some (.ref d), some (.ref q), v2, v3, v4, v5, v6, v7, v8, v9, v10, v11, v12]) ?_ ?_ ?_ ?_
    · exact ⟨_, _, _, _, _, _, _, _, _, _, _, s0, hq0, rfl⟩
    · rintro i σ H' _ ⟨_, _, _, _, _, _, _, _, _, _, _, sH, _⟩
      exact SqL.of (sH _ _ D.h3)
    · rintro i y σ _ Ha hi ⟨v2, v3, v4, v5, v6, v7, v8, v9, v10, v11, v12, sa, hqa, rfl⟩ ⟨rfl, hx⟩
      rw [List.getElem?_map] at hx
      rw [List.length_map] at hi
      obtain ⟨b, hb⟩ : ∃ b, cs[i]? = some b := ⟨cs[i], List.getElem?_eq_getElem hi⟩
      rw [hb] at hx
      have hx := Option.some.inj hx
      subst hx
      obtain ⟨x, hxs⟩ : ∃ x, W.recs[i]? = some x := ⟨W.recs[i]'(by rw [← D.e3.1]; exact hi), List.getElem?_eq_getElem _⟩
      have few : (W.recs.take i).length ≤ 10 := by
        rw [List.length_take]
        have := wok.nsat
        have := wok.nsta
        have := wok.nrec
        have := wok.npas
        omega
      have f1 := wok.nsat
      have f2 := wok.nsta
      have f3 := wok.nrec
      have f4 := wok.npas
      have tx := (D.e3.2 i b x hb hxs).tp (Tp.same sa)
      obtain ⟨nt, ut, t1, t2, t3⟩ := tx
      have okx := wok.recs x (List.mem_of_getElem? hxs)
      have lok1 : LineOk (recW W.sn x) := recW_ok hh.2 (by unfold Wd.sn; rw [List.length_map]; exact okx) wok.sn
      walk_at "sx"
      refine x_dget ?_
      have Da := D.same sa
      walk_at "sx"
      refine x_dgetE Da.o (dv_satellites _ _ _ _ _) ?_
      obtain ⟨sb, sx, gb, gx, ⟨g1, g2, g3, g4, _⟩, gn⟩ := hsn x.sat okx.sat
      have hl1 := Da.h1
      have g4 := sa _ _ g4
      have at1 : atI (as.map V.ref) (x.sat : Int) = some (V.ref sb) := atI_nat (by rw [List.getElem?_map, gb]; rfl)
      have at2 : atI [V.str (S sx.name), V.ref g1, V.ref g2] 0 = some (V.str (S sx.name)) := atI_nat (j := 0) rfl
      walk_at "sx"
      refine ⟨show 4 ≤ sizeLine by decide, fun wl hwl' => ?_⟩
      have hwl : Ha wl = none := hwl'
      rw [lit_S "recording", lit_S "by", ← gn]
      have sw : Same Ha (upd Ha wl (.lst [V.str (S (lit "recording")), V.str (S x.name), V.str (S (lit "by")), V.str (S (W.sn.getD x.sat []))])) := same_upd (Same.refl _) hwl
      have hw0 : upd Ha wl (.lst [V.str (S (lit "recording")), V.str (S x.name), V.str (S (lit "by")), V.str (S (W.sn.getD x.sat []))]) wl = some (.lst (txts ((recW W.sn x).take (4 + 2 * 0)))) := upd_same
      generalize upd Ha wl (.lst [V.str (S (lit "recording")), V.str (S x.name), V.str (S (lit "by")), V.str (S (W.sn.getD x.sat []))]) = Hw at sw hw0 ⊢
      walk_at "sx"
      refine x_rng1E (by decide) (by decide) ?_
      refine for_gen (walk_range (lo := 0) (n := (5 : Int).toNat)) (fun k σ H' => ∃ u6 : Option V, Same Ha H' ∧ H' wl = some (.lst (txts ((recW W.sn x).take (4 + 2 * k)))) ∧ σ = [some (.ref d), some (.ref q), some (.str (S x.name)), some (.ref nt), v4, some (.ref wl), u6, v7, v8, v9, some (.int (x.sat : Int)), some (.ref ut), v12]) ?_ ?_ ?_ ?_
      · exact ⟨_, sw, hw0, rfl⟩
      · intros
        trivial
      · rintro k y σ Hc _ hk ⟨u6, sc, hwc, rfl⟩ ⟨rfl, rfl⟩
        have hk : k < 5 := hk
        obtain ⟨key, n, e1, e2, e3, e4, e5, e6⟩ := word_RecA W.sn x okx hh.2 hk
        have hnt := sc _ _ t2
        walk_at "sx"
        refine ⟨show 5 ≤ sizeLine by decide, fun c1 hc1 => ?_⟩
        have hnt1 := (upd_ne (o := .lst [V.str (Str.ofString "from"), V.str (Str.ofString "to"), V.str (Str.ofString "length"), V.str (Str.ofString "size"), V.str (Str.ofString "energy")]) (ne_of_none hnt hc1)).trans hnt
        walk_at "sx"
        refine x_strI (small_log e5 e6) ?_
        walk_at "sx"
        refine ⟨show 2 ≤ sizeLine by decide, fun c2 hc2 => ?_⟩
        rw [num_S e5, lit_S key]
        have hw1 := (upd_ne (o := .lst [V.str (Str.ofString "from"), V.str (Str.ofString "to"), V.str (Str.ofString "length"), V.str (Str.ofString "size"), V.str (Str.ofString "energy")]) (ne_of_none hwc hc1)).trans hwc
        have hw2 := (upd_ne (o := .lst [V.str (S (lit key)), V.str (S (num n))]) (ne_of_none hw1 hc2)).trans hw1
        have sy := same_upd (o := .lst [V.str (S (lit key)), V.str (S (num n))]) (same_upd (o := .lst [V.str (Str.ofString "from"), V.str (Str.ofString "to"), V.str (Str.ofString "length"), V.str (Str.ofString "size"), V.str (Str.ofString "energy")]) sc hc1) hc2
        walk_at "sx"
        refine x_ext hw2 upd_same (by rw [List.length_map, List.length_take]; show _ + 2 ≤ _; omega) ?_
        exact ⟨_, same_mut sy hwl, by rw [show 4 + 2 * (k + 1) = 4 + 2 * k + 2 from by omega, take_two e3 e4, txts_app]; exact upd_same, rfl⟩
      rintro σ H5 ⟨u6, s5, hw5, rfl⟩
      walk_at "sx"
      refine x_rng1E (by decide) (by decide) ?_
      refine for_gen (walk_range (lo := 0) (n := (3 : Int).toNat)) (fun k σ H' => ∃ u6 : Option V, Same Ha H' ∧ H' wl = some (.lst (txts ((recW W.sn x).take (14 + 2 * k)))) ∧ σ = [some (.ref d), some (.ref q), some (.str (S x.name)), some (.ref nt), v4, some (.ref wl), u6, v7, v8, v9, some (.int (x.sat : Int)), some (.ref ut), v12]) ?_ ?_ ?_ ?_
      · exact ⟨_, s5, hw5, rfl⟩
      · intros
        trivial
      · rintro k y σ Hc _ hk ⟨u6, sc, hwc, rfl⟩ ⟨rfl, rfl⟩
        have hk : k < 3 := hk
        obtain ⟨key, n, e1, e2, e3, e4, e5, e6⟩ := word_RecB W.sn x okx hh.2 hk
        have hnt := sc _ _ t3
        walk_at "sx"
        refine ⟨show 3 ≤ sizeLine by decide, fun c1 hc1 => ?_⟩
        have hnt1 := (upd_ne (o := .lst [V.str (Str.ofString "worth"), V.str (Str.ofString "rank"), V.str (Str.ofString "until")]) (ne_of_none hnt hc1)).trans hnt
        walk_at "sx"
        refine x_strI (small_log e5 e6) ?_
        walk_at "sx"
        refine ⟨show 2 ≤ sizeLine by decide, fun c2 hc2 => ?_⟩
        rw [num_S e5, lit_S key]
        have hw1 := (upd_ne (o := .lst [V.str (Str.ofString "worth"), V.str (Str.ofString "rank"), V.str (Str.ofString "until")]) (ne_of_none hwc hc1)).trans hwc
        have hw2 := (upd_ne (o := .lst [V.str (S (lit key)), V.str (S (num n))]) (ne_of_none hw1 hc2)).trans hw1
        have sy := same_upd (o := .lst [V.str (S (lit key)), V.str (S (num n))]) (same_upd (o := .lst [V.str (Str.ofString "worth"), V.str (Str.ofString "rank"), V.str (Str.ofString "until")]) sc hc1) hc2
        walk_at "sx"
        refine x_ext hw2 upd_same (by rw [List.length_map, List.length_take]; show _ + 2 ≤ _; omega) ?_
        exact ⟨_, same_mut sy hwl, by rw [show 14 + 2 * (k + 1) = 14 + 2 * k + 2 from by omega, take_two e3 e4, txts_app]; exact upd_same, rfl⟩
      rintro σ H7 ⟨u6, s7, hw7, rfl⟩
      walk_at "sx"
      have et : (recW W.sn x).take (14 + 2 * (3 : Int).toNat) = recW W.sn x := List.take_of_length_le (Nat.le_refl 20)
      rw [et] at hw7
      have hqn := s7 _ _ hqa
      walk_at "sx"
      refine x_joinZ hw7 S_space (line_few lok1) ?_
      rw [join_S]
      walk_at "sx"
      refine x_app hqn (by simp only [List.length_map, List.length_append, List.length_cons, List.length_nil]; omega) ?_
      refine ⟨_, _, _, _, _, _, _, _, _, _, _, same_mut (sa.trans s7) hq, ?_, rfl⟩
      exact app_line hxs rfl
    rintro σ H1 ⟨v2, v3, v4, v5, v6, v7, v8, v9, v10, v11, v12, s1, hq1, rfl⟩
    have eall : (W.recs.take (cs.map V.ref).length) = W.recs := List.take_of_length_le (by rw [List.length_map, D.e3.1]; exact Nat.le_refl _)
    rw [eall] at hq1
    clear hq0 s0 DD hll eall
    have s0 := s1
    have hq0 : H1 q = some (.lst (txts ((([lineOf (horW W.hor)] ++ (W.sats.map (fun x => lineOf (satW x))) ) ++ (W.stas.map (fun x => lineOf (staW x))) ) ++ (W.recs.map (fun x => lineOf (recW W.sn x))) ++ []))) := by
      rw [List.append_nil]
      exact hq1
    clear hq1 s1
    walk_at "sx"
    refine x_dget ?_
    have DD := D.same s0
    walk_at "sx"
    refine x_dgetE DD.o (dv_passes _ _ _ _ _) ?_
    have hll := DD.h4
    walk_at "sx"
    refine for_gen (walk_list (K := K) (a := l4) (xs := ps.map V.ref)) (fun i σ H' => ∃ v2 v3 v4 v5 v6 v7 v8 v9 v10 v11 v12 : Option V, Same H H' ∧ H' q = some (.lst (txts (((([lineOf (horW W.hor)] ++ (W.sats.map (fun x => lineOf (satW x))) ) ++ (W.stas.map (fun x => lineOf (staW x))) ) ++ (W.recs.map (fun x => lineOf (recW W.sn x)))) ++ ((W.pass.take i).map (fun x => lineOf (pasW W.sn W.tn x)))))) ∧ σ = [some (.ref d), some (.ref q), v2, v3, v4, v5, v6, v7, v8, v9, v10, v11, v12]) ?_ ?_ ?_ ?_
    · exact ⟨_, _, _, _, _, _, _, _, _, _, _, s0, hq0, rfl⟩
    · rintro i σ H' _ ⟨_, _, _, _, _, _, _, _, _, _, _, sH, _⟩
      exact SqL.of (sH _ _ D.h4)
    · rintro i y σ _ Ha hi ⟨v2, v3, v4, v5, v6, v7, v8, v9, v10, v11, v12, sa, hqa, rfl⟩ ⟨rfl, hx⟩
      rw [List.getElem?_map] at hx
      rw [List.length_map] at hi
      obtain ⟨b, hb⟩ : ∃ b, ps[i]? = some b := ⟨ps[i], List.getElem?_eq_getElem hi⟩
      rw [hb] at hx
      have hx := Option.some.inj hx
      subst hx
      obtain ⟨x, hxs⟩ : ∃ x, W.pass[i]? = some x := ⟨W.pass[i]'(by rw [← D.e4.1]; exact hi), List.getElem?_eq_getElem _⟩
      have few : (W.pass.take i).length ≤ 10 := by
        rw [List.length_take]
        have := wok.nsat
        have := wok.nsta
        have := wok.nrec
        have := wok.npas
        omega
      have f1 := wok.nsat
      have f2 := wok.nsta
      have f3 := wok.nrec
      have f4 := wok.npas
      have tx := (D.e4.2 i b x hb hxs).tp (Tp.same sa)
      obtain ⟨sp, nt, t1, t2, t3⟩ := tx
      have okx := wok.pass x (List.mem_of_getElem? hxs)
      have lok1 : LineOk (pasW W.sn W.tn x) := pasW_ok hh.2 (by unfold Wd.sn Wd.tn; rw [List.length_map, List.length_map]; exact okx) wok.sn wok.tn
      have osp := okx.span
      walk_at "sx"
      refine x_dget ?_
      have Da := D.same sa
      walk_at "sx"
      refine x_dgetE Da.o (dv_satellites _ _ _ _ _) ?_
      obtain ⟨sb, sx, gb, gx, ⟨g1, g2, g3, g4, _⟩, gn⟩ := hsn x.sat okx.sat
      have hl1 := Da.h1
      have g4 := sa _ _ g4
      have at1 : atI (as.map V.ref) (x.sat : Int) = some (V.ref sb) := atI_nat (by rw [List.getElem?_map, gb]; rfl)
      have at2 : atI [V.str (S sx.name), V.ref g1, V.ref g2] 0 = some (V.str (S sx.name)) := atI_nat (j := 0) rfl
      walk_at "sx"
      refine x_dget ?_
      walk_at "sx"
      refine x_dgetE Da.o (dv_stations _ _ _ _ _) ?_
      obtain ⟨tb, ty, ub, ux, uT, un⟩ := htn x.sta okx.sta
      have hl2 := Da.h2
      have uT : Ha tb = some (.tup [.str (S ty.name), .int ty.ant, .int ty.turn]) := sa _ _ uT
      have at3 : atI (bs.map V.ref) (x.sta : Int) = some (V.ref tb) := atI_nat (by rw [List.getElem?_map, ub]; rfl)
      have at4 : atI [V.str (S ty.name), V.int ty.ant, V.int ty.turn] 0 = some (V.str (S ty.name)) := atI_nat (j := 0) rfl
      walk_at "sx"
      refine ⟨show 6 ≤ sizeLine by decide, fun wl hwl' => ?_⟩
      have hwl : Ha wl = none := hwl'
      rw [lit_S "pass", lit_S "by", lit_S "over", ← gn, ← un]
      have sw : Same Ha (upd Ha wl (.lst [V.str (S (lit "pass")), V.str (S x.name), V.str (S (lit "by")), V.str (S (W.sn.getD x.sat [])), V.str (S (lit "over")), V.str (S (W.tn.getD x.sta []))])) := same_upd (Same.refl _) hwl
      have hw0 : upd Ha wl (.lst [V.str (S (lit "pass")), V.str (S x.name), V.str (S (lit "by")), V.str (S (W.sn.getD x.sat [])), V.str (S (lit "over")), V.str (S (W.tn.getD x.sta []))]) wl = some (.lst [V.str (S (lit "pass")), V.str (S x.name), V.str (S (lit "by")), V.str (S (W.sn.getD x.sat [])), V.str (S (lit "over")), V.str (S (W.tn.getD x.sta []))]) := upd_same
      generalize upd Ha wl (.lst [V.str (S (lit "pass")), V.str (S x.name), V.str (S (lit "by")), V.str (S (W.sn.getD x.sat [])), V.str (S (lit "over")), V.str (S (W.tn.getD x.sta []))]) = Hw at sw hw0 ⊢
      have hsp := sw _ _ t2
      have i0 : atI [V.int x.first, V.int x.last] 0 = some (V.int x.first) := atI_nat (j := 0) rfl
      have i1 : atI [V.int x.first, V.int x.last] 1 = some (V.int x.last) := atI_nat (j := 1) rfl
      walk_at "sx"
      refine x_strI (small_log (by omega) (by omega)) ?_
      walk_at "sx"
      refine x_strI (small_log (by omega) (by omega)) ?_
      walk_at "sx"
      refine ⟨show 4 ≤ sizeLine by decide, fun c2 hc2 => ?_⟩
      rw [num_S (show 0 ≤ x.first by omega), num_S (show 0 ≤ x.last by omega), lit_S "from", lit_S "to"]
      have hw2 := (upd_ne (o := .lst [V.str (S (lit "from")), V.str (S (num x.first)), V.str (S (lit "to")), V.str (S (num x.last))]) (ne_of_none hw0 hc2)).trans hw0
      walk_at "sx"
      refine x_ext hw2 upd_same (show 6 + 4 ≤ 100000 by decide) ?_
      have sw2 := same_mut (o := .lst ([V.str (S (lit "pass")), V.str (S x.name), V.str (S (lit "by")), V.str (S (W.sn.getD x.sat [])), V.str (S (lit "over")), V.str (S (W.tn.getD x.sta []))] ++ [V.str (S (lit "from")), V.str (S (num x.first)), V.str (S (lit "to")), V.str (S (num x.last))])) (same_upd (o := .lst [V.str (S (lit "from")), V.str (S (num x.first)), V.str (S (lit "to")), V.str (S (num x.last))]) sw hc2) hwl
      have hw3 : upd (upd Hw c2 (.lst [V.str (S (lit "from")), V.str (S (num x.first)), V.str (S (lit "to")), V.str (S (num x.last))])) wl (.lst ([V.str (S (lit "pass")), V.str (S x.name), V.str (S (lit "by")), V.str (S (W.sn.getD x.sat [])), V.str (S (lit "over")), V.str (S (W.tn.getD x.sta []))] ++ [V.str (S (lit "from")), V.str (S (num x.first)), V.str (S (lit "to")), V.str (S (num x.last))])) wl = some (.lst (txts ((pasW W.sn W.tn x).take (10 + 2 * 0)))) := upd_same
      generalize upd (upd Hw c2 (.lst [V.str (S (lit "from")), V.str (S (num x.first)), V.str (S (lit "to")), V.str (S (num x.last))])) wl (.lst ([V.str (S (lit "pass")), V.str (S x.name), V.str (S (lit "by")), V.str (S (W.sn.getD x.sat [])), V.str (S (lit "over")), V.str (S (W.tn.getD x.sta []))] ++ [V.str (S (lit "from")), V.str (S (num x.first)), V.str (S (lit "to")), V.str (S (num x.last))])) = Hv at sw2 hw3 ⊢
      walk_at "sx"
      refine x_rng1E (by decide) (by decide) ?_
      refine for_gen (walk_range (lo := 0) (n := (3 : Int).toNat)) (fun k σ H' => ∃ u6 : Option V, Same Ha H' ∧ H' wl = some (.lst (txts ((pasW W.sn W.tn x).take (10 + 2 * k)))) ∧ σ = [some (.ref d), some (.ref q), some (.str (S x.name)), some (.ref nt), v4, some (.ref wl), u6, some (.ref sp), v8, v9, some (.int (x.sat : Int)), v11, some (.int (x.sta : Int))]) ?_ ?_ ?_ ?_
      · exact ⟨_, sw2, hw3, rfl⟩
      · intros
        trivial
      · rintro k y σ Hc _ hk ⟨u6, sc, hwc, rfl⟩ ⟨rfl, rfl⟩
        have hk : k < 3 := hk
        obtain ⟨key, n, e1, e2, e3, e4, e5, e6⟩ := word_Pas W.sn W.tn x okx hh.2 hk
        have hnt := sc _ _ t3
        walk_at "sx"
        refine ⟨show 3 ≤ sizeLine by decide, fun c1 hc1 => ?_⟩
        have hnt1 := (upd_ne (o := .lst [V.str (Str.ofString "room"), V.str (Str.ofString "energy"), V.str (Str.ofString "fee")]) (ne_of_none hnt hc1)).trans hnt
        walk_at "sx"
        refine x_strI (small_log e5 e6) ?_
        walk_at "sx"
        refine ⟨show 2 ≤ sizeLine by decide, fun c2 hc2 => ?_⟩
        rw [num_S e5, lit_S key]
        have hw1 := (upd_ne (o := .lst [V.str (Str.ofString "room"), V.str (Str.ofString "energy"), V.str (Str.ofString "fee")]) (ne_of_none hwc hc1)).trans hwc
        have hw2 := (upd_ne (o := .lst [V.str (S (lit key)), V.str (S (num n))]) (ne_of_none hw1 hc2)).trans hw1
        have sy := same_upd (o := .lst [V.str (S (lit key)), V.str (S (num n))]) (same_upd (o := .lst [V.str (Str.ofString "room"), V.str (Str.ofString "energy"), V.str (Str.ofString "fee")]) sc hc1) hc2
        walk_at "sx"
        refine x_ext hw2 upd_same (by rw [List.length_map, List.length_take]; show _ + 2 ≤ _; omega) ?_
        exact ⟨_, same_mut sy hwl, by rw [show 10 + 2 * (k + 1) = 10 + 2 * k + 2 from by omega, take_two e3 e4, txts_app]; exact upd_same, rfl⟩
      rintro σ H7 ⟨u6, s7, hw7, rfl⟩
      walk_at "sx"
      have et : (pasW W.sn W.tn x).take (10 + 2 * (3 : Int).toNat) = pasW W.sn W.tn x := List.take_of_length_le (Nat.le_refl 16)
      rw [et] at hw7
      have hqn := s7 _ _ hqa
      walk_at "sx"
      refine x_joinZ hw7 S_space (line_few lok1) ?_
      rw [join_S]
      walk_at "sx"
      refine x_app hqn (by simp only [List.length_map, List.length_append, List.length_cons, List.length_nil]; omega) ?_
      refine ⟨_, _, _, _, _, _, _, _, _, _, _, same_mut (sa.trans s7) hq, ?_, rfl⟩
      exact app_line hxs rfl
    rintro σ H1 ⟨v2, v3, v4, v5, v6, v7, v8, v9, v10, v11, v12, s1, hq1, rfl⟩
    have eall : (W.pass.take (ps.map V.ref).length) = W.pass := List.take_of_length_le (by rw [List.length_map, D.e4.1]; exact Nat.le_refl _)
    rw [eall] at hq1
    clear hq0 s0 DD hll eall
    have s0 := s1
    have hq0 : H1 q = some (.lst (txts (((([lineOf (horW W.hor)] ++ (W.sats.map (fun x => lineOf (satW x))) ) ++ (W.stas.map (fun x => lineOf (staW x))) ) ++ (W.recs.map (fun x => lineOf (recW W.sn x)))) ++ (W.pass.map (fun x => lineOf (pasW W.sn W.tn x))) ++ []))) := by
      rw [List.append_nil]
      exact hq1
    clear hq1 s1
    walk_at "sx"
    have ea : (worldW W).map lineOf = (((([lineOf (horW W.hor)] ++ (W.sats.map (fun x => lineOf (satW x))) ) ++ (W.stas.map (fun x => lineOf (staW x))) ) ++ (W.recs.map (fun x => lineOf (recW W.sn x)))) ++ (W.pass.map (fun x => lineOf (pasW W.sn W.tn x))) ++ []) := by
      unfold worldW restW
      simp [Function.comp_def]
    rw [← ea] at hq0
    exact k _ q s0 hq0
end
end Dp
namespace Dp
open PySem PySem.Spec PyProof.Rows L2 SX
/-! ### the law -/
def spLText : Sp := fun vs H Q _ => ∃ (d l1 l2 l3 l4 : Addr) (as bs cs ps : List Addr) (W : Wd), vs = [.ref d] ∧ WdF H d l1 l2 l3 l4 as bs cs ps W ∧ WOk W ∧ ∀ H' : Hp, Same H H' → Q (.str (S (textOf W))) H'
def spSame : Sp := fun vs H Q _ => (∃ a b : Str, vs = [.str a, .str b] ∧ Q (.bl (decide (a = b))) H) ∨ ∃ a b : Bool, vs = [.bl a, .bl b] ∧ Q (.bl (decide (a = b))) H
section
variable {P : Program} {w : World} {K : PySem.W.Frag} {mg : Str → Option Value} {base : Heap}
theorem sc_law_text : FnScope ["_law_world_here", "_law_line"] ["_law_world_here"] (defScope s_law_text) := ⟨rfl, rfl, rfl, by decide +kernel, rfl, by decide +kernel, by decide +kernel⟩
theorem ok_law_text (T : Tx K mg) (k_law_lines : C8.Cal P w K mg base 1 "_law_lines" spLines []) : C8.Cal P w K mg base 2 "_law_text" spLText [] := by
  obtain ⟨fd, F⟩ := T.f_law_text
  refine calOf F T.glo__law_text (F.bindsN (ps := ["_law_world_here"]) fun _ _ _ _ _ _ us hl => match us, hl with | [_], _ => rfl) sc_law_text ?_ ?_
  · rintro vs H Q E ⟨d, l1, l2, l3, l4, as, bs, cs, ps, W, rfl, _⟩
    rfl
  · rintro cdv A outer st H vs Q E hr ⟨d, l1, l2, l3, l4, as, bs, cs, ps, W, rfl, D, ok, k⟩
    refine ⟨_, pss_one (ps_ret (pe_join (pe_str) (pe_lc (own := [("_law_line", 1)]) (tt := tYes) rfl sc_law_text.nd (pi_list (C8.pe_c k_law_lines hr (by decide) (by rfl) (pa_cons (pv 0) pa_nil))) (blkOk_by (own := [("_law_line", 1)]) (N := ["_law_world_here", "_law_line"]) (sc := defScope s_law_text) (by decide +kernel)) (fun _ _ _ _ _ => pg_name (i := 1) sc_law_text.nd rfl (Or.inl rfl)) (fun _ _ _ _ _ => pts_nil) (fun _ _ _ _ _ => pe_op op_add_str (pv 1) (pe_str))))), ?_⟩
    try dsimp only [cxK]
    walk_at "sx"
    refine ⟨d, l1, l2, l3, l4, as, bs, cs, ps, W, rfl, D, ok, fun H1 p s1 hp => ?_⟩
    walk_at "sx"
    refine texts_gen (ls := (worldW W).map lineOf) (f := fun l => l ++ [10]) (by rw [List.length_map]; have := ok.many; omega) hp (fun l H2 k' hl s2 hk => ?_) fun D H' hD s2 hD' => ?_
    · refine ⟨rfl, ?_⟩
      obtain ⟨ws, hws, e⟩ := List.mem_map.mp hl
      have b1 : l.length ≤ 400 := by
        rw [← e]
        exact line_len (ok.lines ws hws)
      have b2 : (lit "\n").length ≤ 1 := by decide +kernel
      walk_at "sx"
      rw [lit_S]
      walk_at "sx"
      have e10 : lit "\n" = [10] := by decide +kernel
      rw [e10]
      exact hk
    refine x_joinE hD' S_empty ?_ ?_
    · rw [List.map_map, List.length_map, List.length_map]
      have z := sum_len ((worldW W).map lineOf) fun l hl => by
        obtain ⟨ws, hws, e⟩ := List.mem_map.mp hl
        rw [← e]
        exact line_len (ok.lines ws hws)
      have := ok.many
      rw [List.length_map, List.map_map] at z
      rw [List.map_map]
      simp only [List.length_nil, Nat.mul_zero]
      exact Nat.le_trans z (by omega)
    · rw [join_glue, ← textOf_glue]
      exact k _ (s1.trans s2)
theorem sc_law_same : FnScope ["_law_actual", "_law_expected", "_law_k"] ["_law_actual", "_law_expected"] (defScope s_law_same) := ⟨rfl, rfl, rfl, by decide +kernel, rfl, by decide +kernel, by decide +kernel⟩
theorem ok_law_same (T : Tx K mg) : C8.Cal P w K mg base 1 "_law_same" spSame [] := by
  obtain ⟨fd, F⟩ := T.f_law_same
  refine calOf F T.glo__law_same (F.bindsN (ps := ["_law_actual", "_law_expected"]) fun _ _ _ _ _ _ us hl => match us, hl with | [_, _], _ => rfl) sc_law_same ?_ ?_
  · rintro vs H Q E (⟨a, b, rfl, _⟩ | ⟨a, b, rfl, _⟩)
    · rfl
    · rfl
  · rintro cdv A outer st H vs Q E hr h
    refine ⟨_, pss_cons (ps_if (pt_cmpR op_isN (pv 1) (pe_non) (nomark _)) (pss_one (ps_never)) (pss_nil))
      (pss_cons (ps_if (pt_val (pe_callB call_isi (by rfl) T.free_isinstance (by decide +kernel) (pa_cons (pv 1) (pa_cons (pe_bltn (v := .ty "bool") (by rfl) T.free_bool (by decide +kernel) rfl) pa_nil)))) (pss_one (ps_ret (pe_and (pe_callB call_isi (by rfl) T.free_isinstance (by decide +kernel) (pa_cons (pv 0) (pa_cons (pe_bltn (v := .ty "bool") (by rfl) T.free_bool (by decide +kernel) rfl) pa_nil))) (pe_one (pe_cmpR op_eq (pv 0) (pv 1) (nomark _)))))) (pss_nil))
      (pss_cons (ps_if (pt_val (pe_callB call_isi (by rfl) T.free_isinstance (by decide +kernel) (pa_cons (pv 1) (pa_cons (pe_bltn (v := .ty "int") (by rfl) T.free_int (by decide +kernel) rfl) pa_nil)))) (pss_one (ps_never)) (pss_nil))
      (pss_cons (ps_if (pt_val (pe_callB call_isi (by rfl) T.free_isinstance (by decide +kernel) (pa_cons (pv 1) (pa_cons (pe_bltn (v := .ty "str") (by rfl) T.free_str (by decide +kernel) rfl) pa_nil)))) (pss_one (ps_ret (pe_and (pe_callB call_isi (by rfl) T.free_isinstance (by decide +kernel) (pa_cons (pv 0) (pa_cons (pe_bltn (v := .ty "str") (by rfl) T.free_str (by decide +kernel) rfl) pa_nil))) (pe_one (pe_cmpR op_eq (pv 0) (pv 1) (nomark _)))))) (pss_nil))
      (pss_cons (ps_never)
      (pss_cons (ps_never)
      (pss_cons (ps_never)
      (pss_cons (ps_never)
      (pss_one (ps_never))))))))), ?_⟩
    try dsimp only [cxK]
    rcases h with ⟨a, b, rfl, k⟩ | ⟨a, b, rfl, k⟩
    · walk_at "sx"
      refine ⟨rfl, ?_⟩
      walk_at "sx"
      refine x_nay (decide_eq_false (by intro q; cases q)) ?_
      walk_at "sx"
      refine ⟨_, _, _, _, false, rfl, .ty _, .base (.str b), kit_ty (by decide +kernel), ?_⟩
      walk_at "sx"
      refine x_nay rfl ?_
      walk_at "sx"
      refine ⟨_, _, _, _, false, rfl, .ty _, .base (.str b), kit_ty (by decide +kernel), ?_⟩
      walk_at "sx"
      refine x_nay rfl ?_
      walk_at "sx"
      refine ⟨_, _, _, _, true, rfl, .ty _, .base (.str b), kit_ty (by decide +kernel), ?_⟩
      walk_at "sx"
      refine x_yes rfl ?_
      walk_at "sx"
      refine ⟨_, _, _, _, true, rfl, .ty _, .base (.str a), kit_ty (by decide +kernel), ?_⟩
      walk_at "sx"
      refine x_yes rfl ?_
      walk_at "sx"
      have e : decide (V.str a = V.str b) = decide (a = b) := decide_eq_decide.mpr ⟨fun q => V.str.inj q, fun q => by rw [q]⟩
      rw [e]
      exact k
    · walk_at "sx"
      refine ⟨rfl, ?_⟩
      walk_at "sx"
      refine x_nay (decide_eq_false (by intro q; cases q)) ?_
      walk_at "sx"
      refine ⟨_, _, _, _, true, rfl, .ty _, .base (.bl b), kit_ty (by decide +kernel), ?_⟩
      walk_at "sx"
      refine x_yes rfl ?_
      walk_at "sx"
      refine ⟨_, _, _, _, true, rfl, .ty _, .base (.bl a), kit_ty (by decide +kernel), ?_⟩
      walk_at "sx"
      refine x_yes rfl ?_
      walk_at "sx"
      have e : decide (V.bl a = V.bl b) = decide (a = b) := decide_eq_decide.mpr ⟨fun q => V.bl.inj q, fun q => by rw [q]⟩
      rw [e]
      exact k
end
end Dp
namespace Dp
open PySem PySem.Spec PyProof.Rows L2 SX
/-! ### the law itself -/
def spLaw (K : PySem.W.Frag) : Sp := fun vs H Q _ => ∃ (a : Addr) (ns : List Int), vs = [.ref a] ∧ SqL K H a (ns.map V.int) ∧ ∀ H' : Hp, Q (.bl true) H'
theorem cut_one (ns : List Int) : cutV (ns.map V.int) (some 1) none = (ns.drop 1).map V.int := by
  unfold cutV
  rw [HT.sIx_none]
  have e1 : HT.sIx (ns.map V.int).length 0 (some 1) = min 1 ns.length := by
    have z := HT.sIx_nat (ns.map V.int).length 0 1
    rw [List.length_map] at z ⊢
    exact z
  rw [e1, List.take_of_length_le (by rw [List.length_drop]; exact Nat.le_refl _), List.map_drop]
  cases ns with
  | nil => rfl
  | cons n r => rw [Nat.min_eq_left (by rw [List.length_cons]; omega)]
section
variable {P : Program} {w : World} {K : PySem.W.Frag} {mg : Str → Option Value} {base : Heap}
theorem sc_law : FnScope ["_law_script", "_law_texts", "_law_worlds", "_law_k", "_law_again", "_law_j", "_law_text_here"] ["_law_script"] (defScope s_law) := ⟨rfl, rfl, rfl, by decide +kernel, rfl, by decide +kernel, by decide +kernel⟩
theorem ok_law (T : Tx K mg) {fd : FuncData} (F : FunD K "law" "law" (defArgs s_law) (defBody s_law) (defScope s_law) (d_law.dvs K) [] (d_law.at_ K) fd) (k_World_eq : C8.Met P w K mg base 1 (cWorld K) "__eq__" (spWEq K) [])
    (kp : ∃ fd, FnOk P w K mg base C8.CX0 7 (d_World_parse.at_ K) fd ["text"] (spParse K) ∧ Binds K fd ["text"] [] ∧ PySem.W.keepIn K (.ref (d_World_parse.at_ K)) = true)
    (k_law_world : C8.Cal P w K mg base 4 "_law_world" (spLWorld K) []) (k_law_greater : C8.Cal P w K mg base 3 "_law_greater" (spGreater K) []) (k_law_text : C8.Cal P w K mg base 2 "_law_text" spLText []) (k_law_same : C8.Cal P w K mg base 1 "_law_same" spSame []) :
    FnOk P w K mg base C8.CX0 8 (d_law.at_ K) fd ["_law_script"] (spLaw K) := by
  obtain ⟨fdP, k_parse, PARSE_B, PARSE_KP⟩ := kp
  obtain ⟨fE, fdE, psE, dsE, cE, meE, FE, bE, dE⟩ := k_World_eq
  cases dE
  refine F.ok sc_law ?_ ?_
  · rintro vs H Q E ⟨a, ns, rfl, _⟩
    rfl
  · rintro cdv A outer st H vs Q E hr ⟨a, ns, rfl, ha, k⟩
    refine ⟨_, PSs.nox (pss_cons (ps_set (i := 1) sc_law.nd rfl (Or.inl rfl) (pe_lst (pa_cons (C8.pe_c k_law_text hr (by decide) (by rfl) (pa_cons (C8.pe_c k_law_greater hr (by decide) (by rfl) (pa_cons (pv 0) (pa_cons (pe_int) (pa_cons (C8.pe_c k_law_world hr (by decide) (by rfl) (pa_cons (pv 0) pa_nil)) pa_nil)))) pa_nil)) (pa_cons (C8.pe_c k_law_text hr (by decide) (by rfl) (pa_cons (C8.pe_c k_law_world hr (by decide) (by rfl) (pa_cons (pv 0) pa_nil)) pa_nil)) (pa_cons (C8.pe_c k_law_text hr (by decide) (by rfl) (pa_cons (C8.pe_c k_law_world hr (by decide) (by rfl) (pa_cons (pe_slice sl_list (pv 0) (po_some (pe_int)) po_none) pa_nil)) pa_nil)) pa_nil)))))
      (pss_cons (ps_setLc (i := 2) (own := [("_law_text_here", 6)]) (tt := tYes) rfl sc_law.nd rfl rfl (sw_true rfl rfl rfl (by decide +kernel)) (pi_list (pv 1)) (blkOk_by (own := [("_law_text_here", 6)]) (N := ["_law_script", "_law_texts", "_law_worlds", "_law_k", "_law_again", "_law_j", "_law_text_here"]) (sc := defScope s_law) (by decide +kernel)) (fun _ _ _ _ _ => pg_name (i := 6) sc_law.nd rfl (Or.inl rfl)) (fun _ _ _ _ _ => pts_nil) (fun _ _ _ _ _ => pe_stat (E := C8.E0) (pe_glob (v := .ref (cWorld K)) (by rfl) T.glo_World rfl) T.cread T.parse_at.1 T.parse_at.2 PARSE_KP k_parse hr PARSE_B C8.pass0 (pa_cons (pv 6) pa_nil)))
      (pss_cons (ps_for PassesOwn.never rfl (pi_range1 (by rfl) T.free_range (pa_cons (pe_int) pa_nil)) (pg_name (i := 3) sc_law.nd rfl (Or.inl rfl))
        (pss_cons (ps_if (pt_not (pt_val (C8.pe_c k_law_same hr (by decide) (by rfl) (pa_cons (pe_fld (pe_ix ix_list (pv 2) (pv 3) (fun _ _ => rfl)) rfl) (pa_cons (pe_ix ix_list (pv 1) (pv 3) (fun _ _ => rfl)) pa_nil))))) (pss_one (ps_ret (pe_bl))) (pss_nil))
        (pss_cons (ps_set (i := 4) sc_law.nd rfl (Or.inl rfl) (pe_stat (E := C8.E0) (pe_glob (v := .ref (cWorld K)) (by rfl) T.glo_World rfl) T.cread T.parse_at.1 T.parse_at.2 PARSE_KP k_parse hr PARSE_B C8.pass0 (pa_cons (pe_fld (pe_ix ix_list (pv 2) (pv 3) (fun _ _ => rfl)) rfl) pa_nil)))
        (pss_cons (ps_if (PW.pt (pw_or (pt_not (pt_val (C8.pe_c k_law_same hr (by decide) (by rfl) (pa_cons (pe_fld (pv 4) rfl) (pa_cons (pe_ix ix_list (pv 1) (pv 3) (fun _ _ => rfl)) pa_nil))))) (pw_or1 (pt_not (pt_val (C8.pe_c k_law_same hr (by decide) (by rfl) (pa_cons (pe_cmpR (op_eqOwn FE meE.at_ meE.fn bE C8.pass0 (hr.mono (by decide)) T.insW.sb) (pv 4) (pe_ix ix_list (pv 2) (pv 3) (fun _ _ => rfl)) (nomark _)) (pa_cons (pe_bl) pa_nil)))))))) (pss_one (ps_ret (pe_bl))) (pss_nil))
        (pss_one (ps_for PassesOwn.never rfl (pi_range1 (by rfl) T.free_range (pa_cons (pe_int) pa_nil)) (pg_name (i := 5) sc_law.nd rfl (Or.inl rfl))
          (pss_one (ps_if (pt_not (pt_val (C8.pe_c k_law_same hr (by decide) (by rfl) (pa_cons (pe_cmpR (op_eqOwn FE meE.at_ meE.fn bE C8.pass0 (hr.mono (by decide)) T.insW.sb) (pe_ix ix_list (pv 2) (pv 3) (fun _ _ => rfl)) (pe_ix ix_list (pv 2) (pv 5) (fun _ _ => rfl)) (nomark _)) (pa_cons (pe_cmpR op_eq (pe_ix ix_list (pv 1) (pv 3) (fun _ _ => rfl)) (pe_ix ix_list (pv 1) (pv 5) (fun _ _ => rfl)) (nomark _)) pa_nil))))) (pss_one (ps_ret (pe_bl))) (pss_nil)))))))))
      (pss_one (ps_ret (pe_not (pe_cmpR (op_eqOwn FE meE.at_ meE.fn bE C8.pass0 (hr.mono (by decide)) T.insW.sb) (pe_ix ix_list (pv 2) (pe_int) (fun _ _ => rfl)) (pe_ix ix_list (pv 1) (pe_int) (fun _ _ => rfl)) (nomark _)))))))), ?_⟩
    try dsimp only [cxK]
    walk_at "sx"
    refine ⟨a, ns, rfl, ha, fun H1 d1 l11 l12 l13 l14 as1 bs1 cs1 ps1 W1 s1 D1 ok1 lev1 => ?_⟩
    walk_at "sx"
    refine ⟨a, d1, l11, l12, l13, l14, ns, as1, bs1, cs1, ps1, W1, rfl, SqL_same ha s1, D1, ok1, lev1, fun H2 d2 l21 l22 l23 l24 as2 bs2 cs2 ps2 W2 s2 D2 ok2 => ?_⟩
    walk_at "sx"
    refine ⟨d2, l21, l22, l23, l24, as2, bs2, cs2, ps2, W2, rfl, D2, ok2, fun H3 s3 => ?_⟩
    walk_at "sx"
    have s3' := (s1.trans s2).trans s3
    refine ⟨a, ns, rfl, SqL_same ha s3', fun H4 d3 l31 l32 l33 l34 as3 bs3 cs3 ps3 W3 s4 D3 ok3 _ => ?_⟩
    walk_at "sx"
    refine ⟨d3, l31, l32, l33, l34, as3, bs3, cs3, ps3, W3, rfl, D3, ok3, fun H5 s5 => ?_⟩
    have s5' := (s3'.trans s4).trans s5
    walk_at "sx"
    refine ⟨a, _, rfl, SqL_same ha s5', fun p hp => ?_⟩
    rw [cut_one]
    walk_at "sx"
    refine ⟨p, ns.drop 1, rfl, SqL.of upd_same, fun H6 d4 l41 l42 l43 l44 as4 bs4 cs4 ps4 W4 s6 D4 ok4 _ => ?_⟩
    walk_at "sx"
    refine ⟨d4, l41, l42, l43, l44, as4, bs4, cs4, ps4, W4, rfl, D4, ok4, fun H7 s7 => ?_⟩
    walk_at "sx"
    refine ⟨show 3 ≤ sizeLine by decide, fun t ht => ?_⟩
    have htx : upd H7 t (.lst [V.str (S (textOf W2)), V.str (S (textOf W3)), V.str (S (textOf W4))]) t = some (.lst (txts ([W2, W3, W4].map textOf))) := upd_same
    generalize upd H7 t (.lst [V.str (S (textOf W2)), V.str (S (textOf W3)), V.str (S (textOf W4))]) = H8 at htx ⊢
    have hok : ∀ W ∈ [W2, W3, W4], WOk W := fun W h => by
      simp only [List.mem_cons, List.not_mem_nil, or_false] at h
      rcases h with rfl | rfl | rfl
      · exact ok2
      · exact ok3
      · exact ok4
    have hl3 : [W2, W3, W4].length = 3 := rfl
    generalize [W2, W3, W4] = Ws at htx hok hl3
    clear s1 s2 s3 s3' s4 s5 s5' s6 s7 D1 D2 D3 D4 ok1 ok2 ok3 ok4 lev1 ha ht hp
    walk_at "sx"
    intro D hD
    refine lc_gen (te := fun σ H Q => tC (V.ref (cWorld K)) σ H fun x H1 => x = V.ref (cWorld K) ∧ tCons (tVar 6) tNil σ H1 fun vs H2 => spParse K vs H2 Q C8.E0) (walk_list (K := K) (a := t) (xs := txts (Ws.map textOf))) (by rw [List.length_map, List.length_map]; omega) hD noX (fun _ => True) (fun i y H => ∃ b W', y = V.ref b ∧ TxAt K H b (textOf W') ∧ Ws[i]? = some W') (fun z => z) ?_ trivial
      (fun H' kp _ => SqL.of (rm_of (kp _ _ htx fun z => z)).1) y_at ?_ ?_ (gm_name 6)
    · rintro i y Ha Hb ⟨b, W', e1, e2, e3⟩ kp
      exact ⟨b, W', e1, e2.same (same_kp kp), e3⟩
    · rintro i x Ha Hb k' hi kp _ ⟨acc, hacc⟩ ⟨rfl, hx⟩ hk
      rw [List.length_map, List.length_map, hl3] at hi
      obtain ⟨W', hW⟩ : ∃ W', Ws[i]? = some W' := ⟨Ws[i]'(by omega), List.getElem?_eq_getElem _⟩
      rw [List.getElem?_map, List.getElem?_map, hW] at hx
      have hx := Option.some.inj hx
      subst hx
      refine ⟨rfl, ?_⟩
      walk_at "sx"
      refine ⟨rfl, ?_⟩
      walk_at "sx"
      refine ⟨W', rfl, hok W' (List.mem_of_getElem? hW), fun H9 b s9 tx => ?_⟩
      refine hk _ _ (kp_same s9) trivial ⟨b, W', rfl, ?_, hW⟩
      have nbD : b ≠ D := by
        obtain ⟨dx, fs, g1, g2⟩ := tx
        exact ne_of g1 (s9 _ _ hacc) (by intro q; cases q)
      obtain ⟨dx, fs, g1, g2⟩ := tx
      exact ⟨dx, fs, (rm_at nbD).trans g1, g2⟩
    · rintro ys H9 hlen hD' _ kp hR
      obtain ⟨bs, xs, e1, e2, e3⟩ := things_of (R := fun b W' => TxAt K (rm D H9) b (textOf W')) (C := fun i W' => Ws[i]? = some W') fun i y hy => by
        obtain ⟨b, W', q1, q2, q3⟩ := hR i y hy
        exact ⟨b, W', q1, q2, q3⟩
      have exs : xs.length = 3 := by
        rw [← e2.1]
        have z : ys.length = bs.length := by rw [e1, List.length_map]
        rw [← z, hlen, List.length_map, List.length_map, hl3]
      rw [e1] at hD'
      have ht9 := (rm_of (kp _ _ htx fun z => z)).1
      have tex : ∀ i : Nat, i < 3 → ∃ (b : Addr) (W' : Wd), bs[i]? = some b ∧ Ws[i]? = some W' ∧ TxAt K H9 b (textOf W') := fun i hi => by
        obtain ⟨W', hW⟩ : ∃ W', xs[i]? = some W' := ⟨xs[i]'(by omega), List.getElem?_eq_getElem _⟩
        obtain ⟨b, hb, tx⟩ := e2.at_ hW
        exact ⟨b, W', hb, e3 i W' hW, tx.same rm_same⟩
      clear hR e1 e2 e3 kp
      have ati : ∀ (i : Nat) (b : Addr), bs[i]? = some b → atI (bs.map V.ref) (0 + (i : Int)) = some (V.ref b) := fun i b hb => by
        rw [Int.zero_add]
        exact atI_nat (by rw [List.getElem?_map, hb]; rfl)
      have att : ∀ (i : Nat) (W' : Wd), Ws[i]? = some W' → atI (txts (Ws.map textOf)) (0 + (i : Int)) = some (V.str (S (textOf W'))) := fun i W' hW => by
        rw [Int.zero_add]
        exact atI_txts (by rw [List.getElem?_map, hW]; rfl)
      have eqs : ∀ a b : List Nat, decide (V.str (S a) = V.str (S b)) = decide (a = b) := fun a b => decide_eq_decide.mpr ⟨fun q => S_inj (V.str.inj q), fun q => by rw [q]⟩
      walk_at "sx"
      refine x_rng1E (by decide) (by decide) ?_
      refine for_gen (walk_range (lo := 0) (n := (3 : Int).toNat)) (fun i σ H' => ∃ v3 v4 v5 v6 : Option V, Same H9 H' ∧ σ = [some (.ref a), some (.ref t), some (.ref D), v3, v4, v5, v6]) ⟨_, _, _, _, Same.refl H9, rfl⟩ (fun _ _ _ _ _ => trivial) ?_ ?_
      · rintro i y σ _ Ha hi ⟨v3, v4, v5, v6, sa, rfl⟩ ⟨rfl, rfl⟩
        have hi : i < 3 := hi
        obtain ⟨b, W', hb, hW, tx⟩ := tex i hi
        have a1 := ati i b hb
        have a2 := att i W' hW
        have hta := sa _ _ ht9
        have hDa := sa _ _ hD'
        obtain ⟨dx, fs, g1, g2⟩ := tx.same sa
        walk_at "sx"
        refine .inl ⟨_, _, rfl, ?_⟩
        walk_at "sx"
        refine x_nay (by rw [decide_eq_true rfl]; rfl) ?_
        walk_at "sx"
        refine ⟨rfl, ?_⟩
        walk_at "sx"
        refine ⟨W', rfl, hok W' (List.mem_of_getElem? hW), fun Hb c sc tc => ?_⟩
        obtain ⟨dy, gs, c1, c2⟩ := id tc
        have htb := sc _ _ hta
        have hDb := sc _ _ hDa
        have sb := sa.trans sc
        walk_at "sx"
        refine .inl ⟨_, _, rfl, ?_⟩
        walk_at "sx"
        refine x_nay (by rw [decide_eq_true rfl]; rfl) ?_
        walk_at "sx"
        refine ⟨c, dy, gs, rfl, c1, .inr ⟨b, dx, fs, rfl, sc _ _ g1⟩, c, textOf W', tc, .inr ⟨b, textOf W', rfl, tx.same sb, ⟨_, rfl, ?_⟩⟩⟩
        walk_at "sx"
        refine .inr ⟨_, _, rfl, ?_⟩
        walk_at "sx"
        refine x_nay (by rw [decide_eq_true rfl]; rfl) ?_
        walk_at "sx"
        refine x_rng1E (by decide) (by decide) ?_
        refine for_gen (walk_range (lo := 0) (n := (3 : Int).toNat)) (fun j σ H' => ∃ v5 v6 : Option V, Same H9 H' ∧ σ = [some (.ref a), some (.ref t), some (.ref D), some (.int (0 + (i : Int))), some (.ref c), v5, v6]) ⟨_, _, sb, rfl⟩ (fun _ _ _ _ _ => trivial) ?_ ?_
        · rintro j y σ _ He hj ⟨w5, w6, se, rfl⟩ ⟨rfl, rfl⟩
          have hj : j < 3 := hj
          obtain ⟨b2, W2, hb2, hW2, tx2⟩ := tex j hj
          have a3 := ati j b2 hb2
          have a4 := att j W2 hW2
          have hte := se _ _ ht9
          have hDe := se _ _ hD'
          have t1 := tx.same se
          have t2 := tx2.same se
          obtain ⟨d1, f1, j1, j2⟩ := id t1
          obtain ⟨d2, f2, j3, j4⟩ := id t2
          walk_at "sx"
          refine ⟨b, d1, f1, rfl, j1, .inr ⟨b2, d2, f2, rfl, j3⟩, b, textOf W', t1, .inr ⟨b2, textOf W2, rfl, t2, ⟨_, rfl, ?_⟩⟩⟩
          walk_at "sx"
          rw [eqs]
          refine .inr ⟨_, _, rfl, ?_⟩
          walk_at "sx"
          refine x_nay (by rw [decide_eq_true rfl]; rfl) ?_
          walk_at "sx"
          exact ⟨_, _, se, rfl⟩
        · rintro σ He ⟨w5, w6, se, rfl⟩
          exact ⟨_, _, _, _, se, rfl⟩
      · rintro σ Ha ⟨v3, v4, v5, v6, sa, rfl⟩
        obtain ⟨b, W', hb, hW, tx⟩ := tex 0 (by decide)
        have a1 : atI (bs.map V.ref) 0 = some (V.ref b) := ati 0 b hb
        have a2 : atI (txts (Ws.map textOf)) 0 = some (V.str (S (textOf W'))) := att 0 W' hW
        have hta := sa _ _ ht9
        have hDa := sa _ _ hD'
        have tx' := tx.same sa
        obtain ⟨dx, fs, g1, g2⟩ := id tx'
        walk_at "sx"
        refine ⟨b, dx, fs, rfl, g1, .inl ⟨_, rfl⟩, b, textOf W', tx', .inl ⟨_, rfl, ⟨_, rfl, ?_⟩⟩⟩
        walk_at "sx"
        exact k Ha
end
end Dp
namespace Dp
open PySem PySem.Spec PyProof.Rows L2 SX
theorem facts {P : Program} {w : World} {K : PySem.W.Frag} {h : Heap} {mg : Str → Option Value} {f : Addr} (X : K.In h) (G : h.Ns mainGlobals mg) (hfa : mg ("law" : Str) = some (.ref f)) (c : SaysM K) :
    ∃ fd : FuncData, (∀ (s : Shared) (v : Value), BindsTo s fd ⟨[v], []⟩ [("_law_script", v)]) ∧ ∀ base : Heap, K.In base → base.Ns mainGlobals mg → FnOk P w K mg base C8.CX0 8 f fd ["_law_script"] (spLaw K) := by
  have T : Tx K mg := ⟨c, h, X, G⟩
  have e := hfa.symm.trans T.glo_law
  cases e
  obtain ⟨fd, F⟩ := T.f_law
  have b := FunD.bindsA (ps := ["_law_script"]) F fun _ _ _ _ _ _ us hl => match us, hl with | [_], _ => rfl
  refine ⟨fd, fun s v => b s [v] rfl, fun base _ _ => ?_⟩
  have at_end := ok_at_end (P := P) (w := w) (base := base) T
  have peek := ok_peek (P := P) (w := w) (base := base) T at_end
  have skip := ok_skip (P := P) (w := w) (base := base) T
  have expect := ok_expect (P := P) (w := w) (base := base) T peek skip
  have is_number := ok_is_number (P := P) (w := w) (base := base) T
  have is_name := ok_is_name (P := P) (w := w) (base := base) T
  have take_number := ok_take_number (P := P) (w := w) (base := base) T peek skip is_number
  have take_field := ok_take_field (P := P) (w := w) (base := base) T expect take_number
  have take_new := ok_take_new (P := P) (w := w) (base := base) T peek skip is_name
  have take_known := ok_take_known (P := P) (w := w) (base := base) T peek skip is_name
  have finish := ok_finish (P := P) (w := w) (base := base) T at_end
  have line := mk_Line (P := P) (w := w) (base := base) T
  have lines_of := ok_lines_of (P := P) (w := w) (base := base) T line
  have names_of := ok_names_of (P := P) (w := w) (base := base) T
  have sat := mk_Satellite (P := P) (w := w) (base := base) T
  have sta := mk_Station (P := P) (w := w) (base := base) T
  have rec_ := mk_Recording (P := P) (w := w) (base := base) T
  have pas := mk_Pass (P := P) (w := w) (base := base) T
  have draft := mk_Draft (P := P) (w := w) (base := base) T
  have found := ok_found_options (P := P) (w := w) (base := base) T
  have text := ok_world_text (P := P) (w := w) (base := base) T (ok_sat_line T) (ok_sta_line T) (ok_rec_line T) (ok_pas_line T)
  have world := mk_World (P := P) (w := w) (base := base) T found text
  have weq := ok_World_eq (P := P) (w := w) (base := base) T
  have r1 := ok_read_satellite (P := P) (w := w) (base := base) T take_field take_number expect at_end sat
  have r2 := ok_read_recording (P := P) (w := w) (base := base) T take_field take_known expect names_of rec_
  have r3 := ok_read_pass (P := P) (w := w) (base := base) T take_field take_known expect names_of pas
  have rl := ok_read_line (P := P) (w := w) (base := base) T peek skip take_new take_field finish names_of sta r1 r2 r3
  have parse := ok_parse (P := P) (w := w) (base := base) T take_field finish lines_of rl draft world
  have cell := ok_law_cell (P := P) (w := w) (base := base) T
  have draws := ok_law_draws (P := P) (w := w) (base := base) T
  have stream := ok_law_stream (P := P) (w := w) (base := base) T cell draws
  have next := ok_law_next (P := P) (w := w) (base := base) T
  have word := ok_law_word (P := P) (w := w) (base := base) T next
  have lsat := ok_law_satellite (P := P) (w := w) (base := base) T next word
  have lrec := ok_law_recording (P := P) (w := w) (base := base) T next word
  have lpas := ok_law_pass (P := P) (w := w) (base := base) T next word
  have lworld := ok_law_world (P := P) (w := w) (base := base) T stream next word lsat lrec lpas
  have greater := ok_law_greater (P := P) (w := w) (base := base) T stream next
  have ltext := ok_law_text (P := P) (w := w) (base := base) T (ok_law_lines T)
  have same := ok_law_same (P := P) (w := w) (base := base) T
  exact ok_law T F weq parse lworld greater ltext same
end Dp
open PySem PySem.W PySem.Calls PyProof.Rows
theorem PySem.Challenge.cw_downpass_k02_whole_worlds_read_back_holds : PySem.Challenge.rw_downpass_k02_whole_worlds_read_back.Holds := by
  w_on; o_law
  refine HandSHeadRun.head_any (r := OpenLaw.row PySem.Challenge.rw_downpass_k02_whole_worlds_read_back) (q := view (OpenLaw.row PySem.Challenge.rw_downpass_k02_whole_worlds_read_back).prog [43]) (H := Dp.hk) (ob := Dp.ob) (M := 9000) (loose := Dp.names)
    (d := HandSHeadRun.topDef (OpenLaw.row PySem.Challenge.rw_downpass_k02_whole_worlds_read_back).prog 43) (kwd := []) Dp.ob_eq
    (by kernel_rfl) (fun s => by kernel_rfl) Dp.run (by kernel_rfl) (by kernel_rfl) (by kernel_rfl) (by rfl) (by first | assumption | decide +kernel) (by decide +kernel) ⟨rfl, rfl, rfl, rfl, rfl, by decide +kernel⟩ ?hw ?hc
  case hw => w_witness2
  case hc =>
    refine L2.walk_ofE (l := PySem.Challenge.rw_downpass_k02_whole_worlds_read_back) (n := 63) (k := 8) (x := "_law_script") (CX := C8.CX0) rfl (by decide) (by kernel_rfl) ⟨rfl, by decide, by decide⟩ ?F (fun _ _ _ _ z => z)
    intro w mg fa h Y G hmg0
    obtain ⟨K, KX, c⟩ := Y
    have hmg : mg ("law" : PySem.Str) = some (.ref fa) := by
      have e : (HandSHeadRun.topDef (OpenLaw.row PySem.Challenge.rw_downpass_k02_whole_worlds_read_back).prog 43).name = ("law" : PySem.Str) := by kernel_rfl
      rw [← e]
      exact hmg0
    obtain ⟨fd, hb, hF⟩ := Dp.facts (P := (PySem.Challenge.rw_downpass_k02_whole_worlds_read_back).prog) (w := w) KX G hmg c
    exact ⟨K, fd, Dp.spLaw K, KX, hb, fun H a ns hl _ hS => ⟨a, ns, rfl, hS, fun _ => rfl⟩, hF⟩
