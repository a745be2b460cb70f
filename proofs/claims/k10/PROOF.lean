import PyProof.Rows.All
import Wide.All
import OpenK.AllK
import Wide.FinOn
import KE.KStateDown
import Lean
import HandS.ForMost
import HandS.Defaults
import HandS.Head0
import HandS.Head1
import HandS.Head2
import HandS.HeadEnd
import HandS.HeadHook1
import HandS.HeadHook2
import HandS.HeadHook3
import HandS.HeadHook4
import PySem.Challenge.RW_fadinginks_k10_whole_programs
import HandS.IsInst
import HandS.Zip
import HandS.Star
import HandS.TupAny
import HandS.Style
import HandS.Conv
import HandS.NoneIn
import HandS.DictComp
import HandS.DictTup
import HandS.RaiseMore
import HandS.Walk
import HandS.Steps
import HandS.Replace
import HandS.TupSets
import KE.GoesEnum
import KE.GoesZip
import KE.GoesMore
import KE.KDictOf
import KE.KDictCopyH
import PyProof.StrLaws
import HandS.ReplaceList
import HandS.ReplaceLit
import HandS.Codes
set_option Elab.async false
set_option linter.all false
set_option maxRecDepth 100000
set_option maxHeartbeats 0
namespace Ink
open PySem PySem.Spec PyProof.Rows L2
def top (i : Nat) : Stmt := PySem.Challenge.pw_fadinginks_k10_whole_programs.main.body.getD i (.Pass ⟨0, 0, 0, 0⟩)
abbrev s_is_integer : Stmt := top 20
abbrev s_is_from : Stmt := top 21
abbrev s_is_sign : Stmt := top 22
abbrev s_is_write : Stmt := top 23
abbrev s_is_plan : Stmt := top 24
abbrev s_need_plan : Stmt := top 25
abbrev s_stay_of : Stmt := top 26
abbrev s_is_look : Stmt := top 32
abbrev s_is_reader : Stmt := top 33
abbrev s_need_reader : Stmt := top 34
abbrev s_cases_at : Stmt := top 35
abbrev s_bounds_of : Stmt := top 36
abbrev s_case_told : Stmt := top 37
abbrev s_put_case : Stmt := top 38
abbrev s_may_be : Stmt := top 39
abbrev s_sign_of : Stmt := top 40
abbrev s_timetable_of : Stmt := top 41
abbrev s_led_choices : Stmt := top 42
abbrev s_readings_of : Stmt := top 43
abbrev s_parts_of : Stmt := top 47
abbrev s_need_claim : Stmt := top 48
abbrev s_is_told : Stmt := top 49
abbrev s_breaking : Stmt := top 50
abbrev s_need_all : Stmt := top 51
abbrev s_later_by : Stmt := top 52
abbrev s_slack : Stmt := top 53
abbrev s_sort_of : Stmt := top 64
abbrev s_words_of : Stmt := top 65
abbrev s_is_number : Stmt := top 66
abbrev s_need_bound : Stmt := top 68
abbrev s_program_of : Stmt := top 70
abbrev s_check : Stmt := top 71
abbrev s_claim_text : Stmt := top 74
abbrev s_rests_text : Stmt := top 75
abbrev s_reader_text : Stmt := top 76
abbrev s_statement_text : Stmt := top 77
abbrev s_printed : Stmt := top 78
abbrev s_run : Stmt := top 80
abbrev s_law_taken : Stmt := top 82
abbrev s_law_pick : Stmt := top 83
abbrev s_law_alike : Stmt := top 84
abbrev s_law_plan : Stmt := top 85
abbrev s_law_reader : Stmt := top 86
abbrev s_law_all : Stmt := top 87
abbrev s_law_ticks : Stmt := top 88
abbrev s_law_seen : Stmt := top 89
abbrev s_law_read : Stmt := top 90
abbrev s_law_paces : Stmt := top 91
abbrev s_law_readings : Stmt := top 92
abbrev s_law_claim : Stmt := top 93
abbrev s_law_so : Stmt := top 94
abbrev s_law_claim_text : Stmt := top 95
abbrev s_law_loose : Stmt := top 96
abbrev s_law : Stmt := top 97
abbrev s_Bounds_init : Stmt := inClass (top 28) 0
abbrev s_Bounds_put : Stmt := inClass (top 28) 1
abbrev s_Bounds_between : Stmt := inClass (top 28) 2
abbrev s_Bounds_copied : Stmt := inClass (top 28) 3
abbrev s_Bounds_closed : Stmt := inClass (top 28) 4
abbrev s_Bounds_told : Stmt := inClass (top 28) 5
abbrev s_Bounds_solved : Stmt := inClass (top 28) 6
abbrev s_Bounds_ring_from : Stmt := inClass (top 28) 7
abbrev s_Reading_init : Stmt := inClass (top 67) 0
abbrev s_Reading_word : Stmt := inClass (top 67) 1
abbrev s_Reading_wrong : Stmt := inClass (top 67) 2
abbrev s_Reading_take : Stmt := inClass (top 67) 3
abbrev s_Reading_need : Stmt := inClass (top 67) 4
abbrev s_Reading_name : Stmt := inClass (top 67) 5
abbrev s_Reading_sign : Stmt := inClass (top 67) 6
abbrev s_Reading_number : Stmt := inClass (top 67) 7
abbrev s_Reading_rests : Stmt := inClass (top 67) 8
abbrev s_Reading_look : Stmt := inClass (top 67) 9
abbrev s_Reading_reader : Stmt := inClass (top 67) 10
abbrev s_Reading_claim : Stmt := inClass (top 67) 11
abbrev s_Reading_both : Stmt := inClass (top 67) 12
abbrev s_Reading_part : Stmt := inClass (top 67) 13
abbrev s_Reading_bracket : Stmt := inClass (top 67) 14
abbrev s_Reading_ask : Stmt := inClass (top 67) 15
abbrev s_Reading_write : Stmt := inClass (top 67) 16
abbrev s_Reading_statement : Stmt := inClass (top 67) 17
abbrev s_Reading_program : Stmt := inClass (top 67) 18
abbrev s_Names_init : Stmt := inClass (top 69) 0
abbrev s_Names_need_new : Stmt := inClass (top 69) 1
abbrev s_Names_need_cell : Stmt := inClass (top 69) 2
abbrev s_Names_ink : Stmt := inClass (top 69) 3
abbrev s_Names_write : Stmt := inClass (top 69) 4
abbrev s_Names_reader : Stmt := inClass (top 69) 5
abbrev s_Names_ask : Stmt := inClass (top 69) 6
abbrev s_Runner_init : Stmt := inClass (top 79) 0
abbrev s_Runner_plan : Stmt := inClass (top 79) 1
abbrev s_Runner_answer : Stmt := inClass (top 79) 2
def dOf (x : Str) (st : Stmt) : He.DefD := ⟨(x, none), x, x, defArgs st, defBody st, defScope st, [], []⟩
def dMt (C m q : Str) (st : Stmt) : He.DefD := ⟨(C, some m), m, q, defArgs st, defBody st, defScope st, [], []⟩
def fn0 : List He.DefD := [dOf "is_integer" s_is_integer, dOf "is_from" s_is_from, dOf "is_sign" s_is_sign, dOf "is_write" s_is_write, dOf "is_plan" s_is_plan, dOf "need_plan" s_need_plan, dOf "stay_of" s_stay_of, dOf "is_look" s_is_look, dOf "is_reader" s_is_reader, dOf "need_reader" s_need_reader, dOf "cases_at" s_cases_at, dOf "bounds_of" s_bounds_of, dOf "case_told" s_case_told, dOf "put_case" s_put_case, dOf "may_be" s_may_be, dOf "sign_of" s_sign_of, dOf "timetable_of" s_timetable_of, dOf "led_choices" s_led_choices, dOf "readings_of" s_readings_of, dOf "parts_of" s_parts_of, dOf "need_claim" s_need_claim, dOf "is_told" s_is_told, dOf "breaking" s_breaking, dOf "need_all" s_need_all, dOf "later_by" s_later_by, dOf "slack" s_slack, dOf "sort_of" s_sort_of, dOf "words_of" s_words_of, dOf "is_number" s_is_number, dOf "need_bound" s_need_bound]
def fn1 : List He.DefD := [dOf "program_of" s_program_of, dOf "check" s_check, dOf "claim_text" s_claim_text, dOf "rests_text" s_rests_text, dOf "reader_text" s_reader_text, dOf "statement_text" s_statement_text, dOf "printed" s_printed, dOf "run" s_run, dOf "_law_taken" s_law_taken, dOf "_law_pick" s_law_pick, dOf "_law_alike" s_law_alike, dOf "_law_plan" s_law_plan, dOf "_law_reader" s_law_reader, dOf "_law_all" s_law_all, dOf "_law_ticks" s_law_ticks, dOf "_law_seen" s_law_seen, dOf "_law_read" s_law_read, dOf "_law_paces" s_law_paces, dOf "_law_readings" s_law_readings, dOf "_law_claim" s_law_claim, dOf "_law_so" s_law_so, dOf "_law_claim_text" s_law_claim_text, dOf "_law_loose" s_law_loose, dOf "law" s_law, dMt "Bounds" "__init__" "Bounds.__init__" s_Bounds_init, dMt "Bounds" "put" "Bounds.put" s_Bounds_put, dMt "Bounds" "between" "Bounds.between" s_Bounds_between, dMt "Bounds" "copied" "Bounds.copied" s_Bounds_copied, dMt "Bounds" "closed" "Bounds.closed" s_Bounds_closed, dMt "Bounds" "told" "Bounds.told" s_Bounds_told]
def fn2 : List He.DefD := [dMt "Bounds" "solved" "Bounds.solved" s_Bounds_solved, dMt "Bounds" "ring_from" "Bounds.ring_from" s_Bounds_ring_from, dMt "Reading" "__init__" "Reading.__init__" s_Reading_init, dMt "Reading" "word" "Reading.word" s_Reading_word, dMt "Reading" "wrong" "Reading.wrong" s_Reading_wrong, dMt "Reading" "take" "Reading.take" s_Reading_take, dMt "Reading" "need" "Reading.need" s_Reading_need, dMt "Reading" "name" "Reading.name" s_Reading_name, dMt "Reading" "sign" "Reading.sign" s_Reading_sign, dMt "Reading" "number" "Reading.number" s_Reading_number, dMt "Reading" "rests" "Reading.rests" s_Reading_rests, dMt "Reading" "look" "Reading.look" s_Reading_look, dMt "Reading" "reader" "Reading.reader" s_Reading_reader, dMt "Reading" "claim" "Reading.claim" s_Reading_claim, dMt "Reading" "both" "Reading.both" s_Reading_both, dMt "Reading" "part" "Reading.part" s_Reading_part, dMt "Reading" "bracket" "Reading.bracket" s_Reading_bracket, dMt "Reading" "ask" "Reading.ask" s_Reading_ask, dMt "Reading" "write" "Reading.write" s_Reading_write, dMt "Reading" "statement" "Reading.statement" s_Reading_statement, dMt "Reading" "program" "Reading.program" s_Reading_program, dMt "Names" "__init__" "Names.__init__" s_Names_init, dMt "Names" "need_new" "Names.need_new" s_Names_need_new, dMt "Names" "need_cell" "Names.need_cell" s_Names_need_cell, dMt "Names" "ink" "Names.ink" s_Names_ink, dMt "Names" "write" "Names.write" s_Names_write, dMt "Names" "reader" "Names.reader" s_Names_reader, dMt "Names" "ask" "Names.ask" s_Names_ask, dMt "Runner" "__init__" "Runner.__init__" s_Runner_init, dMt "Runner" "plan" "Runner.plan" s_Runner_plan]
def fn3 : List He.DefD := [dMt "Runner" "answer" "Runner.answer" s_Runner_answer]
def fn : List He.DefD := fn0 ++ fn1 ++ fn2 ++ fn3
def fa0 : List He.Fa := [.glo "is_integer", .glo "is_from", .glo "is_sign", .glo "is_write", .glo "is_plan", .glo "need_plan", .glo "stay_of", .glo "is_look", .glo "is_reader", .glo "need_reader", .glo "cases_at", .glo "bounds_of", .glo "case_told", .glo "put_case", .glo "may_be", .glo "sign_of", .glo "timetable_of", .glo "led_choices", .glo "readings_of", .glo "parts_of", .glo "need_claim", .glo "is_told", .glo "breaking", .glo "need_all", .glo "later_by", .glo "slack", .glo "sort_of", .glo "words_of", .glo "is_number", .glo "need_bound"]
def fa1 : List He.Fa := [.glo "program_of", .glo "check", .glo "claim_text", .glo "rests_text", .glo "reader_text", .glo "statement_text", .glo "printed", .glo "run", .glo "_law_taken", .glo "_law_pick", .glo "_law_alike", .glo "_law_plan", .glo "_law_reader", .glo "_law_all", .glo "_law_ticks", .glo "_law_seen", .glo "_law_read", .glo "_law_paces", .glo "_law_readings", .glo "_law_claim", .glo "_law_so", .glo "_law_claim_text", .glo "_law_loose", .glo "law", .glo "Bounds", .glo "Reading", .glo "Names", .glo "Runner", .free "isinstance", .free "int"]
def fa2 : List He.Fa := [.free "bool", .free "str", .free "tuple", .free "list", .free "dict", .free "len", .free "all", .free "sum", .free "range", .free "enumerate", .free "zip", .free "sorted", .int "MOST_CELLS" 4, .int "MOST_INKS" 4, .int "MOST_STAY" 50, .int "MOST_WRITES" 8, .int "MOST_REST" 50, .int "MOST_LOOKS" 3, .int "MOST_WAIT" 200, .int "MOST_PARTS" 20, .int "MOST_SLACK" 50, .int "MOST_SIGNS" 2000, .int "MOST_DEEP" 30, .int "MOST_NAME" 8, .int "MOST_FIGURES" 3, .str "SIGNS" "abcdefghijklmnopqrstuvwxyz", .str "BARE" ".", .str "SMALL" "abcdefghijklmnopqrstuvwxyz", .str "GREAT" "ABCDEFGHIJKLMNOPQRSTUVWXYZ", .str "FIGURES" "0123456789"]
def fa3 : List He.Fa := [.str "SINGLE" ";:,()", .cls "Bounds", .cls "Reading", .cls "Names", .cls "Runner", .mkr "Bounds", .mkr "Reading", .mkr "Names", .mkr "Runner", .noat "Bounds" "size", .noat "Bounds" "least", .noat "Reading" "words", .noat "Reading" "at", .noat "Reading" "deep", .noat "Names" "cells", .noat "Names" "inks", .noat "Names" "writes", .noat "Names" "readers", .noat "Runner" "cells", .noat "Runner" "inks", .noat "Runner" "writes", .noat "Runner" "readers", .meth "Bounds" "put", .meth "Bounds" "between", .meth "Bounds" "copied", .meth "Bounds" "closed", .meth "Bounds" "told", .meth "Bounds" "solved", .meth "Bounds" "ring_from", .meth "Reading" "word"]
def fa4 : List He.Fa := [.meth "Reading" "wrong", .meth "Reading" "take", .meth "Reading" "need", .meth "Reading" "name", .meth "Reading" "sign", .meth "Reading" "number", .meth "Reading" "rests", .meth "Reading" "look", .meth "Reading" "reader", .meth "Reading" "claim", .meth "Reading" "both", .meth "Reading" "part", .meth "Reading" "bracket", .meth "Reading" "ask", .meth "Reading" "write", .meth "Reading" "statement", .meth "Reading" "program", .meth "Names" "need_new", .meth "Names" "need_cell", .meth "Names" "ink", .meth "Names" "write", .meth "Names" "reader", .meth "Names" "ask", .meth "Runner" "plan", .meth "Runner" "answer", .glo "LEVELS", .glo "ASKS"]
def fa : List He.Fa := fa0 ++ fa1 ++ fa2 ++ fa3 ++ fa4
def names0 : List PySem.Str := ["InkError", "BadPlan", "NoCell", "BadReader", "BadNumber", "BadClaim", "NoStart", "NotText", "InvalidText", "Unknown", "Twice", "SIGNS", "BARE", "MOST_CELLS", "MOST_INKS", "MOST_STAY", "MOST_WRITES", "MOST_REST", "is_integer", "is_from", "is_sign", "is_write", "is_plan", "need_plan", "stay_of", "Bounds", "MOST_LOOKS", "MOST_WAIT", "is_look", "is_reader"]
def names1 : List PySem.Str := ["need_reader", "cases_at", "bounds_of", "case_told", "put_case", "may_be", "sign_of", "timetable_of", "led_choices", "readings_of", "MOST_PARTS", "MOST_SLACK", "parts_of", "need_claim", "is_told", "breaking", "need_all", "later_by", "slack", "MOST_SIGNS", "MOST_DEEP", "MOST_NAME", "MOST_FIGURES", "SMALL", "GREAT", "FIGURES", "SINGLE", "ASKS", "sort_of", "words_of"]
def names2 : List PySem.Str := ["is_number", "Reading", "need_bound", "Names", "program_of", "check", "LEVELS", "claim_text", "rests_text", "reader_text", "statement_text", "printed", "Runner", "run", "_law_taken", "_law_pick", "_law_alike", "_law_plan", "_law_reader", "_law_all", "_law_ticks", "_law_seen", "_law_read", "_law_paces", "_law_readings", "_law_claim", "_law_so", "_law_claim_text", "_law_loose"]
def names : List PySem.Str := names0 ++ names1 ++ names2
def defNames0 : List PySem.Str := ["is_integer", "is_from", "is_sign", "is_write", "is_plan", "need_plan", "stay_of", "is_look", "is_reader", "need_reader", "cases_at", "bounds_of", "case_told", "put_case", "may_be", "sign_of", "timetable_of", "led_choices", "readings_of", "parts_of", "need_claim", "is_told", "breaking", "need_all", "later_by", "slack", "sort_of", "words_of", "is_number", "need_bound"]
def defNames1 : List PySem.Str := ["program_of", "check", "claim_text", "rests_text", "reader_text", "statement_text", "printed", "run", "_law_taken", "_law_pick", "_law_alike", "_law_plan", "_law_reader", "_law_all", "_law_ticks", "_law_seen", "_law_read", "_law_paces", "_law_readings", "_law_claim", "_law_so", "_law_claim_text", "_law_loose", "law"]
def defNames : List PySem.Str := defNames0 ++ defNames1
def clsNames : List PySem.Str := ["Bounds", "Reading", "Names", "Runner"]
def tabs : List He.Tab := [(fun K => He.ga K "LEVELS", ["or", "and", "not"])]
/-- no reader has booked a token -/
def nbB (K : PySem.W.Frag) : Bool := match PySem.W.nsIn K cStatics sharingNotToldKey with | some none => true | _ => false
def ex (K : PySem.W.Frag) : Bool := He.tupB K "ASKS" [.str "reads", .str "sure", .str "slack"] && (He.valsB K (He.ga K "LEVELS") [("or", .int 1), ("and", .int 2), ("not", .int 3)] && nbB K)
/-- what an address names, one step on -/
def nextA (g : Addr → Option Obj) (as : List Addr) : List Addr := as.flatMap fun a => match g a with
  | some o => He.refsO o
  | none => []
/-- the addresses that the facts ask: the module, its defs and their code, its classes, their dicts, their methods and these ones' code, two tables -/
def asS (g : Addr → Option Obj) : List Addr :=
  let K0 := He.frG g [mainGlobals]
  let ds := defNames.map (He.ga K0)
  let cs := clsNames.map (He.ga K0)
  let ns := nextA g cs
  let ms := nextA g ns
  mainGlobals :: (cs ++ ns ++ ms ++ nextA g ms ++ ds ++ nextA g ds ++ [He.ga K0 "LEVELS", He.ga K0 "ASKS", cStatics])
abbrev AlS : Type := He.AlT × Bool
def obsS (g : Addr → Option Obj) : AlS := (He.obsT fa fn tabs (He.frG g (asS g)), ex (He.frG g (asS g)))
def valS (w : World) : AlS := (He.valT fn tabs w, true)
structure SaysS (w : World) (K : PySem.W.Frag) : Prop where
  t : He.SaysT fa fn tabs w K
  more : ex K = true
def hk : PySem.W.Hook where
  α := AlS
  obs := fun s => obsS s.heap.get?
  val := valS
  says := fun w h => ∃ K : PySem.W.Frag, K.In h ∧ SaysS w K
  of := fun _ _ e => ⟨_, He.frG_in, ⟨congrArg (fun z : AlS => z.1) e, congrArg (fun z : AlS => z.2) e⟩⟩
  keeps := fun _ _ _ ⟨K, hK, c⟩ k => ⟨K, PySem.W.Frag.In.keeps hK k, c⟩
abbrev R : PySem.W.OpenRow := PySem.W.OpenLaw.row PySem.Challenge.rw_fadinginks_k10_whole_programs
def ob (s : PySem.W.SharedT) : AlS := obsS (HandSHeadRun.getT s)
theorem ob_eq (s : PySem.W.SharedT) : ob s = hk.obs s.abs := by
  have e : HandSHeadRun.getT s = s.abs.heap.get? := funext (HandSHeadRun.getT_eq s)
  show obsS (HandSHeadRun.getT s) = obsS s.abs.heap.get?
  rw [e]
end Ink
set_option Elab.async false
set_option linter.all false
set_option maxRecDepth 100000
set_option maxHeartbeats 0
namespace Ink
open PySem PySem.Spec PyProof.Rows L2
theorem run_f (w : World) : HandSHeadRun.RunEq R (PySem.W.view R.prog [97]) hk ob 20000 names (w.withFollow "special-get-raises" false) := by
  intro os
  kernel_rfl
theorem run_t (w : World) : HandSHeadRun.RunEq R (PySem.W.view R.prog [97]) hk ob 20000 names (w.withFollow "special-get-raises" true) := by
  intro os
  kernel_rfl
theorem run (w : World) : HandSHeadRun.RunEq R (PySem.W.view R.prog [97]) hk ob 20000 names w :=
  PySem.W.byRow2 "special-get-raises" (P := fun w => HandSHeadRun.RunEq R (PySem.W.view R.prog [97]) hk ob 20000 names w) run_f run_t w
end Ink
set_option Elab.async false
set_option linter.all false
set_option maxRecDepth 100000
set_option maxHeartbeats 4000000
namespace Ink
open PySem PySem.Spec PyProof.Rows L2
/-! ### a def of the text: where it stands, how it binds -/
def fdA (K : PySem.W.Frag) (a : Addr) : FuncData := match K.lookup a with
  | some ⟨_, _, .func fd, _⟩ => fd
  | _ => default
theorem fdA_of {K : PySem.W.Frag} {x q : Str} {ps : Arguments} {b : List Stmt} {sc : Scope} {f : Addr} {fd : FuncData} (F : FunD K x q ps b sc [] [] f fd) : fdA K f = fd := by
  obtain ⟨oc, od, dV, kV, doc, pm, an, cdv, ct, osl, e, lk, _⟩ := F.ex
  unfold fdA
  rw [lk]
structure DefOk (K : PySem.W.Frag) (mg : Str → Option Value) (x : Str) (st : Stmt) (ps : List Str) : Prop where
  F : FunD K x x (defArgs st) (defBody st) (defScope st) [] [] (He.ga K x) (fdA K (He.ga K x))
  b : Binds K (fdA K (He.ga K x)) ps []
  m : mg x = some (.ref (He.ga K x))
structure MtOk (K : PySem.W.Frag) (C m q : Str) (st : Stmt) (ps : List Str) : Prop where
  F : FunD K m q (defArgs st) (defBody st) (defScope st) [] [] (He.ma K (He.ga K C) m) (fdA K (He.ma K (He.ga K C) m))
  b : Binds K (fdA K (He.ma K (He.ga K C) m)) ps []
/-- what the head tells of K, mg -/
def Txt (w : World) (K : PySem.W.Frag) (mg : Str → Option Value) : Prop := ∃ h : Heap, K.In h ∧ h.Ns mainGlobals mg ∧ SaysS w K
section
variable {w : World} {K : PySem.W.Frag} {mg : Str → Option Value}
theorem Txt.dm (T : Txt w K mg) (i : Nat) {d : He.DefD} (h : fn[i]? = some d) (hd : d.dfl = []) (hk : d.kwd = []) : FunD K d.name d.qual d.params d.body d.scope [] [] (He.fAd K d.at_) (fdA K (He.fAd K d.at_)) := by
  obtain ⟨_, _, _, S⟩ := T
  obtain ⟨fd, F⟩ := S.t.d.def_ i h
  have e1 : d.dvs K = [] := by unfold He.DefD.dvs; rw [hd]; rfl
  have e2 : d.kws K = [] := by unfold He.DefD.kws; rw [hk]; rfl
  rw [e1, e2] at F
  rw [fdA_of F]
  exact F
theorem Txt.fact (T : Txt w K mg) (i : Nat) {f : He.Fa} (h : fa[i]? = some f) : f.ok K = true := by
  obtain ⟨_, _, _, S⟩ := T
  exact S.t.d.fact i h
theorem Txt.glo (T : Txt w K mg) {x : Str} (c : (He.Fa.glo x).ok K = true) : mg x = some (.ref (He.ga K x)) := by
  obtain ⟨_, X, G, _⟩ := T
  exact He.glo_ok X G c
theorem Txt.free (T : Txt w K mg) {x : Str} (c : (He.Fa.free x).ok K = true) : mg x = none := by
  obtain ⟨_, X, G, _⟩ := T
  exact He.free_ok X G c
theorem Txt.int (T : Txt w K mg) {x : Str} {i : Int} (c : (He.Fa.int x i).ok K = true) : ∃ t, mg x = some (.int i t) := by
  obtain ⟨_, X, G, _⟩ := T
  exact He.int_ok X G c
theorem Txt.str (T : Txt w K mg) {x z : Str} (c : (He.Fa.str x z).ok K = true) : ∃ t, mg x = some (.str z t) := by
  obtain ⟨_, X, G, _⟩ := T
  exact He.str_ok X G c
end
section
variable {P : Program} {w : World} {K : PySem.W.Frag} {mg : Str → Option Value} {base : Heap}
theorem DefOk.ok {x : Str} {st : Stmt} {ps N : List Str} {k : Nat} {sp : Sp} (D : DefOk K mg x st ps) (S : FnScope N ps (defScope st)) (len : ∀ vs H Q E, sp vs H Q E → vs.length = ps.length)
    (hbody : ∀ (cdv : Value) (A : Around) (outer : List Env) (s : Shared) (H : Hp) (vs : List V) (Q : VK) (E : XK), Room k (A.deeper (envOfC x (defScope st) s.heap.objs.size (He.ga K x) cdv)) → sp vs H Q E →
      ∃ t, PSs (cxOf CX0 P w K mg base N x (defScope st) (He.ga K x) cdv A outer s H E).nox (defBody st) t ∧ t { nx := fun _ H' => Q .non H', rt := Q } (start N vs) H) :
    FnOk P w K mg base CX0 (k + 1) (He.ga K x) (fdA K (He.ga K x)) ps sp :=
  D.F.ok S len fun cdv A outer s H vs Q E hr h => by
    obtain ⟨t, h1, h2⟩ := hbody cdv A outer s H vs Q E hr h
    exact ⟨t, h1.nox, h2⟩
theorem MtOk.ok {C m q : Str} {st : Stmt} {ps N : List Str} {k : Nat} {sp : Sp} (D : MtOk K C m q st ps) (S : FnScope N ps (defScope st)) (len : ∀ vs H Q E, sp vs H Q E → vs.length = ps.length)
    (hbody : ∀ (cdv : Value) (A : Around) (outer : List Env) (s : Shared) (H : Hp) (vs : List V) (Q : VK) (E : XK), Room k (A.deeper (envOfC q (defScope st) s.heap.objs.size (He.ma K (He.ga K C) m) cdv)) → sp vs H Q E →
      ∃ t, PSs (cxOf CX0 P w K mg base N q (defScope st) (He.ma K (He.ga K C) m) cdv A outer s H E).nox (defBody st) t ∧ t { nx := fun _ H' => Q .non H', rt := Q } (start N vs) H) :
    FnOk P w K mg base CX0 (k + 1) (He.ma K (He.ga K C) m) (fdA K (He.ma K (He.ga K C) m)) ps sp :=
  D.F.ok S len fun cdv A outer s H vs Q E hr h => by
    obtain ⟨t, h1, h2⟩ := hbody cdv A outer s H vs Q E hr h
    exact ⟨t, h1.nox, h2⟩
end
/-! ### calls in short -/
section
variable {X : Cx} {k : Nat} {x m C q : Str} {st : Stmt} {ps : List Str} {sp : Sp} {p pos apos : Pos} {e o : Expr} {es : List Expr} {ta : TE} {t : TA}
theorem pcall (D : DefOk X.K X.mg x st ps) (F : FnOk X.prog X.w X.K X.mg X.base CX0 k (He.ga X.K x) (fdA X.K (He.ga X.K x)) ps sp) (hr : Room k X.A) (ha : PA X (e :: es) t) (hg : Gl X x := by rfl)
    (hdb : (x == ("__debug__" : Str)) = false := by decide) (he : starEach (e :: es) X.env = (false, eval e X.env) :: starEach es X.env := by rfl) (hpl : (backTo pos (starEach es X.env)).any (·.1) = false := by rfl) :
    PE X (.Call (.Name x p) (e :: es) [] pos) (tCall sp [] E0 t) := pe_call F hr hg D.m D.F.kp D.b .nil pass0 ha hdb he hpl
end
end Ink
set_option Elab.async false
set_option linter.all false
set_option maxRecDepth 100000
set_option maxHeartbeats 4000000
namespace Ink
open PySem PySem.Spec PyProof.Rows L2
section
variable {w : World} {K : PySem.W.Frag} {mg : Str → Option Value}
theorem d_is_integer (T : Txt w K mg) : DefOk K mg "is_integer" s_is_integer ["value"] := ⟨T.dm 0 (d := dOf "is_integer" s_is_integer) rfl rfl rfl, (T.dm 0 (d := dOf "is_integer" s_is_integer) rfl rfl rfl).bindsN (ps := ["value"]) (fun _ _ _ _ _ _ us hl => match us, hl with | [_], _ => rfl), T.glo (T.fact 0 (f := .glo "is_integer") rfl)⟩
theorem d_is_from (T : Txt w K mg) : DefOk K mg "is_from" s_is_from ["value", "low", "high"] := ⟨T.dm 1 (d := dOf "is_from" s_is_from) rfl rfl rfl, (T.dm 1 (d := dOf "is_from" s_is_from) rfl rfl rfl).bindsN (ps := ["value", "low", "high"]) (fun _ _ _ _ _ _ us hl => match us, hl with | [_, _, _], _ => rfl), T.glo (T.fact 1 (f := .glo "is_from") rfl)⟩
theorem d_is_sign (T : Txt w K mg) : DefOk K mg "is_sign" s_is_sign ["value"] := ⟨T.dm 2 (d := dOf "is_sign" s_is_sign) rfl rfl rfl, (T.dm 2 (d := dOf "is_sign" s_is_sign) rfl rfl rfl).bindsN (ps := ["value"]) (fun _ _ _ _ _ _ us hl => match us, hl with | [_], _ => rfl), T.glo (T.fact 2 (f := .glo "is_sign") rfl)⟩
theorem d_is_write (T : Txt w K mg) : DefOk K mg "is_write" s_is_write ["cells", "stays", "value"] := ⟨T.dm 3 (d := dOf "is_write" s_is_write) rfl rfl rfl, (T.dm 3 (d := dOf "is_write" s_is_write) rfl rfl rfl).bindsN (ps := ["cells", "stays", "value"]) (fun _ _ _ _ _ _ us hl => match us, hl with | [_, _, _], _ => rfl), T.glo (T.fact 3 (f := .glo "is_write") rfl)⟩
theorem d_is_plan (T : Txt w K mg) : DefOk K mg "is_plan" s_is_plan ["value"] := ⟨T.dm 4 (d := dOf "is_plan" s_is_plan) rfl rfl rfl, (T.dm 4 (d := dOf "is_plan" s_is_plan) rfl rfl rfl).bindsN (ps := ["value"]) (fun _ _ _ _ _ _ us hl => match us, hl with | [_], _ => rfl), T.glo (T.fact 4 (f := .glo "is_plan") rfl)⟩
theorem d_need_plan (T : Txt w K mg) : DefOk K mg "need_plan" s_need_plan ["value"] := ⟨T.dm 5 (d := dOf "need_plan" s_need_plan) rfl rfl rfl, (T.dm 5 (d := dOf "need_plan" s_need_plan) rfl rfl rfl).bindsN (ps := ["value"]) (fun _ _ _ _ _ _ us hl => match us, hl with | [_], _ => rfl), T.glo (T.fact 5 (f := .glo "need_plan") rfl)⟩
theorem d_stay_of (T : Txt w K mg) : DefOk K mg "stay_of" s_stay_of ["plan", "write"] := ⟨T.dm 6 (d := dOf "stay_of" s_stay_of) rfl rfl rfl, (T.dm 6 (d := dOf "stay_of" s_stay_of) rfl rfl rfl).bindsN (ps := ["plan", "write"]) (fun _ _ _ _ _ _ us hl => match us, hl with | [_, _], _ => rfl), T.glo (T.fact 6 (f := .glo "stay_of") rfl)⟩
theorem d_is_look (T : Txt w K mg) : DefOk K mg "is_look" s_is_look ["plan", "value"] := ⟨T.dm 7 (d := dOf "is_look" s_is_look) rfl rfl rfl, (T.dm 7 (d := dOf "is_look" s_is_look) rfl rfl rfl).bindsN (ps := ["plan", "value"]) (fun _ _ _ _ _ _ us hl => match us, hl with | [_, _], _ => rfl), T.glo (T.fact 7 (f := .glo "is_look") rfl)⟩
theorem d_is_reader (T : Txt w K mg) : DefOk K mg "is_reader" s_is_reader ["plan", "value"] := ⟨T.dm 8 (d := dOf "is_reader" s_is_reader) rfl rfl rfl, (T.dm 8 (d := dOf "is_reader" s_is_reader) rfl rfl rfl).bindsN (ps := ["plan", "value"]) (fun _ _ _ _ _ _ us hl => match us, hl with | [_, _], _ => rfl), T.glo (T.fact 8 (f := .glo "is_reader") rfl)⟩
theorem d_need_reader (T : Txt w K mg) : DefOk K mg "need_reader" s_need_reader ["plan", "value"] := ⟨T.dm 9 (d := dOf "need_reader" s_need_reader) rfl rfl rfl, (T.dm 9 (d := dOf "need_reader" s_need_reader) rfl rfl rfl).bindsN (ps := ["plan", "value"]) (fun _ _ _ _ _ _ us hl => match us, hl with | [_, _], _ => rfl), T.glo (T.fact 9 (f := .glo "need_reader") rfl)⟩
theorem d_cases_at (T : Txt w K mg) : DefOk K mg "cases_at" s_cases_at ["plan", "cell"] := ⟨T.dm 10 (d := dOf "cases_at" s_cases_at) rfl rfl rfl, (T.dm 10 (d := dOf "cases_at" s_cases_at) rfl rfl rfl).bindsN (ps := ["plan", "cell"]) (fun _ _ _ _ _ _ us hl => match us, hl with | [_, _], _ => rfl), T.glo (T.fact 10 (f := .glo "cases_at") rfl)⟩
theorem d_bounds_of (T : Txt w K mg) : DefOk K mg "bounds_of" s_bounds_of ["plan", "reader"] := ⟨T.dm 11 (d := dOf "bounds_of" s_bounds_of) rfl rfl rfl, (T.dm 11 (d := dOf "bounds_of" s_bounds_of) rfl rfl rfl).bindsN (ps := ["plan", "reader"]) (fun _ _ _ _ _ _ us hl => match us, hl with | [_, _], _ => rfl), T.glo (T.fact 11 (f := .glo "bounds_of") rfl)⟩
theorem d_case_told (T : Txt w K mg) : DefOk K mg "case_told" s_case_told ["plan", "event", "cell", "case"] := ⟨T.dm 12 (d := dOf "case_told" s_case_told) rfl rfl rfl, (T.dm 12 (d := dOf "case_told" s_case_told) rfl rfl rfl).bindsN (ps := ["plan", "event", "cell", "case"]) (fun _ _ _ _ _ _ us hl => match us, hl with | [_, _, _, _], _ => rfl), T.glo (T.fact 12 (f := .glo "case_told") rfl)⟩
theorem d_put_case (T : Txt w K mg) : DefOk K mg "put_case" s_put_case ["plan", "bounds", "event", "cell", "case"] := ⟨T.dm 13 (d := dOf "put_case" s_put_case) rfl rfl rfl, (T.dm 13 (d := dOf "put_case" s_put_case) rfl rfl rfl).bindsN (ps := ["plan", "bounds", "event", "cell", "case"]) (fun _ _ _ _ _ _ us hl => match us, hl with | [_, _, _, _, _], _ => rfl), T.glo (T.fact 13 (f := .glo "put_case") rfl)⟩
theorem d_may_be (T : Txt w K mg) : DefOk K mg "may_be" s_may_be ["closed", "told"] := ⟨T.dm 14 (d := dOf "may_be" s_may_be) rfl rfl rfl, (T.dm 14 (d := dOf "may_be" s_may_be) rfl rfl rfl).bindsN (ps := ["closed", "told"]) (fun _ _ _ _ _ _ us hl => match us, hl with | [_, _], _ => rfl), T.glo (T.fact 14 (f := .glo "may_be") rfl)⟩
theorem d_sign_of (T : Txt w K mg) : DefOk K mg "sign_of" s_sign_of ["plan", "case"] := ⟨T.dm 15 (d := dOf "sign_of" s_sign_of) rfl rfl rfl, (T.dm 15 (d := dOf "sign_of" s_sign_of) rfl rfl rfl).bindsN (ps := ["plan", "case"]) (fun _ _ _ _ _ _ us hl => match us, hl with | [_, _], _ => rfl), T.glo (T.fact 15 (f := .glo "sign_of") rfl)⟩
theorem d_timetable_of (T : Txt w K mg) : DefOk K mg "timetable_of" s_timetable_of ["plan", "reader", "ticks"] := ⟨T.dm 16 (d := dOf "timetable_of" s_timetable_of) rfl rfl rfl, (T.dm 16 (d := dOf "timetable_of" s_timetable_of) rfl rfl rfl).bindsN (ps := ["plan", "reader", "ticks"]) (fun _ _ _ _ _ _ us hl => match us, hl with | [_, _, _], _ => rfl), T.glo (T.fact 16 (f := .glo "timetable_of") rfl)⟩
theorem d_led_choices (T : Txt w K mg) : DefOk K mg "led_choices" s_led_choices ["plan", "reader", "fits"] := ⟨T.dm 17 (d := dOf "led_choices" s_led_choices) rfl rfl rfl, (T.dm 17 (d := dOf "led_choices" s_led_choices) rfl rfl rfl).bindsN (ps := ["plan", "reader", "fits"]) (fun _ _ _ _ _ _ us hl => match us, hl with | [_, _, _], _ => rfl), T.glo (T.fact 17 (f := .glo "led_choices") rfl)⟩
theorem d_readings_of (T : Txt w K mg) : DefOk K mg "readings_of" s_readings_of ["plan", "reader"] := ⟨T.dm 18 (d := dOf "readings_of" s_readings_of) rfl rfl rfl, (T.dm 18 (d := dOf "readings_of" s_readings_of) rfl rfl rfl).bindsN (ps := ["plan", "reader"]) (fun _ _ _ _ _ _ us hl => match us, hl with | [_, _], _ => rfl), T.glo (T.fact 18 (f := .glo "readings_of") rfl)⟩
theorem d_parts_of (T : Txt w K mg) : DefOk K mg "parts_of" s_parts_of ["looks", "value"] := ⟨T.dm 19 (d := dOf "parts_of" s_parts_of) rfl rfl rfl, (T.dm 19 (d := dOf "parts_of" s_parts_of) rfl rfl rfl).bindsN (ps := ["looks", "value"]) (fun _ _ _ _ _ _ us hl => match us, hl with | [_, _], _ => rfl), T.glo (T.fact 19 (f := .glo "parts_of") rfl)⟩
theorem d_need_claim (T : Txt w K mg) : DefOk K mg "need_claim" s_need_claim ["looks", "value"] := ⟨T.dm 20 (d := dOf "need_claim" s_need_claim) rfl rfl rfl, (T.dm 20 (d := dOf "need_claim" s_need_claim) rfl rfl rfl).bindsN (ps := ["looks", "value"]) (fun _ _ _ _ _ _ us hl => match us, hl with | [_, _], _ => rfl), T.glo (T.fact 20 (f := .glo "need_claim") rfl)⟩
theorem d_is_told (T : Txt w K mg) : DefOk K mg "is_told" s_is_told ["reading", "claim"] := ⟨T.dm 21 (d := dOf "is_told" s_is_told) rfl rfl rfl, (T.dm 21 (d := dOf "is_told" s_is_told) rfl rfl rfl).bindsN (ps := ["reading", "claim"]) (fun _ _ _ _ _ _ us hl => match us, hl with | [_, _], _ => rfl), T.glo (T.fact 21 (f := .glo "is_told") rfl)⟩
theorem d_breaking (T : Txt w K mg) : DefOk K mg "breaking" s_breaking ["plan", "reader", "claim"] := ⟨T.dm 22 (d := dOf "breaking" s_breaking) rfl rfl rfl, (T.dm 22 (d := dOf "breaking" s_breaking) rfl rfl rfl).bindsN (ps := ["plan", "reader", "claim"]) (fun _ _ _ _ _ _ us hl => match us, hl with | [_, _, _], _ => rfl), T.glo (T.fact 22 (f := .glo "breaking") rfl)⟩
theorem d_need_all (T : Txt w K mg) : DefOk K mg "need_all" s_need_all ["plan", "reader", "claim"] := ⟨T.dm 23 (d := dOf "need_all" s_need_all) rfl rfl rfl, (T.dm 23 (d := dOf "need_all" s_need_all) rfl rfl rfl).bindsN (ps := ["plan", "reader", "claim"]) (fun _ _ _ _ _ _ us hl => match us, hl with | [_, _, _], _ => rfl), T.glo (T.fact 23 (f := .glo "need_all") rfl)⟩
theorem d_later_by (T : Txt w K mg) : DefOk K mg "later_by" s_later_by ["plan", "many"] := ⟨T.dm 24 (d := dOf "later_by" s_later_by) rfl rfl rfl, (T.dm 24 (d := dOf "later_by" s_later_by) rfl rfl rfl).bindsN (ps := ["plan", "many"]) (fun _ _ _ _ _ _ us hl => match us, hl with | [_, _], _ => rfl), T.glo (T.fact 24 (f := .glo "later_by") rfl)⟩
theorem d_slack (T : Txt w K mg) : DefOk K mg "slack" s_slack ["plan", "reader", "claim", "most"] := ⟨T.dm 25 (d := dOf "slack" s_slack) rfl rfl rfl, (T.dm 25 (d := dOf "slack" s_slack) rfl rfl rfl).bindsN (ps := ["plan", "reader", "claim", "most"]) (fun _ _ _ _ _ _ us hl => match us, hl with | [_, _, _, _], _ => rfl), T.glo (T.fact 25 (f := .glo "slack") rfl)⟩
theorem d_sort_of (T : Txt w K mg) : DefOk K mg "sort_of" s_sort_of ["sign"] := ⟨T.dm 26 (d := dOf "sort_of" s_sort_of) rfl rfl rfl, (T.dm 26 (d := dOf "sort_of" s_sort_of) rfl rfl rfl).bindsN (ps := ["sign"]) (fun _ _ _ _ _ _ us hl => match us, hl with | [_], _ => rfl), T.glo (T.fact 26 (f := .glo "sort_of") rfl)⟩
theorem d_words_of (T : Txt w K mg) : DefOk K mg "words_of" s_words_of ["text"] := ⟨T.dm 27 (d := dOf "words_of" s_words_of) rfl rfl rfl, (T.dm 27 (d := dOf "words_of" s_words_of) rfl rfl rfl).bindsN (ps := ["text"]) (fun _ _ _ _ _ _ us hl => match us, hl with | [_], _ => rfl), T.glo (T.fact 27 (f := .glo "words_of") rfl)⟩
theorem d_is_number (T : Txt w K mg) : DefOk K mg "is_number" s_is_number ["word"] := ⟨T.dm 28 (d := dOf "is_number" s_is_number) rfl rfl rfl, (T.dm 28 (d := dOf "is_number" s_is_number) rfl rfl rfl).bindsN (ps := ["word"]) (fun _ _ _ _ _ _ us hl => match us, hl with | [_], _ => rfl), T.glo (T.fact 28 (f := .glo "is_number") rfl)⟩
theorem d_need_bound (T : Txt w K mg) : DefOk K mg "need_bound" s_need_bound ["number", "low", "high"] := ⟨T.dm 29 (d := dOf "need_bound" s_need_bound) rfl rfl rfl, (T.dm 29 (d := dOf "need_bound" s_need_bound) rfl rfl rfl).bindsN (ps := ["number", "low", "high"]) (fun _ _ _ _ _ _ us hl => match us, hl with | [_, _, _], _ => rfl), T.glo (T.fact 29 (f := .glo "need_bound") rfl)⟩
theorem d_program_of (T : Txt w K mg) : DefOk K mg "program_of" s_program_of ["text"] := ⟨T.dm 30 (d := dOf "program_of" s_program_of) rfl rfl rfl, (T.dm 30 (d := dOf "program_of" s_program_of) rfl rfl rfl).bindsN (ps := ["text"]) (fun _ _ _ _ _ _ us hl => match us, hl with | [_], _ => rfl), T.glo (T.fact 30 (f := .glo "program_of") rfl)⟩
theorem d_check (T : Txt w K mg) : DefOk K mg "check" s_check ["text"] := ⟨T.dm 31 (d := dOf "check" s_check) rfl rfl rfl, (T.dm 31 (d := dOf "check" s_check) rfl rfl rfl).bindsN (ps := ["text"]) (fun _ _ _ _ _ _ us hl => match us, hl with | [_], _ => rfl), T.glo (T.fact 31 (f := .glo "check") rfl)⟩
theorem d_claim_text (T : Txt w K mg) : DefOk K mg "claim_text" s_claim_text ["claim", "least"] := ⟨T.dm 32 (d := dOf "claim_text" s_claim_text) rfl rfl rfl, (T.dm 32 (d := dOf "claim_text" s_claim_text) rfl rfl rfl).bindsN (ps := ["claim", "least"]) (fun _ _ _ _ _ _ us hl => match us, hl with | [_, _], _ => rfl), T.glo (T.fact 32 (f := .glo "claim_text") rfl)⟩
theorem d_rests_text (T : Txt w K mg) : DefOk K mg "rests_text" s_rests_text ["low", "high"] := ⟨T.dm 33 (d := dOf "rests_text" s_rests_text) rfl rfl rfl, (T.dm 33 (d := dOf "rests_text" s_rests_text) rfl rfl rfl).bindsN (ps := ["low", "high"]) (fun _ _ _ _ _ _ us hl => match us, hl with | [_, _], _ => rfl), T.glo (T.fact 33 (f := .glo "rests_text") rfl)⟩
theorem d_reader_text (T : Txt w K mg) : DefOk K mg "reader_text" s_reader_text ["told"] := ⟨T.dm 34 (d := dOf "reader_text" s_reader_text) rfl rfl rfl, (T.dm 34 (d := dOf "reader_text" s_reader_text) rfl rfl rfl).bindsN (ps := ["told"]) (fun _ _ _ _ _ _ us hl => match us, hl with | [_], _ => rfl), T.glo (T.fact 34 (f := .glo "reader_text") rfl)⟩
theorem d_statement_text (T : Txt w K mg) : DefOk K mg "statement_text" s_statement_text ["told"] := ⟨T.dm 35 (d := dOf "statement_text" s_statement_text) rfl rfl rfl, (T.dm 35 (d := dOf "statement_text" s_statement_text) rfl rfl rfl).bindsN (ps := ["told"]) (fun _ _ _ _ _ _ us hl => match us, hl with | [_], _ => rfl), T.glo (T.fact 35 (f := .glo "statement_text") rfl)⟩
theorem d_printed (T : Txt w K mg) : DefOk K mg "printed" s_printed ["text"] := ⟨T.dm 36 (d := dOf "printed" s_printed) rfl rfl rfl, (T.dm 36 (d := dOf "printed" s_printed) rfl rfl rfl).bindsN (ps := ["text"]) (fun _ _ _ _ _ _ us hl => match us, hl with | [_], _ => rfl), T.glo (T.fact 36 (f := .glo "printed") rfl)⟩
theorem d_run (T : Txt w K mg) : DefOk K mg "run" s_run ["text"] := ⟨T.dm 37 (d := dOf "run" s_run) rfl rfl rfl, (T.dm 37 (d := dOf "run" s_run) rfl rfl rfl).bindsN (ps := ["text"]) (fun _ _ _ _ _ _ us hl => match us, hl with | [_], _ => rfl), T.glo (T.fact 37 (f := .glo "run") rfl)⟩
theorem d_law_taken (T : Txt w K mg) : DefOk K mg "_law_taken" s_law_taken ["_law_row", "_law_many"] := ⟨T.dm 38 (d := dOf "_law_taken" s_law_taken) rfl rfl rfl, (T.dm 38 (d := dOf "_law_taken" s_law_taken) rfl rfl rfl).bindsN (ps := ["_law_row", "_law_many"]) (fun _ _ _ _ _ _ us hl => match us, hl with | [_, _], _ => rfl), T.glo (T.fact 38 (f := .glo "_law_taken") rfl)⟩
theorem d_law_pick (T : Txt w K mg) : DefOk K mg "_law_pick" s_law_pick ["_law_row", "_law_things"] := ⟨T.dm 39 (d := dOf "_law_pick" s_law_pick) rfl rfl rfl, (T.dm 39 (d := dOf "_law_pick" s_law_pick) rfl rfl rfl).bindsN (ps := ["_law_row", "_law_things"]) (fun _ _ _ _ _ _ us hl => match us, hl with | [_, _], _ => rfl), T.glo (T.fact 39 (f := .glo "_law_pick") rfl)⟩
theorem d_law_alike (T : Txt w K mg) : DefOk K mg "_law_alike" s_law_alike ["_law_found", "_law_due"] := ⟨T.dm 40 (d := dOf "_law_alike" s_law_alike) rfl rfl rfl, (T.dm 40 (d := dOf "_law_alike" s_law_alike) rfl rfl rfl).bindsN (ps := ["_law_found", "_law_due"]) (fun _ _ _ _ _ _ us hl => match us, hl with | [_, _], _ => rfl), T.glo (T.fact 40 (f := .glo "_law_alike") rfl)⟩
theorem d_law_plan (T : Txt w K mg) : DefOk K mg "_law_plan" s_law_plan ["_law_row", "_law_most", "_law_wide"] := ⟨T.dm 41 (d := dOf "_law_plan" s_law_plan) rfl rfl rfl, (T.dm 41 (d := dOf "_law_plan" s_law_plan) rfl rfl rfl).bindsN (ps := ["_law_row", "_law_most", "_law_wide"]) (fun _ _ _ _ _ _ us hl => match us, hl with | [_, _, _], _ => rfl), T.glo (T.fact 41 (f := .glo "_law_plan") rfl)⟩
theorem d_law_reader (T : Txt w K mg) : DefOk K mg "_law_reader" s_law_reader ["_law_row", "_law_plan_here", "_law_most", "_law_wide"] := ⟨T.dm 42 (d := dOf "_law_reader" s_law_reader) rfl rfl rfl, (T.dm 42 (d := dOf "_law_reader" s_law_reader) rfl rfl rfl).bindsN (ps := ["_law_row", "_law_plan_here", "_law_most", "_law_wide"]) (fun _ _ _ _ _ _ us hl => match us, hl with | [_, _, _, _], _ => rfl), T.glo (T.fact 42 (f := .glo "_law_reader") rfl)⟩
theorem d_law_all (T : Txt w K mg) : DefOk K mg "_law_all" s_law_all ["_law_bounds"] := ⟨T.dm 43 (d := dOf "_law_all" s_law_all) rfl rfl rfl, (T.dm 43 (d := dOf "_law_all" s_law_all) rfl rfl rfl).bindsN (ps := ["_law_bounds"]) (fun _ _ _ _ _ _ us hl => match us, hl with | [_], _ => rfl), T.glo (T.fact 43 (f := .glo "_law_all") rfl)⟩
theorem d_law_ticks (T : Txt w K mg) : DefOk K mg "_law_ticks" s_law_ticks ["_law_rests", "_law_first"] := ⟨T.dm 44 (d := dOf "_law_ticks" s_law_ticks) rfl rfl rfl, (T.dm 44 (d := dOf "_law_ticks" s_law_ticks) rfl rfl rfl).bindsN (ps := ["_law_rests", "_law_first"]) (fun _ _ _ _ _ _ us hl => match us, hl with | [_, _], _ => rfl), T.glo (T.fact 44 (f := .glo "_law_ticks") rfl)⟩
theorem d_law_seen (T : Txt w K mg) : DefOk K mg "_law_seen" s_law_seen ["_law_plan_here", "_law_told", "_law_cell", "_law_tick"] := ⟨T.dm 45 (d := dOf "_law_seen" s_law_seen) rfl rfl rfl, (T.dm 45 (d := dOf "_law_seen" s_law_seen) rfl rfl rfl).bindsN (ps := ["_law_plan_here", "_law_told", "_law_cell", "_law_tick"]) (fun _ _ _ _ _ _ us hl => match us, hl with | [_, _, _, _], _ => rfl), T.glo (T.fact 45 (f := .glo "_law_seen") rfl)⟩
theorem d_law_read (T : Txt w K mg) : DefOk K mg "_law_read" s_law_read ["_law_plan_here", "_law_reader_here", "_law_pace", "_law_rests"] := ⟨T.dm 46 (d := dOf "_law_read" s_law_read) rfl rfl rfl, (T.dm 46 (d := dOf "_law_read" s_law_read) rfl rfl rfl).bindsN (ps := ["_law_plan_here", "_law_reader_here", "_law_pace", "_law_rests"]) (fun _ _ _ _ _ _ us hl => match us, hl with | [_, _, _, _], _ => rfl), T.glo (T.fact 46 (f := .glo "_law_read") rfl)⟩
theorem d_law_paces (T : Txt w K mg) : DefOk K mg "_law_paces" s_law_paces ["_law_plan_here"] := ⟨T.dm 47 (d := dOf "_law_paces" s_law_paces) rfl rfl rfl, (T.dm 47 (d := dOf "_law_paces" s_law_paces) rfl rfl rfl).bindsN (ps := ["_law_plan_here"]) (fun _ _ _ _ _ _ us hl => match us, hl with | [_], _ => rfl), T.glo (T.fact 47 (f := .glo "_law_paces") rfl)⟩
theorem d_law_readings (T : Txt w K mg) : DefOk K mg "_law_readings" s_law_readings ["_law_plan_here", "_law_reader_here"] := ⟨T.dm 48 (d := dOf "_law_readings" s_law_readings) rfl rfl rfl, (T.dm 48 (d := dOf "_law_readings" s_law_readings) rfl rfl rfl).bindsN (ps := ["_law_plan_here", "_law_reader_here"]) (fun _ _ _ _ _ _ us hl => match us, hl with | [_, _], _ => rfl), T.glo (T.fact 48 (f := .glo "_law_readings") rfl)⟩
theorem d_law_claim (T : Txt w K mg) : DefOk K mg "_law_claim" s_law_claim ["_law_row", "_law_looks", "_law_deep"] := ⟨T.dm 49 (d := dOf "_law_claim" s_law_claim) rfl rfl rfl, (T.dm 49 (d := dOf "_law_claim" s_law_claim) rfl rfl rfl).bindsN (ps := ["_law_row", "_law_looks", "_law_deep"]) (fun _ _ _ _ _ _ us hl => match us, hl with | [_, _, _], _ => rfl), T.glo (T.fact 49 (f := .glo "_law_claim") rfl)⟩
theorem d_law_so (T : Txt w K mg) : DefOk K mg "_law_so" s_law_so ["_law_reading", "_law_claim_here"] := ⟨T.dm 50 (d := dOf "_law_so" s_law_so) rfl rfl rfl, (T.dm 50 (d := dOf "_law_so" s_law_so) rfl rfl rfl).bindsN (ps := ["_law_reading", "_law_claim_here"]) (fun _ _ _ _ _ _ us hl => match us, hl with | [_, _], _ => rfl), T.glo (T.fact 50 (f := .glo "_law_so") rfl)⟩
theorem d_law_claim_text (T : Txt w K mg) : DefOk K mg "_law_claim_text" s_law_claim_text ["_law_claim_here", "_law_least"] := ⟨T.dm 51 (d := dOf "_law_claim_text" s_law_claim_text) rfl rfl rfl, (T.dm 51 (d := dOf "_law_claim_text" s_law_claim_text) rfl rfl rfl).bindsN (ps := ["_law_claim_here", "_law_least"]) (fun _ _ _ _ _ _ us hl => match us, hl with | [_, _], _ => rfl), T.glo (T.fact 51 (f := .glo "_law_claim_text") rfl)⟩
theorem d_law_loose (T : Txt w K mg) : DefOk K mg "_law_loose" s_law_loose ["_law_row", "_law_text"] := ⟨T.dm 52 (d := dOf "_law_loose" s_law_loose) rfl rfl rfl, (T.dm 52 (d := dOf "_law_loose" s_law_loose) rfl rfl rfl).bindsN (ps := ["_law_row", "_law_text"]) (fun _ _ _ _ _ _ us hl => match us, hl with | [_, _], _ => rfl), T.glo (T.fact 52 (f := .glo "_law_loose") rfl)⟩
theorem d_law (T : Txt w K mg) : DefOk K mg "law" s_law ["_law_script"] := ⟨T.dm 53 (d := dOf "law" s_law) rfl rfl rfl, (T.dm 53 (d := dOf "law" s_law) rfl rfl rfl).bindsN (ps := ["_law_script"]) (fun _ _ _ _ _ _ us hl => match us, hl with | [_], _ => rfl), T.glo (T.fact 53 (f := .glo "law") rfl)⟩
theorem m_Bounds_init (T : Txt w K mg) : MtOk K "Bounds" "__init__" "Bounds.__init__" s_Bounds_init ["self", "size"] := ⟨T.dm 54 (d := dMt "Bounds" "__init__" "Bounds.__init__" s_Bounds_init) rfl rfl rfl, (T.dm 54 (d := dMt "Bounds" "__init__" "Bounds.__init__" s_Bounds_init) rfl rfl rfl).bindsN (ps := ["self", "size"]) (fun _ _ _ _ _ _ us hl => match us, hl with | [_, _], _ => rfl)⟩
theorem m_Bounds_put (T : Txt w K mg) : MtOk K "Bounds" "put" "Bounds.put" s_Bounds_put ["self", "x", "y", "c"] := ⟨T.dm 55 (d := dMt "Bounds" "put" "Bounds.put" s_Bounds_put) rfl rfl rfl, (T.dm 55 (d := dMt "Bounds" "put" "Bounds.put" s_Bounds_put) rfl rfl rfl).bindsN (ps := ["self", "x", "y", "c"]) (fun _ _ _ _ _ _ us hl => match us, hl with | [_, _, _, _], _ => rfl)⟩
theorem a_Bounds_put (T : Txt w K mg) : Meth K (He.ga K "Bounds") "put" (He.ma K (He.ga K "Bounds") "put") := He.meth_ok (T.fact 112 (f := .meth "Bounds" "put") rfl)
theorem m_Bounds_between (T : Txt w K mg) : MtOk K "Bounds" "between" "Bounds.between" s_Bounds_between ["self", "x", "y", "low", "high"] := ⟨T.dm 56 (d := dMt "Bounds" "between" "Bounds.between" s_Bounds_between) rfl rfl rfl, (T.dm 56 (d := dMt "Bounds" "between" "Bounds.between" s_Bounds_between) rfl rfl rfl).bindsN (ps := ["self", "x", "y", "low", "high"]) (fun _ _ _ _ _ _ us hl => match us, hl with | [_, _, _, _, _], _ => rfl)⟩
theorem a_Bounds_between (T : Txt w K mg) : Meth K (He.ga K "Bounds") "between" (He.ma K (He.ga K "Bounds") "between") := He.meth_ok (T.fact 113 (f := .meth "Bounds" "between") rfl)
theorem m_Bounds_copied (T : Txt w K mg) : MtOk K "Bounds" "copied" "Bounds.copied" s_Bounds_copied ["self"] := ⟨T.dm 57 (d := dMt "Bounds" "copied" "Bounds.copied" s_Bounds_copied) rfl rfl rfl, (T.dm 57 (d := dMt "Bounds" "copied" "Bounds.copied" s_Bounds_copied) rfl rfl rfl).bindsN (ps := ["self"]) (fun _ _ _ _ _ _ us hl => match us, hl with | [_], _ => rfl)⟩
theorem a_Bounds_copied (T : Txt w K mg) : Meth K (He.ga K "Bounds") "copied" (He.ma K (He.ga K "Bounds") "copied") := He.meth_ok (T.fact 114 (f := .meth "Bounds" "copied") rfl)
theorem m_Bounds_closed (T : Txt w K mg) : MtOk K "Bounds" "closed" "Bounds.closed" s_Bounds_closed ["self"] := ⟨T.dm 58 (d := dMt "Bounds" "closed" "Bounds.closed" s_Bounds_closed) rfl rfl rfl, (T.dm 58 (d := dMt "Bounds" "closed" "Bounds.closed" s_Bounds_closed) rfl rfl rfl).bindsN (ps := ["self"]) (fun _ _ _ _ _ _ us hl => match us, hl with | [_], _ => rfl)⟩
theorem a_Bounds_closed (T : Txt w K mg) : Meth K (He.ga K "Bounds") "closed" (He.ma K (He.ga K "Bounds") "closed") := He.meth_ok (T.fact 115 (f := .meth "Bounds" "closed") rfl)
theorem m_Bounds_told (T : Txt w K mg) : MtOk K "Bounds" "told" "Bounds.told" s_Bounds_told ["self"] := ⟨T.dm 59 (d := dMt "Bounds" "told" "Bounds.told" s_Bounds_told) rfl rfl rfl, (T.dm 59 (d := dMt "Bounds" "told" "Bounds.told" s_Bounds_told) rfl rfl rfl).bindsN (ps := ["self"]) (fun _ _ _ _ _ _ us hl => match us, hl with | [_], _ => rfl)⟩
theorem a_Bounds_told (T : Txt w K mg) : Meth K (He.ga K "Bounds") "told" (He.ma K (He.ga K "Bounds") "told") := He.meth_ok (T.fact 116 (f := .meth "Bounds" "told") rfl)
theorem m_Bounds_solved (T : Txt w K mg) : MtOk K "Bounds" "solved" "Bounds.solved" s_Bounds_solved ["self"] := ⟨T.dm 60 (d := dMt "Bounds" "solved" "Bounds.solved" s_Bounds_solved) rfl rfl rfl, (T.dm 60 (d := dMt "Bounds" "solved" "Bounds.solved" s_Bounds_solved) rfl rfl rfl).bindsN (ps := ["self"]) (fun _ _ _ _ _ _ us hl => match us, hl with | [_], _ => rfl)⟩
theorem a_Bounds_solved (T : Txt w K mg) : Meth K (He.ga K "Bounds") "solved" (He.ma K (He.ga K "Bounds") "solved") := He.meth_ok (T.fact 117 (f := .meth "Bounds" "solved") rfl)
theorem m_Bounds_ring_from (T : Txt w K mg) : MtOk K "Bounds" "ring_from" "Bounds.ring_from" s_Bounds_ring_from ["self", "ahead", "event"] := ⟨T.dm 61 (d := dMt "Bounds" "ring_from" "Bounds.ring_from" s_Bounds_ring_from) rfl rfl rfl, (T.dm 61 (d := dMt "Bounds" "ring_from" "Bounds.ring_from" s_Bounds_ring_from) rfl rfl rfl).bindsN (ps := ["self", "ahead", "event"]) (fun _ _ _ _ _ _ us hl => match us, hl with | [_, _, _], _ => rfl)⟩
theorem a_Bounds_ring_from (T : Txt w K mg) : Meth K (He.ga K "Bounds") "ring_from" (He.ma K (He.ga K "Bounds") "ring_from") := He.meth_ok (T.fact 118 (f := .meth "Bounds" "ring_from") rfl)
theorem m_Reading_init (T : Txt w K mg) : MtOk K "Reading" "__init__" "Reading.__init__" s_Reading_init ["self", "text"] := ⟨T.dm 62 (d := dMt "Reading" "__init__" "Reading.__init__" s_Reading_init) rfl rfl rfl, (T.dm 62 (d := dMt "Reading" "__init__" "Reading.__init__" s_Reading_init) rfl rfl rfl).bindsN (ps := ["self", "text"]) (fun _ _ _ _ _ _ us hl => match us, hl with | [_, _], _ => rfl)⟩
theorem m_Reading_word (T : Txt w K mg) : MtOk K "Reading" "word" "Reading.word" s_Reading_word ["self"] := ⟨T.dm 63 (d := dMt "Reading" "word" "Reading.word" s_Reading_word) rfl rfl rfl, (T.dm 63 (d := dMt "Reading" "word" "Reading.word" s_Reading_word) rfl rfl rfl).bindsN (ps := ["self"]) (fun _ _ _ _ _ _ us hl => match us, hl with | [_], _ => rfl)⟩
theorem a_Reading_word (T : Txt w K mg) : Meth K (He.ga K "Reading") "word" (He.ma K (He.ga K "Reading") "word") := He.meth_ok (T.fact 119 (f := .meth "Reading" "word") rfl)
theorem m_Reading_wrong (T : Txt w K mg) : MtOk K "Reading" "wrong" "Reading.wrong" s_Reading_wrong ["self"] := ⟨T.dm 64 (d := dMt "Reading" "wrong" "Reading.wrong" s_Reading_wrong) rfl rfl rfl, (T.dm 64 (d := dMt "Reading" "wrong" "Reading.wrong" s_Reading_wrong) rfl rfl rfl).bindsN (ps := ["self"]) (fun _ _ _ _ _ _ us hl => match us, hl with | [_], _ => rfl)⟩
theorem a_Reading_wrong (T : Txt w K mg) : Meth K (He.ga K "Reading") "wrong" (He.ma K (He.ga K "Reading") "wrong") := He.meth_ok (T.fact 120 (f := .meth "Reading" "wrong") rfl)
theorem m_Reading_take (T : Txt w K mg) : MtOk K "Reading" "take" "Reading.take" s_Reading_take ["self"] := ⟨T.dm 65 (d := dMt "Reading" "take" "Reading.take" s_Reading_take) rfl rfl rfl, (T.dm 65 (d := dMt "Reading" "take" "Reading.take" s_Reading_take) rfl rfl rfl).bindsN (ps := ["self"]) (fun _ _ _ _ _ _ us hl => match us, hl with | [_], _ => rfl)⟩
theorem a_Reading_take (T : Txt w K mg) : Meth K (He.ga K "Reading") "take" (He.ma K (He.ga K "Reading") "take") := He.meth_ok (T.fact 121 (f := .meth "Reading" "take") rfl)
theorem m_Reading_need (T : Txt w K mg) : MtOk K "Reading" "need" "Reading.need" s_Reading_need ["self", "word"] := ⟨T.dm 66 (d := dMt "Reading" "need" "Reading.need" s_Reading_need) rfl rfl rfl, (T.dm 66 (d := dMt "Reading" "need" "Reading.need" s_Reading_need) rfl rfl rfl).bindsN (ps := ["self", "word"]) (fun _ _ _ _ _ _ us hl => match us, hl with | [_, _], _ => rfl)⟩
theorem a_Reading_need (T : Txt w K mg) : Meth K (He.ga K "Reading") "need" (He.ma K (He.ga K "Reading") "need") := He.meth_ok (T.fact 122 (f := .meth "Reading" "need") rfl)
theorem m_Reading_name (T : Txt w K mg) : MtOk K "Reading" "name" "Reading.name" s_Reading_name ["self"] := ⟨T.dm 67 (d := dMt "Reading" "name" "Reading.name" s_Reading_name) rfl rfl rfl, (T.dm 67 (d := dMt "Reading" "name" "Reading.name" s_Reading_name) rfl rfl rfl).bindsN (ps := ["self"]) (fun _ _ _ _ _ _ us hl => match us, hl with | [_], _ => rfl)⟩
theorem a_Reading_name (T : Txt w K mg) : Meth K (He.ga K "Reading") "name" (He.ma K (He.ga K "Reading") "name") := He.meth_ok (T.fact 123 (f := .meth "Reading" "name") rfl)
theorem m_Reading_sign (T : Txt w K mg) : MtOk K "Reading" "sign" "Reading.sign" s_Reading_sign ["self"] := ⟨T.dm 68 (d := dMt "Reading" "sign" "Reading.sign" s_Reading_sign) rfl rfl rfl, (T.dm 68 (d := dMt "Reading" "sign" "Reading.sign" s_Reading_sign) rfl rfl rfl).bindsN (ps := ["self"]) (fun _ _ _ _ _ _ us hl => match us, hl with | [_], _ => rfl)⟩
theorem a_Reading_sign (T : Txt w K mg) : Meth K (He.ga K "Reading") "sign" (He.ma K (He.ga K "Reading") "sign") := He.meth_ok (T.fact 124 (f := .meth "Reading" "sign") rfl)
theorem m_Reading_number (T : Txt w K mg) : MtOk K "Reading" "number" "Reading.number" s_Reading_number ["self"] := ⟨T.dm 69 (d := dMt "Reading" "number" "Reading.number" s_Reading_number) rfl rfl rfl, (T.dm 69 (d := dMt "Reading" "number" "Reading.number" s_Reading_number) rfl rfl rfl).bindsN (ps := ["self"]) (fun _ _ _ _ _ _ us hl => match us, hl with | [_], _ => rfl)⟩
theorem a_Reading_number (T : Txt w K mg) : Meth K (He.ga K "Reading") "number" (He.ma K (He.ga K "Reading") "number") := He.meth_ok (T.fact 125 (f := .meth "Reading" "number") rfl)
theorem m_Reading_rests (T : Txt w K mg) : MtOk K "Reading" "rests" "Reading.rests" s_Reading_rests ["self"] := ⟨T.dm 70 (d := dMt "Reading" "rests" "Reading.rests" s_Reading_rests) rfl rfl rfl, (T.dm 70 (d := dMt "Reading" "rests" "Reading.rests" s_Reading_rests) rfl rfl rfl).bindsN (ps := ["self"]) (fun _ _ _ _ _ _ us hl => match us, hl with | [_], _ => rfl)⟩
theorem a_Reading_rests (T : Txt w K mg) : Meth K (He.ga K "Reading") "rests" (He.ma K (He.ga K "Reading") "rests") := He.meth_ok (T.fact 126 (f := .meth "Reading" "rests") rfl)
theorem m_Reading_look (T : Txt w K mg) : MtOk K "Reading" "look" "Reading.look" s_Reading_look ["self"] := ⟨T.dm 71 (d := dMt "Reading" "look" "Reading.look" s_Reading_look) rfl rfl rfl, (T.dm 71 (d := dMt "Reading" "look" "Reading.look" s_Reading_look) rfl rfl rfl).bindsN (ps := ["self"]) (fun _ _ _ _ _ _ us hl => match us, hl with | [_], _ => rfl)⟩
theorem a_Reading_look (T : Txt w K mg) : Meth K (He.ga K "Reading") "look" (He.ma K (He.ga K "Reading") "look") := He.meth_ok (T.fact 127 (f := .meth "Reading" "look") rfl)
theorem m_Reading_reader (T : Txt w K mg) : MtOk K "Reading" "reader" "Reading.reader" s_Reading_reader ["self"] := ⟨T.dm 72 (d := dMt "Reading" "reader" "Reading.reader" s_Reading_reader) rfl rfl rfl, (T.dm 72 (d := dMt "Reading" "reader" "Reading.reader" s_Reading_reader) rfl rfl rfl).bindsN (ps := ["self"]) (fun _ _ _ _ _ _ us hl => match us, hl with | [_], _ => rfl)⟩
theorem a_Reading_reader (T : Txt w K mg) : Meth K (He.ga K "Reading") "reader" (He.ma K (He.ga K "Reading") "reader") := He.meth_ok (T.fact 128 (f := .meth "Reading" "reader") rfl)
theorem m_Reading_claim (T : Txt w K mg) : MtOk K "Reading" "claim" "Reading.claim" s_Reading_claim ["self"] := ⟨T.dm 73 (d := dMt "Reading" "claim" "Reading.claim" s_Reading_claim) rfl rfl rfl, (T.dm 73 (d := dMt "Reading" "claim" "Reading.claim" s_Reading_claim) rfl rfl rfl).bindsN (ps := ["self"]) (fun _ _ _ _ _ _ us hl => match us, hl with | [_], _ => rfl)⟩
theorem a_Reading_claim (T : Txt w K mg) : Meth K (He.ga K "Reading") "claim" (He.ma K (He.ga K "Reading") "claim") := He.meth_ok (T.fact 129 (f := .meth "Reading" "claim") rfl)
theorem m_Reading_both (T : Txt w K mg) : MtOk K "Reading" "both" "Reading.both" s_Reading_both ["self"] := ⟨T.dm 74 (d := dMt "Reading" "both" "Reading.both" s_Reading_both) rfl rfl rfl, (T.dm 74 (d := dMt "Reading" "both" "Reading.both" s_Reading_both) rfl rfl rfl).bindsN (ps := ["self"]) (fun _ _ _ _ _ _ us hl => match us, hl with | [_], _ => rfl)⟩
theorem a_Reading_both (T : Txt w K mg) : Meth K (He.ga K "Reading") "both" (He.ma K (He.ga K "Reading") "both") := He.meth_ok (T.fact 130 (f := .meth "Reading" "both") rfl)
theorem m_Reading_part (T : Txt w K mg) : MtOk K "Reading" "part" "Reading.part" s_Reading_part ["self"] := ⟨T.dm 75 (d := dMt "Reading" "part" "Reading.part" s_Reading_part) rfl rfl rfl, (T.dm 75 (d := dMt "Reading" "part" "Reading.part" s_Reading_part) rfl rfl rfl).bindsN (ps := ["self"]) (fun _ _ _ _ _ _ us hl => match us, hl with | [_], _ => rfl)⟩
theorem a_Reading_part (T : Txt w K mg) : Meth K (He.ga K "Reading") "part" (He.ma K (He.ga K "Reading") "part") := He.meth_ok (T.fact 131 (f := .meth "Reading" "part") rfl)
theorem m_Reading_bracket (T : Txt w K mg) : MtOk K "Reading" "bracket" "Reading.bracket" s_Reading_bracket ["self"] := ⟨T.dm 76 (d := dMt "Reading" "bracket" "Reading.bracket" s_Reading_bracket) rfl rfl rfl, (T.dm 76 (d := dMt "Reading" "bracket" "Reading.bracket" s_Reading_bracket) rfl rfl rfl).bindsN (ps := ["self"]) (fun _ _ _ _ _ _ us hl => match us, hl with | [_], _ => rfl)⟩
theorem a_Reading_bracket (T : Txt w K mg) : Meth K (He.ga K "Reading") "bracket" (He.ma K (He.ga K "Reading") "bracket") := He.meth_ok (T.fact 132 (f := .meth "Reading" "bracket") rfl)
theorem m_Reading_ask (T : Txt w K mg) : MtOk K "Reading" "ask" "Reading.ask" s_Reading_ask ["self"] := ⟨T.dm 77 (d := dMt "Reading" "ask" "Reading.ask" s_Reading_ask) rfl rfl rfl, (T.dm 77 (d := dMt "Reading" "ask" "Reading.ask" s_Reading_ask) rfl rfl rfl).bindsN (ps := ["self"]) (fun _ _ _ _ _ _ us hl => match us, hl with | [_], _ => rfl)⟩
theorem a_Reading_ask (T : Txt w K mg) : Meth K (He.ga K "Reading") "ask" (He.ma K (He.ga K "Reading") "ask") := He.meth_ok (T.fact 133 (f := .meth "Reading" "ask") rfl)
theorem m_Reading_write (T : Txt w K mg) : MtOk K "Reading" "write" "Reading.write" s_Reading_write ["self"] := ⟨T.dm 78 (d := dMt "Reading" "write" "Reading.write" s_Reading_write) rfl rfl rfl, (T.dm 78 (d := dMt "Reading" "write" "Reading.write" s_Reading_write) rfl rfl rfl).bindsN (ps := ["self"]) (fun _ _ _ _ _ _ us hl => match us, hl with | [_], _ => rfl)⟩
theorem a_Reading_write (T : Txt w K mg) : Meth K (He.ga K "Reading") "write" (He.ma K (He.ga K "Reading") "write") := He.meth_ok (T.fact 134 (f := .meth "Reading" "write") rfl)
theorem m_Reading_statement (T : Txt w K mg) : MtOk K "Reading" "statement" "Reading.statement" s_Reading_statement ["self"] := ⟨T.dm 79 (d := dMt "Reading" "statement" "Reading.statement" s_Reading_statement) rfl rfl rfl, (T.dm 79 (d := dMt "Reading" "statement" "Reading.statement" s_Reading_statement) rfl rfl rfl).bindsN (ps := ["self"]) (fun _ _ _ _ _ _ us hl => match us, hl with | [_], _ => rfl)⟩
theorem a_Reading_statement (T : Txt w K mg) : Meth K (He.ga K "Reading") "statement" (He.ma K (He.ga K "Reading") "statement") := He.meth_ok (T.fact 135 (f := .meth "Reading" "statement") rfl)
theorem m_Reading_program (T : Txt w K mg) : MtOk K "Reading" "program" "Reading.program" s_Reading_program ["self"] := ⟨T.dm 80 (d := dMt "Reading" "program" "Reading.program" s_Reading_program) rfl rfl rfl, (T.dm 80 (d := dMt "Reading" "program" "Reading.program" s_Reading_program) rfl rfl rfl).bindsN (ps := ["self"]) (fun _ _ _ _ _ _ us hl => match us, hl with | [_], _ => rfl)⟩
theorem a_Reading_program (T : Txt w K mg) : Meth K (He.ga K "Reading") "program" (He.ma K (He.ga K "Reading") "program") := He.meth_ok (T.fact 136 (f := .meth "Reading" "program") rfl)
theorem m_Names_init (T : Txt w K mg) : MtOk K "Names" "__init__" "Names.__init__" s_Names_init ["self", "cells"] := ⟨T.dm 81 (d := dMt "Names" "__init__" "Names.__init__" s_Names_init) rfl rfl rfl, (T.dm 81 (d := dMt "Names" "__init__" "Names.__init__" s_Names_init) rfl rfl rfl).bindsN (ps := ["self", "cells"]) (fun _ _ _ _ _ _ us hl => match us, hl with | [_, _], _ => rfl)⟩
theorem m_Names_need_new (T : Txt w K mg) : MtOk K "Names" "need_new" "Names.need_new" s_Names_need_new ["self", "name"] := ⟨T.dm 82 (d := dMt "Names" "need_new" "Names.need_new" s_Names_need_new) rfl rfl rfl, (T.dm 82 (d := dMt "Names" "need_new" "Names.need_new" s_Names_need_new) rfl rfl rfl).bindsN (ps := ["self", "name"]) (fun _ _ _ _ _ _ us hl => match us, hl with | [_, _], _ => rfl)⟩
theorem a_Names_need_new (T : Txt w K mg) : Meth K (He.ga K "Names") "need_new" (He.ma K (He.ga K "Names") "need_new") := He.meth_ok (T.fact 137 (f := .meth "Names" "need_new") rfl)
theorem m_Names_need_cell (T : Txt w K mg) : MtOk K "Names" "need_cell" "Names.need_cell" s_Names_need_cell ["self", "cell"] := ⟨T.dm 83 (d := dMt "Names" "need_cell" "Names.need_cell" s_Names_need_cell) rfl rfl rfl, (T.dm 83 (d := dMt "Names" "need_cell" "Names.need_cell" s_Names_need_cell) rfl rfl rfl).bindsN (ps := ["self", "cell"]) (fun _ _ _ _ _ _ us hl => match us, hl with | [_, _], _ => rfl)⟩
theorem a_Names_need_cell (T : Txt w K mg) : Meth K (He.ga K "Names") "need_cell" (He.ma K (He.ga K "Names") "need_cell") := He.meth_ok (T.fact 138 (f := .meth "Names" "need_cell") rfl)
theorem m_Names_ink (T : Txt w K mg) : MtOk K "Names" "ink" "Names.ink" s_Names_ink ["self", "told"] := ⟨T.dm 84 (d := dMt "Names" "ink" "Names.ink" s_Names_ink) rfl rfl rfl, (T.dm 84 (d := dMt "Names" "ink" "Names.ink" s_Names_ink) rfl rfl rfl).bindsN (ps := ["self", "told"]) (fun _ _ _ _ _ _ us hl => match us, hl with | [_, _], _ => rfl)⟩
theorem a_Names_ink (T : Txt w K mg) : Meth K (He.ga K "Names") "ink" (He.ma K (He.ga K "Names") "ink") := He.meth_ok (T.fact 139 (f := .meth "Names" "ink") rfl)
theorem m_Names_write (T : Txt w K mg) : MtOk K "Names" "write" "Names.write" s_Names_write ["self", "told"] := ⟨T.dm 85 (d := dMt "Names" "write" "Names.write" s_Names_write) rfl rfl rfl, (T.dm 85 (d := dMt "Names" "write" "Names.write" s_Names_write) rfl rfl rfl).bindsN (ps := ["self", "told"]) (fun _ _ _ _ _ _ us hl => match us, hl with | [_, _], _ => rfl)⟩
theorem a_Names_write (T : Txt w K mg) : Meth K (He.ga K "Names") "write" (He.ma K (He.ga K "Names") "write") := He.meth_ok (T.fact 140 (f := .meth "Names" "write") rfl)
theorem m_Names_reader (T : Txt w K mg) : MtOk K "Names" "reader" "Names.reader" s_Names_reader ["self", "told"] := ⟨T.dm 86 (d := dMt "Names" "reader" "Names.reader" s_Names_reader) rfl rfl rfl, (T.dm 86 (d := dMt "Names" "reader" "Names.reader" s_Names_reader) rfl rfl rfl).bindsN (ps := ["self", "told"]) (fun _ _ _ _ _ _ us hl => match us, hl with | [_, _], _ => rfl)⟩
theorem a_Names_reader (T : Txt w K mg) : Meth K (He.ga K "Names") "reader" (He.ma K (He.ga K "Names") "reader") := He.meth_ok (T.fact 141 (f := .meth "Names" "reader") rfl)
theorem m_Names_ask (T : Txt w K mg) : MtOk K "Names" "ask" "Names.ask" s_Names_ask ["self", "told"] := ⟨T.dm 87 (d := dMt "Names" "ask" "Names.ask" s_Names_ask) rfl rfl rfl, (T.dm 87 (d := dMt "Names" "ask" "Names.ask" s_Names_ask) rfl rfl rfl).bindsN (ps := ["self", "told"]) (fun _ _ _ _ _ _ us hl => match us, hl with | [_, _], _ => rfl)⟩
theorem a_Names_ask (T : Txt w K mg) : Meth K (He.ga K "Names") "ask" (He.ma K (He.ga K "Names") "ask") := He.meth_ok (T.fact 142 (f := .meth "Names" "ask") rfl)
theorem m_Runner_init (T : Txt w K mg) : MtOk K "Runner" "__init__" "Runner.__init__" s_Runner_init ["self", "cells"] := ⟨T.dm 88 (d := dMt "Runner" "__init__" "Runner.__init__" s_Runner_init) rfl rfl rfl, (T.dm 88 (d := dMt "Runner" "__init__" "Runner.__init__" s_Runner_init) rfl rfl rfl).bindsN (ps := ["self", "cells"]) (fun _ _ _ _ _ _ us hl => match us, hl with | [_, _], _ => rfl)⟩
theorem m_Runner_plan (T : Txt w K mg) : MtOk K "Runner" "plan" "Runner.plan" s_Runner_plan ["self"] := ⟨T.dm 89 (d := dMt "Runner" "plan" "Runner.plan" s_Runner_plan) rfl rfl rfl, (T.dm 89 (d := dMt "Runner" "plan" "Runner.plan" s_Runner_plan) rfl rfl rfl).bindsN (ps := ["self"]) (fun _ _ _ _ _ _ us hl => match us, hl with | [_], _ => rfl)⟩
theorem a_Runner_plan (T : Txt w K mg) : Meth K (He.ga K "Runner") "plan" (He.ma K (He.ga K "Runner") "plan") := He.meth_ok (T.fact 143 (f := .meth "Runner" "plan") rfl)
theorem m_Runner_answer (T : Txt w K mg) : MtOk K "Runner" "answer" "Runner.answer" s_Runner_answer ["self", "told"] := ⟨T.dm 90 (d := dMt "Runner" "answer" "Runner.answer" s_Runner_answer) rfl rfl rfl, (T.dm 90 (d := dMt "Runner" "answer" "Runner.answer" s_Runner_answer) rfl rfl rfl).bindsN (ps := ["self", "told"]) (fun _ _ _ _ _ _ us hl => match us, hl with | [_, _], _ => rfl)⟩
theorem a_Runner_answer (T : Txt w K mg) : Meth K (He.ga K "Runner") "answer" (He.ma K (He.ga K "Runner") "answer") := He.meth_ok (T.fact 144 (f := .meth "Runner" "answer") rfl)
theorem c_Bounds (T : Txt w K mg) : mg "Bounds" = some (.ref (He.ga K "Bounds")) := T.glo (T.fact 54 (f := .glo "Bounds") rfl)
theorem cl_Bounds (T : Txt w K mg) : Cls K (He.ga K "Bounds") := He.cls_ok (T.fact 91 (f := .cls "Bounds") rfl)
theorem mk_Bounds (T : Txt w K mg) : Mk K (He.ga K "Bounds") (He.ma K (He.ga K "Bounds") "__init__") := He.mkr_ok (T.fact 95 (f := .mkr "Bounds") rfl)
theorem n_Bounds_size (T : Txt w K mg) : NoAttr K (He.ga K "Bounds") "size" := He.noat_ok (T.fact 99 (f := .noat "Bounds" "size") rfl)
theorem n_Bounds_least (T : Txt w K mg) : NoAttr K (He.ga K "Bounds") "least" := He.noat_ok (T.fact 100 (f := .noat "Bounds" "least") rfl)
theorem c_Reading (T : Txt w K mg) : mg "Reading" = some (.ref (He.ga K "Reading")) := T.glo (T.fact 55 (f := .glo "Reading") rfl)
theorem cl_Reading (T : Txt w K mg) : Cls K (He.ga K "Reading") := He.cls_ok (T.fact 92 (f := .cls "Reading") rfl)
theorem mk_Reading (T : Txt w K mg) : Mk K (He.ga K "Reading") (He.ma K (He.ga K "Reading") "__init__") := He.mkr_ok (T.fact 96 (f := .mkr "Reading") rfl)
theorem n_Reading_words (T : Txt w K mg) : NoAttr K (He.ga K "Reading") "words" := He.noat_ok (T.fact 101 (f := .noat "Reading" "words") rfl)
theorem n_Reading_at (T : Txt w K mg) : NoAttr K (He.ga K "Reading") "at" := He.noat_ok (T.fact 102 (f := .noat "Reading" "at") rfl)
theorem n_Reading_deep (T : Txt w K mg) : NoAttr K (He.ga K "Reading") "deep" := He.noat_ok (T.fact 103 (f := .noat "Reading" "deep") rfl)
theorem c_Names (T : Txt w K mg) : mg "Names" = some (.ref (He.ga K "Names")) := T.glo (T.fact 56 (f := .glo "Names") rfl)
theorem cl_Names (T : Txt w K mg) : Cls K (He.ga K "Names") := He.cls_ok (T.fact 93 (f := .cls "Names") rfl)
theorem mk_Names (T : Txt w K mg) : Mk K (He.ga K "Names") (He.ma K (He.ga K "Names") "__init__") := He.mkr_ok (T.fact 97 (f := .mkr "Names") rfl)
theorem n_Names_cells (T : Txt w K mg) : NoAttr K (He.ga K "Names") "cells" := He.noat_ok (T.fact 104 (f := .noat "Names" "cells") rfl)
theorem n_Names_inks (T : Txt w K mg) : NoAttr K (He.ga K "Names") "inks" := He.noat_ok (T.fact 105 (f := .noat "Names" "inks") rfl)
theorem n_Names_writes (T : Txt w K mg) : NoAttr K (He.ga K "Names") "writes" := He.noat_ok (T.fact 106 (f := .noat "Names" "writes") rfl)
theorem n_Names_readers (T : Txt w K mg) : NoAttr K (He.ga K "Names") "readers" := He.noat_ok (T.fact 107 (f := .noat "Names" "readers") rfl)
theorem c_Runner (T : Txt w K mg) : mg "Runner" = some (.ref (He.ga K "Runner")) := T.glo (T.fact 57 (f := .glo "Runner") rfl)
theorem cl_Runner (T : Txt w K mg) : Cls K (He.ga K "Runner") := He.cls_ok (T.fact 94 (f := .cls "Runner") rfl)
theorem mk_Runner (T : Txt w K mg) : Mk K (He.ga K "Runner") (He.ma K (He.ga K "Runner") "__init__") := He.mkr_ok (T.fact 98 (f := .mkr "Runner") rfl)
theorem n_Runner_cells (T : Txt w K mg) : NoAttr K (He.ga K "Runner") "cells" := He.noat_ok (T.fact 108 (f := .noat "Runner" "cells") rfl)
theorem n_Runner_inks (T : Txt w K mg) : NoAttr K (He.ga K "Runner") "inks" := He.noat_ok (T.fact 109 (f := .noat "Runner" "inks") rfl)
theorem n_Runner_writes (T : Txt w K mg) : NoAttr K (He.ga K "Runner") "writes" := He.noat_ok (T.fact 110 (f := .noat "Runner" "writes") rfl)
theorem n_Runner_readers (T : Txt w K mg) : NoAttr K (He.ga K "Runner") "readers" := He.noat_ok (T.fact 111 (f := .noat "Runner" "readers") rfl)
theorem f_isinstance (T : Txt w K mg) : mg "isinstance" = none := T.free (T.fact 58 (f := .free "isinstance") rfl)
theorem f_int (T : Txt w K mg) : mg "int" = none := T.free (T.fact 59 (f := .free "int") rfl)
theorem f_bool (T : Txt w K mg) : mg "bool" = none := T.free (T.fact 60 (f := .free "bool") rfl)
theorem f_str (T : Txt w K mg) : mg "str" = none := T.free (T.fact 61 (f := .free "str") rfl)
theorem f_tuple (T : Txt w K mg) : mg "tuple" = none := T.free (T.fact 62 (f := .free "tuple") rfl)
theorem f_list (T : Txt w K mg) : mg "list" = none := T.free (T.fact 63 (f := .free "list") rfl)
theorem f_dict (T : Txt w K mg) : mg "dict" = none := T.free (T.fact 64 (f := .free "dict") rfl)
theorem f_len (T : Txt w K mg) : mg "len" = none := T.free (T.fact 65 (f := .free "len") rfl)
theorem f_all (T : Txt w K mg) : mg "all" = none := T.free (T.fact 66 (f := .free "all") rfl)
theorem f_sum (T : Txt w K mg) : mg "sum" = none := T.free (T.fact 67 (f := .free "sum") rfl)
theorem f_range (T : Txt w K mg) : mg "range" = none := T.free (T.fact 68 (f := .free "range") rfl)
theorem f_enumerate (T : Txt w K mg) : mg "enumerate" = none := T.free (T.fact 69 (f := .free "enumerate") rfl)
theorem f_zip (T : Txt w K mg) : mg "zip" = none := T.free (T.fact 70 (f := .free "zip") rfl)
theorem f_sorted (T : Txt w K mg) : mg "sorted" = none := T.free (T.fact 71 (f := .free "sorted") rfl)
theorem i_MOST_CELLS (T : Txt w K mg) : ∃ t, mg "MOST_CELLS" = some (.int 4 t) := T.int (T.fact 72 (f := .int "MOST_CELLS" 4) rfl)
theorem i_MOST_INKS (T : Txt w K mg) : ∃ t, mg "MOST_INKS" = some (.int 4 t) := T.int (T.fact 73 (f := .int "MOST_INKS" 4) rfl)
theorem i_MOST_STAY (T : Txt w K mg) : ∃ t, mg "MOST_STAY" = some (.int 50 t) := T.int (T.fact 74 (f := .int "MOST_STAY" 50) rfl)
theorem i_MOST_WRITES (T : Txt w K mg) : ∃ t, mg "MOST_WRITES" = some (.int 8 t) := T.int (T.fact 75 (f := .int "MOST_WRITES" 8) rfl)
theorem i_MOST_REST (T : Txt w K mg) : ∃ t, mg "MOST_REST" = some (.int 50 t) := T.int (T.fact 76 (f := .int "MOST_REST" 50) rfl)
theorem i_MOST_LOOKS (T : Txt w K mg) : ∃ t, mg "MOST_LOOKS" = some (.int 3 t) := T.int (T.fact 77 (f := .int "MOST_LOOKS" 3) rfl)
theorem i_MOST_WAIT (T : Txt w K mg) : ∃ t, mg "MOST_WAIT" = some (.int 200 t) := T.int (T.fact 78 (f := .int "MOST_WAIT" 200) rfl)
theorem i_MOST_PARTS (T : Txt w K mg) : ∃ t, mg "MOST_PARTS" = some (.int 20 t) := T.int (T.fact 79 (f := .int "MOST_PARTS" 20) rfl)
theorem i_MOST_SLACK (T : Txt w K mg) : ∃ t, mg "MOST_SLACK" = some (.int 50 t) := T.int (T.fact 80 (f := .int "MOST_SLACK" 50) rfl)
theorem i_MOST_SIGNS (T : Txt w K mg) : ∃ t, mg "MOST_SIGNS" = some (.int 2000 t) := T.int (T.fact 81 (f := .int "MOST_SIGNS" 2000) rfl)
theorem i_MOST_DEEP (T : Txt w K mg) : ∃ t, mg "MOST_DEEP" = some (.int 30 t) := T.int (T.fact 82 (f := .int "MOST_DEEP" 30) rfl)
theorem i_MOST_NAME (T : Txt w K mg) : ∃ t, mg "MOST_NAME" = some (.int 8 t) := T.int (T.fact 83 (f := .int "MOST_NAME" 8) rfl)
theorem i_MOST_FIGURES (T : Txt w K mg) : ∃ t, mg "MOST_FIGURES" = some (.int 3 t) := T.int (T.fact 84 (f := .int "MOST_FIGURES" 3) rfl)
theorem i_SIGNS (T : Txt w K mg) : ∃ t, mg "SIGNS" = some (.str "abcdefghijklmnopqrstuvwxyz" t) := T.str (T.fact 85 (f := .str "SIGNS" "abcdefghijklmnopqrstuvwxyz") rfl)
theorem i_BARE (T : Txt w K mg) : ∃ t, mg "BARE" = some (.str "." t) := T.str (T.fact 86 (f := .str "BARE" ".") rfl)
theorem i_SMALL (T : Txt w K mg) : ∃ t, mg "SMALL" = some (.str "abcdefghijklmnopqrstuvwxyz" t) := T.str (T.fact 87 (f := .str "SMALL" "abcdefghijklmnopqrstuvwxyz") rfl)
theorem i_GREAT (T : Txt w K mg) : ∃ t, mg "GREAT" = some (.str "ABCDEFGHIJKLMNOPQRSTUVWXYZ" t) := T.str (T.fact 88 (f := .str "GREAT" "ABCDEFGHIJKLMNOPQRSTUVWXYZ") rfl)
theorem i_FIGURES (T : Txt w K mg) : ∃ t, mg "FIGURES" = some (.str "0123456789" t) := T.str (T.fact 89 (f := .str "FIGURES" "0123456789") rfl)
theorem i_SINGLE (T : Txt w K mg) : ∃ t, mg "SINGLE" = some (.str ";:,()" t) := T.str (T.fact 90 (f := .str "SINGLE" ";:,()") rfl)
theorem g_ASKS (T : Txt w K mg) : mg "ASKS" = some (.ref (He.ga K "ASKS")) := T.glo (T.fact 146 (f := .glo "ASKS") rfl)
theorem g_LEVELS (T : Txt w K mg) : mg "LEVELS" = some (.ref (He.ga K "LEVELS")) := T.glo (T.fact 145 (f := .glo "LEVELS") rfl)
theorem t_ASKS (T : Txt w K mg) (H : Hp) : SqT K H (He.ga K "ASKS") [.str "reads", .str "sure", .str "slack"] := by
  obtain ⟨_, _, _, S⟩ := T
  exact He.tupB_ok (vs := [.str "reads", .str "sure", .str "slack"]) (He.ba S.more).1 H
theorem t_LEVELS (T : Txt w K mg) : ∃ es n, KDict K w (He.ga K "LEVELS") es n := by
  obtain ⟨_, _, _, S⟩ := T
  exact S.t.tab 0 (t := (fun K => He.ga K "LEVELS", ["or", "and", "not"])) rfl
theorem v_LEVELS (T : Txt w K mg) {q : Str × He.Dv} (hq : q ∈ ([("or", .int 1), ("and", .int 2), ("not", .int 3)] : List (Str × He.Dv))) : ∃ u, PySem.W.nsIn K (He.ga K "LEVELS") q.1 = some (some u) ∧ RelV (q.2.v K) u := by
  obtain ⟨_, _, _, S⟩ := T
  exact He.valsB_ok (He.ba (He.ba S.more).2).1 hq
theorem none_booked (T : Txt w K mg) {h : Heap} (X : K.In h) (L : h.NoLimit) : NoneBooked h := by
  obtain ⟨_, _, _, S⟩ := T
  have e := (He.ba (He.ba S.more).2).2
  obtain ⟨mc, ⟨o, es, ep, ho, hd, hs, hm⟩, _⟩ := L
  refine ⟨mc, ⟨o, es, ep, ho, hd, hs, hm⟩, ?_⟩
  rw [← hm]
  unfold nbB PySem.W.nsIn at e
  cases hl : K.lookup cStatics with
  | none => rw [hl] at e; exact absurd (show false = true from e) (by decide)
  | some o2 =>
    have h2 := X _ _ hl
    rw [ho] at h2
    cases h2
    rw [hl] at e
    obtain ⟨c, d, dat, sl⟩ := o
    simp only at hd
    subst hd
    simp only at e
    unfold nsFind findBy
    cases hf : es.toList.find? (·.key.isStr sharingNotToldKey) with
    | none => rw [← Array.find?_toList, hf]; rfl
    | some x => rw [hf] at e; exact absurd (show false = true from e) (by decide)
end
end Ink
set_option Elab.async false
set_option linter.all false
set_option maxRecDepth 100000
set_option maxHeartbeats 4000000
namespace Ink
open PySem PySem.Spec PyProof.Rows L2
/-! ### calls in short -/
section
variable {X : Cx} {k : Nat} {x m C q : Str} {st : Stmt} {ps : List Str} {sp : Sp} {p pos apos : Pos} {e o : Expr} {es : List Expr} {ta te : TE} {t : TA}
theorem pgi {i : Int} (h : ∃ t, X.mg x = some (.int i t)) (hg : Gl X x := by rfl) (hd : (x == ("__debug__" : Str)) = false := by decide) : PE X (.Name x pos) (tC (.int i)) := by
  obtain ⟨t, h⟩ := h
  exact pe_glob hg h ⟨t, rfl⟩ hd
theorem pgs {z : Str} (h : ∃ t, X.mg x = some (.str z t)) (hg : Gl X x := by rfl) (hd : (x == ("__debug__" : Str)) = false := by decide) : PE X (.Name x pos) (tC (.str z)) := by
  obtain ⟨t, h⟩ := h
  exact pe_glob hg h ⟨t, rfl⟩ hd
theorem pmeth {pl : Sem Bool} (he : PE X o ta) (c : Cls X.K (He.ga X.K C)) (hm : Meth X.K (He.ga X.K C) m (He.ma X.K (He.ga X.K C) m)) (D : MtOk X.K C m q st ps)
    (F : FnOk X.prog X.w X.K X.mg X.base CX0 k (He.ma X.K (He.ga X.K C) m) (fdA X.K (He.ma X.K (He.ga X.K C) m)) ps sp) (hr : Room k X.A) (ha : PA X (e :: es) t)
    (hst : starEach (e :: es) X.env = (false, eval e X.env) :: starEach es X.env := by rfl) (hpl : (backTo pos (starEach es X.env)).any (·.1) = false := by rfl)
    (ht : eval (.Call (.Attribute o m apos) (e :: es) [] pos) X.env = (do
      let ov ← eval o X.env
      standAt apos.atName
      let (f, first) ← holding [ov] (getMethod ov m pl)
      callWith pos f first (backTo pos (starEach (e :: es) X.env)) (backToKw pos (keywordEach [] X.env))) := by rfl) :
    PE X (.Call (.Attribute o m apos) (e :: es) [] pos) (tMeth (He.ga X.K C) m sp [] E0 ta t) := pe_meth he c hm F hr D.b .nil pass0 ha hst hpl ht
theorem pmeth0 {pl : Sem Bool} (he : PE X o ta) (c : Cls X.K (He.ga X.K C)) (hm : Meth X.K (He.ga X.K C) m (He.ma X.K (He.ga X.K C) m)) (D : MtOk X.K C m q st ps)
    (F : FnOk X.prog X.w X.K X.mg X.base CX0 k (He.ma X.K (He.ga X.K C) m) (fdA X.K (He.ma X.K (He.ga X.K C) m)) ps sp) (hr : Room k X.A)
    (ht : eval (.Call (.Attribute o m apos) [] [] pos) X.env = (do
      let ov ← eval o X.env
      standAt apos.atName
      let (f, first) ← holding [ov] (getMethod ov m pl)
      callWith pos f first (backTo pos (starEach [] X.env)) (backToKw pos (keywordEach [] X.env))) := by rfl) :
    PE X (.Call (.Attribute o m apos) [] [] pos) (tMeth (He.ga X.K C) m sp [] E0 ta tNil) := pe_meth0 he c hm F hr D.b .nil pass0 ht
theorem pmake (M : Mk X.K (He.ga X.K C) (He.ma X.K (He.ga X.K C) "__init__")) (hm : X.mg C = some (.ref (He.ga X.K C))) (D : MtOk X.K C "__init__" q st ps)
    (F : FnOk X.prog X.w X.K X.mg X.base CX0 k (He.ma X.K (He.ga X.K C) "__init__") (fdA X.K (He.ma X.K (He.ga X.K C) "__init__")) ps sp) (hr : Room (k + 1) X.A) (ha : PA X (e :: es) t) (hg : Gl X C := by rfl)
    (hdb : (C == ("__debug__" : Str)) = false := by decide) (he : starEach (e :: es) X.env = (false, eval e X.env) :: starEach es X.env := by rfl) (hpl : (backTo pos (starEach es X.env)).any (·.1) = false := by rfl) :
    PE X (.Call (.Name C p) (e :: es) [] pos) (tMake (He.ga X.K C) sp [] E0 t) := pe_make M F hr hg hm D.b .nil pass0 ha hdb he hpl
/-! built-ins by name -/
theorem bb_isinstance : bootBuiltins "isinstance" = some (.builtin "isinstance") := by decide +kernel
theorem bb_len : bootBuiltins "len" = some (.builtin "len") := by decide +kernel
theorem bb_all : bootBuiltins "all" = some (.builtin "all") := by decide +kernel
theorem bb_sum : bootBuiltins "sum" = some (.builtin "sum") := by decide +kernel
theorem bb_enumerate : bootBuiltins "enumerate" = some (.type "enumerate") := by decide +kernel
theorem bb_zip : bootBuiltins "zip" = some (.type "zip") := by decide +kernel
theorem bb_sorted : bootBuiltins "sorted" = some (.builtin "sorted") := by decide +kernel
theorem bb_int : bootBuiltins "int" = some (.type "int") := by decide +kernel
theorem bb_bool : bootBuiltins "bool" = some (.type "bool") := by decide +kernel
theorem bb_str : bootBuiltins "str" = some (.type "str") := by decide +kernel
theorem bb_tuple : bootBuiltins "tuple" = some (.type "tuple") := by decide +kernel
theorem bb_list : bootBuiltins "list" = some (.type "list") := by decide +kernel
theorem bb_dict : bootBuiltins "dict" = some (.type "dict") := by decide +kernel
theorem bb_range : bootBuiltins "range" = some (.type "range") := by decide +kernel

/-! kinds of values -/
theorem kit_tt {K : PySem.W.Frag} : PySem.W.kitOne K (.type "tuple") (.type "tuple") = some true := kit_ty (by decide +kernel)
theorem kit_ss {K : PySem.W.Frag} : PySem.W.kitOne K (.type "str") (.type "str") = some true := kit_ty (by decide +kernel)
theorem kit_ii {K : PySem.W.Frag} : PySem.W.kitOne K (.type "int") (.type "int") = some true := kit_ty (by decide +kernel)
theorem kit_ib {K : PySem.W.Frag} : PySem.W.kitOne K (.type "int") (.type "bool") = some false := kit_ty (by decide +kernel)
theorem isi {K : PySem.W.Frag} {v : V} {n : String} {t : Value} {b : Bool} {H : Hp} {Q : VK} (ty : TyX K H v t) (h : PySem.W.kitOne K t (.type n) = some b) (q : Q (.bl b) H) : rIsi K [v, .ty n] H Q :=
  ⟨v, .ty n, t, .type n, b, rfl, ClsV.ty n, ty, h, q⟩
theorem tyT {K : PySem.W.Frag} {H : Hp} {a : Addr} {xs : List V} (h : SqT K H a xs) : TyX K H (.ref a) (.type "tuple") := by
  rcases h with (h | ⟨o, h⟩) | ⟨o, its, n, h, c, _⟩
  · exact .base (.tup h)
  · exact .fTuple h
  · exact .kTuple h c
theorem isiT {K : PySem.W.Frag} {a : Addr} {xs : List V} {H : Hp} {Q : VK} (h : SqT K H a xs) (q : Q (.bl true) H) : rIsi K [.ref a, .ty "tuple"] H Q := isi (tyT h) kit_tt q
theorem isiS {K : PySem.W.Frag} {z : Str} {H : Hp} {Q : VK} (q : Q (.bl true) H) : rIsi K [.str z, .ty "str"] H Q := isi (.base (.str z)) kit_ss q
theorem isiI {K : PySem.W.Frag} {i : Int} {H : Hp} {Q : VK} (q : Q (.bl true) H) : rIsi K [.int i, .ty "int"] H Q := isi (.base (.int i)) kit_ii q
theorem isiB {K : PySem.W.Frag} {i : Int} {H : Hp} {Q : VK} (q : Q (.bl false) H) : rIsi K [.int i, .ty "bool"] H Q := isi (.base (.int i)) kit_ib q
/-! tests whose answer is known -/
theorem iteDT {p A B : Prop} [Decidable p] (hp : p) (h : A) : if decide p = true then A else B := by rw [if_pos (decide_eq_true hp)]; exact h
theorem iteDF {p A B : Prop} [Decidable p] (hp : ¬ p) (h : B) : if decide p = true then A else B := by rw [if_neg (by rw [decide_eq_true_eq]; exact hp)]; exact h
theorem iteNT {p A B : Prop} [Decidable p] (hp : ¬ p) (h : A) : if (!decide p) = true then A else B := by rw [if_pos (by rw [decide_eq_false hp]; rfl)]; exact h
theorem iteNF {p A B : Prop} [Decidable p] (hp : p) (h : B) : if (!decide p) = true then A else B := by rw [if_neg (by rw [decide_eq_true hp]; simp)]; exact h
theorem iteE {b : Bool} {A B : Prop} (hb : b = true) (h : A) : if b = true then A else B := by rw [if_pos hb]; exact h
theorem iteEF {b : Bool} {A B : Prop} (hb : b = false) (h : B) : if b = true then A else B := by rw [if_neg (by rw [hb]; decide)]; exact h
theorem qb {b c : Bool} {H : Hp} {Q : VK} (e : b = c) (q : Q (.bl c) H) : Q (.bl b) H := by rw [e]; exact q
theorem qv {v u : V} {H : Hp} {Q : VK} (e : v = u) (q : Q u H) : Q v H := by rw [e]; exact q
theorem tyes {σ : L2.St} {H : Hp} {Q : Bool → Hp → Prop} (h : Q true H) : tYes σ H Q := h
/-! ### what may change: the things at S alone; tuples and locked things never -/
structure Kp (S : List Addr) (H H' : Hp) : Prop where
  keep : ∀ b o, H b = some o → b ∉ S → H' b = some o
  tup : ∀ b xs, H b = some (.tup xs) → H' b = some (.tup xs)
  frz : ∀ b o u, H b = some (.frz o u) → H' b = some (.frz o u)
theorem Kp.refl (S : List Addr) (H : Hp) : Kp S H H := ⟨fun _ _ h _ => h, fun _ _ h => h, fun _ _ _ h => h⟩
theorem Kp.trans {S : List Addr} {H H1 H2 : Hp} (a : Kp S H H1) (b : Kp S H1 H2) : Kp S H H2 :=
  ⟨fun c o h n => b.keep c o (a.keep c o h n) n, fun c xs h => b.tup c xs (a.tup c xs h), fun c o u h => b.frz c o u (a.frz c o u h)⟩
theorem Kp.of {S : List Addr} {H H' : Hp} (h : Same H H') : Kp S H H' := ⟨fun b o e _ => h b o e, fun b xs e => h b _ e, fun b o u e => h b _ e⟩
theorem Kp.same {H H' : Hp} (h : Kp [] H H') : Same H H' := fun b o e => h.keep b o e (by simp)
theorem Kp.mono {S S' : List Addr} {H H' : Hp} (h : Kp S H H') (s : ∀ a ∈ S, a ∈ S') : Kp S' H H' := ⟨fun b o e n => h.keep b o e fun q => n (s _ q), h.tup, h.frz⟩
theorem Kp.mono0 {S : List Addr} {H H' : Hp} (h : Kp [] H H') : Kp S H H' := h.mono (by simp)
/-- a new thing -/
theorem Kp.new {S : List Addr} {H : Hp} {p : Addr} {o : HO} (h : H p = none) : Kp S H (upd H p o) :=
  .of fun b u e => by rw [upd_ne (ne_of_none e h)]; exact e
theorem Kp.newT {S : List Addr} {H H1 : Hp} {p : Addr} {o : HO} (k : Kp S H H1) (h : H1 p = none) : Kp S H (upd H1 p o) := k.trans (.new h)
def isMut : HO → Bool
  | .tup _ => false
  | .frz _ _ => false
  | _ => true
/-- a thing at S written -/
theorem Kp.put {S : List Addr} {H : Hp} {p : Addr} {o u : HO} (hs : p ∈ S) (h : H p = some u) (m : isMut u = true) : Kp S H (upd H p o) := by
  refine ⟨fun b v e n => ?_, fun b xs e => ?_, fun b w v e => ?_⟩
  · rw [upd_ne (show b ≠ p from fun q => n (by rw [q]; exact hs))]; exact e
  · have : b ≠ p := fun q => by subst q; rw [e] at h; cases h; cases m
    rw [upd_ne this]; exact e
  · have : b ≠ p := fun q => by subst q; rw [e] at h; cases h; cases m
    rw [upd_ne this]; exact e
/-- a thing that is new since H may change as it likes -/
theorem Kp.putN {S : List Addr} {H H1 : Hp} {p : Addr} {o : HO} (k : Kp S H H1) (h0 : H p = none) : Kp S H (upd H1 p o) := by
  refine ⟨fun b v e n => ?_, fun b xs e => ?_, fun b w v e => ?_⟩
  · rw [upd_ne (ne_of_none e h0)]; exact k.keep b v e n
  · rw [upd_ne (ne_of_none e h0)]; exact k.tup b xs e
  · rw [upd_ne (ne_of_none e h0)]; exact k.frz b w v e
/-- behind a change of new things (S) nothing of before has changed -/
theorem Kp.drop {S S' : List Addr} {H H1 H2 : Hp} (k : Kp S' H H1) (k2 : Kp S H1 H2) (h : ∀ a ∈ S, H a = none ∨ a ∈ S') : Kp S' H H2 := by
  refine ⟨fun b v e n => ?_, fun b xs e => k2.tup b xs (k.tup b xs e), fun b w v e => k2.frz b w v (k.frz b w v e)⟩
  refine k2.keep b v (k.keep b v e n) fun q => ?_
  rcases h b q with z | z
  · rw [z] at e; cases e
  · exact n z
theorem Kp.free {H H' : Hp} {p : Addr} (k : Kp [] H H') (h : H' p = none) : H p = none := k.same.free h
theorem Kp.freeS {S : List Addr} {H H' : Hp} {p : Addr} (k : Kp S H H') (hs : ∀ a ∈ S, ∃ o, H' a = some o) (h : H' p = none) : H p = none := by
  cases e : H p with
  | none => rfl
  | some o =>
    by_cases q : p ∈ S
    · obtain ⟨u, hu⟩ := hs p q
      rw [hu] at h; cases h
    · rw [k.keep p o e q] at h; cases h
section
variable {K : PySem.W.Frag} {S : List Addr} {H H' : Hp} {a : Addr} {xs : List V}
theorem kpT (h : SqT K H a xs) (k : Kp S H H') : SqT K H' a xs := by
  rcases h with (h | ⟨o, h⟩) | h
  · exact .inl (.inl (k.tup _ _ h))
  · exact .inl (.inr ⟨o, k.frz _ _ _ h⟩)
  · exact .inr h
theorem pkp {α β : Type} {F G : α → β → Prop} {l₁ : List α} {l₂ : List β} (h : Paired F l₁ l₂) (k : ∀ a b, F a b → G a b) : Paired G l₁ l₂ := Paired.mapP h k
end
theorem paired_len {α β : Type} {F : α → β → Prop} : ∀ {l₁ : List α} {l₂ : List β}, Paired F l₁ l₂ → l₁.length = l₂.length
  | _, _, .nil => rfl
  | _, _, .cons _ h => congrArg Nat.succ (paired_len h)
theorem paired_at {α β : Type} {F : α → β → Prop} : ∀ {l₁ : List α} {l₂ : List β} {i : Nat} {x : α}, Paired F l₁ l₂ → l₁[i]? = some x → ∃ y, l₂[i]? = some y ∧ F x y
  | _, _, i, _, .nil, e => by cases i <;> cases e
  | _, _, 0, _, .cons h _, e => ⟨_, rfl, by cases e; exact h⟩
  | _, _, i + 1, _, .cons _ h, e => paired_at (i := i) h e
theorem paired_at' {α β : Type} {F : α → β → Prop} : ∀ {l₁ : List α} {l₂ : List β} {i : Nat} {y : β}, Paired F l₁ l₂ → l₂[i]? = some y → ∃ x, l₁[i]? = some x ∧ F x y
  | _, _, i, _, .nil, e => by cases i <;> cases e
  | _, _, 0, _, .cons h _, e => ⟨_, rfl, by cases e; exact h⟩
  | _, _, i + 1, _, .cons _ h, e => paired_at' (i := i) h e
theorem paired_snoc {α β : Type} {F : α → β → Prop} : ∀ {l₁ : List α} {l₂ : List β} {x : α} {y : β}, Paired F l₁ l₂ → F x y → Paired F (l₁ ++ [x]) (l₂ ++ [y])
  | _, _, _, _, .nil, h => .cons h .nil
  | _, _, _, _, .cons a b, h => .cons a (paired_snoc b h)
theorem paired_app {α β : Type} {F : α → β → Prop} : ∀ {l₁ m₁ : List α} {l₂ m₂ : List β}, Paired F l₁ l₂ → Paired F m₁ m₂ → Paired F (l₁ ++ m₁) (l₂ ++ m₂)
  | _, _, _, _, .nil, h => h
  | _, _, _, _, .cons a b, h => .cons a (paired_app b h)
/-! ### the data -/
/-- a text of one sign -/
abbrev sg (c : Nat) : Str := ⟨#[c]⟩
structure Wr where
  cell : Int
  sign : Nat
  ink : Int
  low : Int
  high : Int
structure Lk where
  cell : Int
  low : Int
  high : Int
structure Pl where
  cells : Int
  stays : List Int
  ws : List Wr
structure Rdr where
  start : Option Nat
  looks : List Lk
def startV : Option Nat → V
  | none => .non
  | some n => .int (n : Int)
def IsWr (K : PySem.W.Frag) (H : Hp) (v : V) (x : Wr) : Prop := ∃ a, v = .ref a ∧ SqT K H a [.int x.cell, .str (sg x.sign), .int x.ink, .int x.low, .int x.high]
def IsLk (K : PySem.W.Frag) (H : Hp) (v : V) (x : Lk) : Prop := ∃ a, v = .ref a ∧ SqT K H a [.int x.cell, .int x.low, .int x.high]
def IsPl (K : PySem.W.Frag) (H : Hp) (v : V) (p : Pl) : Prop := ∃ a b c vs, v = .ref a ∧ SqT K H a [.int p.cells, .ref b, .ref c] ∧ SqT K H b (p.stays.map V.int) ∧ SqT K H c vs ∧ Paired (IsWr K H) vs p.ws
def IsRdr (K : PySem.W.Frag) (H : Hp) (v : V) (r : Rdr) : Prop := ∃ a b vs, v = .ref a ∧ SqT K H a [startV r.start, .ref b] ∧ SqT K H b vs ∧ Paired (IsLk K H) vs r.looks
section
variable {K : PySem.W.Frag} {S : List Addr} {H H' : Hp} {v : V}
theorem IsWr.kp {x : Wr} (h : IsWr K H v x) (k : Kp S H H') : IsWr K H' v x := let ⟨a, e, s⟩ := h; ⟨a, e, kpT s k⟩
theorem IsLk.kp {x : Lk} (h : IsLk K H v x) (k : Kp S H H') : IsLk K H' v x := let ⟨a, e, s⟩ := h; ⟨a, e, kpT s k⟩
theorem IsPl.kp {x : Pl} (h : IsPl K H v x) (k : Kp S H H') : IsPl K H' v x := let ⟨a, b, c, vs, e, s1, s2, s3, q⟩ := h; ⟨a, b, c, vs, e, kpT s1 k, kpT s2 k, kpT s3 k, pkp q fun _ _ z => z.kp k⟩
theorem IsRdr.kp {x : Rdr} (h : IsRdr K H v x) (k : Kp S H H') : IsRdr K H' v x := let ⟨a, b, vs, e, s1, s2, q⟩ := h; ⟨a, b, vs, e, kpT s1 k, kpT s2 k, pkp q fun _ _ z => z.kp k⟩
end
structure Wr.Ok (cells inks : Nat) (x : Wr) : Prop where
  c0 : 0 ≤ x.cell
  c1 : x.cell < cells
  s0 : 97 ≤ x.sign
  s1 : x.sign ≤ 122
  i0 : 0 ≤ x.ink
  i1 : x.ink < inks
  l0 : 0 ≤ x.low
  l1 : x.low ≤ x.high
  h1 : x.high ≤ 50
structure Lk.Ok (cells : Int) (x : Lk) : Prop where
  c0 : 0 ≤ x.cell
  c1 : x.cell < cells
  l0 : 0 ≤ x.low
  l1 : x.low ≤ x.high
  h1 : x.high ≤ 200
structure Pl.Ok (p : Pl) : Prop where
  c0 : 1 ≤ p.cells
  c1 : p.cells ≤ 4
  n0 : 1 ≤ p.stays.length
  n1 : p.stays.length ≤ 4
  st : ∀ x ∈ p.stays, 1 ≤ x ∧ x ≤ 50
  wn : p.ws.length ≤ 4
  ws : ∀ x ∈ p.ws, x.Ok p.cells.toNat p.stays.length
structure Rdr.Ok (p : Pl) (r : Rdr) : Prop where
  st : ∀ n, r.start = some n → n < p.ws.length
  n0 : 1 ≤ r.looks.length
  n1 : r.looks.length ≤ 2
  ls : ∀ x ∈ r.looks, x.Ok p.cells
end
end Ink
set_option Elab.async false
set_option linter.all false
set_option maxRecDepth 100000
set_option maxHeartbeats 4000000
namespace Ink
open PySem PySem.Spec PyProof.Rows L2
/-! ### what enumerate and zip walk: a list, a tuple, a text; Ok H xs: its items -/
abbrev signsV (z : Str) : List V := z.cps.toList.map fun c => V.str (sg c)
def OkL (K : PySem.W.Frag) (a : Addr) : Hp → List V → Prop := fun H xs => SqL K H a xs
def OkT (K : PySem.W.Frag) (a : Addr) : Hp → List V → Prop := fun H xs => SqT K H a xs
def OkS (z : Str) : Hp → List V → Prop := fun _ xs => xs = signsV z
/-- an iterator at it over such a thing; ItS its own cell's state -/
structure Src (P : Program) (w : World) (K : PySem.W.Frag) (it : Addr) (ItS : Nat → Heap → Prop) (Ok : Hp → List V → Prop) : Prop where
  obj : ∀ i h, ItS i h → ∃ o, h.get? it = some o ∧ ∀ v, o.data ≠ .cell v
  keep : ∀ i h h', ItS i h → (∀ o, h.get? it = some o → h'.get? it = some o) → ItS i h'
  inj : ∀ (X : Cx), X.K = K → ∀ (pins : List (Addr × Obj)) (σ : L2.St) (H : Hp) (s : Shared) xs ys, Inv X pins σ H s → Ok H xs → Ok H ys → xs = ys
  draws : ∀ (X : Cx), X.prog = P → X.w = w → X.K = K → X.calm = true → ∀ (pins : List (Addr × Obj)) (σ : L2.St) (H : Hp) (s : Shared) (xs : List V) (i : Nat), Inv X pins σ H s → Ok H xs → ItS i s.heap → H it = none →
    ∃ (fp : List Addr) (PP : Nat → Value → Prop) (St : Nat → Heap → Prop), (∀ A : Around, A.handled = none → Draws P w A it fp xs.length PP St) ∧ St i s.heap ∧ (∀ i h, St i h → ItS i h) ∧ (∀ j u, PP j u → ∃ x, xs[j]? = some x ∧ RelV x u) ∧ it ∈ fp ∧
      ∀ e, FpOk X pins H e → e ≠ it → e ∉ fp
theorem ne_src {X : Cx} {pins : List (Addr × Obj)} {σ : L2.St} {H : Hp} {s : Shared} {a e : Addr} (I : Inv X pins σ H s) (f : FpOk X pins H e) (h : (∃ o, H a = some o) ∨ ∃ o, X.K.lookup a = some o) : e ≠ a := by
  intro q
  subst q
  rcases h with ⟨o, h⟩ | ⟨o, h⟩
  · rw [f.1] at h; cases h
  · have b := I.ok.mod.kin _ _ h
    rcases f.2.2.2.1 with z | z
    · exact I.ok.noex _ _ b z
    · have := Heap.lt_size b
      exact absurd (Nat.lt_of_lt_of_le this I.ok.bsz) (Nat.not_lt.mpr z)
theorem rd_or {K : PySem.W.Frag} {H : Hp} {a : Addr} {xs : List V} (h : SqT K H a xs) : (∃ o, H a = some o) ∨ ∃ o, K.lookup a = some o := by
  rcases h with (h | ⟨o, h⟩) | ⟨o, its, n, h, _⟩
  · exact .inl ⟨_, h⟩
  · exact .inl ⟨_, h⟩
  · exact .inr ⟨_, h⟩
theorem rdL_or {K : PySem.W.Frag} {H : Hp} {a : Addr} {xs : List V} (h : SqL K H a xs) : (∃ o, H a = some o) ∨ ∃ o, K.lookup a = some o := by
  rcases h with (h | ⟨o, h⟩) | ⟨o, its, n, h, _⟩
  · exact .inl ⟨_, h⟩
  · exact .inl ⟨_, h⟩
  · exact .inr ⟨_, h⟩
theorem vals_arr {xs : List V} {its : List Value} (r : Vals xs its) {j : Nat} {u : Value} (h : its.toArray[j]? = some u) : ∃ x, xs[j]? = some x ∧ RelV x u := by
  rw [List.getElem?_toArray] at h
  exact paired_at' r h
theorem src_list {P : Program} {w : World} {K : PySem.W.Frag} (a it : Addr) : Src P w K it (fun i h => h.IsListIter it a i) (OkL K a) where
  obj := fun i h st => by
    obtain ⟨o, ho, hc, hd⟩ := st
    exact ⟨o, ho, fun v q => by rw [hd] at q; cases q⟩
  keep := fun i h h' st k => st.at k
  inj := fun X hK pins σ H s xs ys I h1 h2 => by subst hK; exact I.list_inj h1 h2
  draws := fun X hP hw hK hc pins σ H s xs i I h st hn => by
    subst hP hw hK
    obtain ⟨its, rv, p, hz⟩ := I.list h
    have hl := rv.length
    have hsz : its.toArray.size = xs.length := by simp [hl]
    have hne : a ≠ it := by
      obtain ⟨o, ho, hcl, hd⟩ := st
      obtain ⟨o2, h2, hc2, _⟩ := p.isList
      intro q
      rw [← q, h2] at ho
      cases ho
      rw [hc2] at hcl
      injection hcl with z
      exact absurd z (by decide)
    refine ⟨[it, a], fun j u => its.toArray[j]? = some u, fun i h => h.IsListIter it a i ∧ h.IsList a its.toArray, fun A hA => ?_, ⟨st, p.isList⟩, fun _ _ z => z.1, fun j u z => vals_arr rv z, by simp, fun e f he hm => ?_⟩
    · rw [← hsz]; exact Draws.list hA it a hne its.toArray
    · rcases List.mem_cons.mp hm with q | q
      · exact he q
      · exact ne_src I f (rdL_or h) (by simpa using q)
theorem src_tup {P : Program} {w : World} {K : PySem.W.Frag} (a it : Addr) : Src P w K it (fun i h => h.IsTupleIter it a i) (OkT K a) where
  obj := fun i h st => by
    obtain ⟨o, ho, hc, hd⟩ := st
    exact ⟨o, ho, fun v q => by rw [hd] at q; cases q⟩
  keep := fun i h h' st k => st.at k
  inj := fun X hK pins σ H s xs ys I h1 h2 => by subst hK; exact I.tuple_inj h1 h2
  draws := fun X hP hw hK hc pins σ H s xs i I h st hn => by
    subst hP hw hK
    obtain ⟨its, rv, p, hz⟩ := I.tuple h
    have hl := rv.length
    have hsz : its.toArray.size = xs.length := by simp [hl]
    have hne : a ≠ it := by
      obtain ⟨o, ho, hcl, hd⟩ := st
      obtain ⟨o2, h2, hc2, _⟩ := id p
      intro q
      rw [← q, h2] at ho
      cases ho
      rw [hc2] at hcl
      injection hcl with z
      exact absurd z (by decide)
    refine ⟨[it, a], fun j u => its.toArray[j]? = some u, fun i h => h.IsTupleIter it a i ∧ h.IsTuple a its.toArray, fun A hA => ?_, ⟨st, p⟩, fun _ _ z => z.1, fun j u z => vals_arr rv z, by simp, fun e f he hm => ?_⟩
    · rw [← hsz]; exact Draws.tuple hA it a hne its.toArray
    · rcases List.mem_cons.mp hm with q | q
      · exact he q
      · exact ne_src I f (rd_or h) (by simpa using q)
theorem src_str {P : Program} {w : World} {K : PySem.W.Frag} (z : Str) (t : Tok) (it : Addr) : Src P w K it (fun i h => h.IsStrIter it (strIterType z) z t i) (OkS z) where
  obj := fun i h st => by
    obtain ⟨o, ho, hc, hd⟩ := st
    exact ⟨o, ho, fun v q => by rw [hd] at q; cases q⟩
  keep := fun i h h' st k => let ⟨o, ho, r⟩ := st; ⟨o, k o ho, r⟩
  inj := fun X hK pins σ H s xs ys I h1 h2 => h1.trans h2.symm
  draws := fun X hP hw hK hc pins σ H s xs i I h st hn => by
    subst hP hw hK
    have hsz : z.cps.size = xs.length := by rw [show xs = signsV z from h]; simp
    refine ⟨[it], fun i v => ∃ c u, z.cps[i]? = some c ∧ v = .str ⟨#[c]⟩ u, fun i h => h.IsStrIter it (strIterType z) z t i, fun A hA => ?_, st, fun _ _ z => z, fun j u q => ?_, by simp, fun e f he hm => ?_⟩
    · rw [← hsz]; exact Draws.text hA it z t
    · obtain ⟨c, tk, hcx, rfl⟩ := q
      refine ⟨.str (sg c), ?_, ⟨tk, rfl⟩⟩
      rw [show xs = signsV z from h, List.getElem?_map, Array.getElem?_toList, hcx]
      all_goals rfl
    · exact he (by simpa using hm)
/-! ### enumerate -/
def ItE (Ok : Hp → List V → Prop) : It :=
  ⟨fun i H => ∃ (xs : List V) (x : V), Ok H xs ∧ xs[i]? = some x, fun i H v H' => ∃ T x, v = .ref T ∧ H T = none ∧ H' = upd H T (.tup [.int (i : Nat), x]) ∧ ∀ xs, Ok H xs → xs[i]? = some x, fun i H => ∃ xs : List V, Ok H xs ∧ xs.length = i⟩
theorem turn_enumG {P : Program} {w : World} {K : PySem.W.Frag} {elts : List Expr} {kk : Nat} {tpos : Pos} {e it : Addr} {ItS : Nat → Heap → Prop} {Ok : Hp → List V → Prop} (S : Src P w K it ItS Ok) :
    Turn P w K (.Tuple elts kk tpos) (ItE Ok) [e, it] e (fun i h => (∃ old, IsEnum h e it ((i : Nat) : Int) old) ∧ ItS i h ∧ e ≠ it) where
  mem := by simp
  obj := fun i h st b hb => by
    obtain ⟨⟨old, he⟩, hi, _⟩ := st
    have e' : b = e ∨ b = it := by simpa using hb
    rcases e' with z | z
    · rw [z]; exact ⟨_, he, fun v q => nomatch q⟩
    · rw [z]; exact S.obj i h hi
  keep := fun i h h' st k => let ⟨⟨old, he⟩, hi, hne⟩ := st; ⟨⟨old, k e (by simp) _ he⟩, S.keep i h h' hi fun o q => k it (by simp) o q, hne⟩
  item := by
    intro X hP hw hK hc i pins s σ H E I hf st hg
    obtain ⟨⟨old, he⟩, hit, hne⟩ := st
    obtain ⟨xs, x, hq, hx⟩ := hg
    obtain ⟨fp, PP, St, D, hst, hback, hP2, hmem, hout⟩ := S.draws X hP hw hK hc pins σ H s xs i I hq hit (hf it (by simp)).1
    have hef : e ∉ fp := hout e (hf e (by simp)) hne
    have hh : X.A.handled = none := I.ok.hd hc
    have hi : i < xs.length := (List.getElem?_eq_some_iff.mp hx).1
    subst hP hw hK
    have hel : e < s.heap.objs.size := Heap.lt_size he
    have hil : it < s.heap.objs.size := by obtain ⟨o, q, _⟩ := S.obj i _ hit; exact Heap.lt_size q
    refine wpAny_pyNext_enum_itemC (D X.A.in1 hh) he hst hi hne hef fun u h' tk hu ho hst' hT hsz hk => ?_
    obtain ⟨y, hy, ru⟩ := hP2 i u hu
    rw [hx] at hy
    cases hy
    refine ⟨_, rfl, wpAny_letOwnedTupleGo_enum (s := { s with heap := h', toks := tk + 1 }) ho fun h'' he' sb => ?_⟩
    have hT2 : h''.get? s.heap.objs.size = some { cls := .type "tuple", data := .seq #[.int i tk, u] } := (sb.2 _ (Nat.ne_of_gt hel)).trans hT
    have new : ObjOk X.prog X.w (upd H s.heap.objs.size (.tup [.int (i : Nat), x])) h'' s.heap.objs.size (.tup [.int (i : Nat), x]) :=
      ⟨by show 2 ≤ sizeLine; decide, [.int i tk, u], .cons ⟨_, rfl⟩ (.cons ru .nil), ⟨_, hT2, rfl, _, rfl⟩⟩
    have I1 : Inv X pins σ (upd H s.heap.objs.size (.tup [.int (i : Nat), x])) { s with heap := h'', toks := tk + 1 } :=
      I.turnedNew (ch := [e, it]) (fun b ob hb q => (sb.2 b (fun z => hb (by simp [z]))).trans (hk b ob (fun z => hb (by simp [z])) (fun z => hb (by simp [z])) q)) hf (Nat.le_refl _) new
    refine ⟨.ref s.heap.objs.size, _, I1, rfl, ⟨_, x, rfl, I.hok.fresh (Nat.le_refl _), rfl, fun ys hy => by rw [S.inj X rfl pins σ H s ys xs I hy hq]; exact hx⟩, ⟨⟨u, ?_⟩, S.keep _ _ _ (hback _ _ hst') fun o q => (sb.2 it (Ne.symm hne)).trans q, hne⟩, fun b hb => ?_⟩
    · have e1 : ((i + 1 : Nat) : Int) = (i : Int) + 1 := by omega
      rw [e1]; exact he'
    · have hb' : b < s.heap.objs.size := by
        have e' : b = e ∨ b = it := by simpa using hb
        rcases e' with z | z
        · rw [z]; exact hel
        · rw [z]; exact hil
      rw [upd_ne (Nat.ne_of_lt hb')]
      exact (hf b hb).1
  done := by
    intro X hP hw hK hc i pins s σ H E I hf st hg
    obtain ⟨⟨old, he⟩, hit, hne⟩ := st
    obtain ⟨xs, hq, hx⟩ := hg
    obtain ⟨fp, PP, St, D, hst, hback, hP2, hmem, hout⟩ := S.draws X hP hw hK hc pins σ H s xs i I hq hit (hf it (by simp)).1
    have hef : e ∉ fp := hout e (hf e (by simp)) hne
    have hh : X.A.handled = none := I.ok.hd hc
    subst hP hw hK
    obtain ⟨f0, f1, f2, f3, f4, f5⟩ := hf it (by simp)
    subst hx
    exact wpAny_pyNext_enum_endD (D X.A.in1 hh) he hst fun h' eb => ⟨rfl, I.turned (t' := s.toks) (fun b o hb q => eb b o hb q) f0 f1 f3 f4 f5⟩
  self := fun A i s Q E st h => let ⟨⟨_, he⟩, _⟩ := st; wpAny_pyIter_enum he h
/-! ### zip -/
def ItZp (O1 O2 : Hp → List V → Prop) : It :=
  ⟨fun i H => ∃ (xs ys : List V) (x y : V), O1 H xs ∧ O2 H ys ∧ xs[i]? = some x ∧ ys[i]? = some y,
    fun i H v H' => ∃ T x y, v = .ref T ∧ H T = none ∧ H' = upd H T (.tup [x, y]) ∧ (∀ xs, O1 H xs → xs[i]? = some x) ∧ ∀ ys, O2 H ys → ys[i]? = some y,
    fun i H => ∃ xs ys : List V, O1 H xs ∧ O2 H ys ∧ i = min xs.length ys.length⟩
theorem turn_zipG {P : Program} {w : World} {K : PySem.W.Frag} {elts : List Expr} {kk : Nat} {tpos : Pos} {z TI TO i1 i2 : Addr} {S1 S2 : Nat → Heap → Prop} {O1 O2 : Hp → List V → Prop} (A1 : Src P w K i1 S1 O1) (A2 : Src P w K i2 S2 O2)
    (d1 : TI ≠ z) (d2 : TO ≠ z) (d3 : TI ≠ TO) (d4 : TI ≠ i1) (d5 : TI ≠ i2) (d6 : z ≠ i1) (d7 : z ≠ i2) (d8 : TO ≠ i1) (d9 : TO ≠ i2) (d10 : i1 ≠ i2) :
    Turn P w K (.Tuple elts kk tpos) (ItZp O1 O2) [z, TI, TO, i1, i2] z (fun i h => IsZip h z TI TO .none ∧ IsTupOf2 h TI (.ref i1) (.ref i2) ∧ (∃ x y, IsTupOf2 h TO x y) ∧ S1 i h ∧ S2 i h) where
  mem := by simp
  obj := fun i h st c hc => by
    obtain ⟨hz, hTI, ⟨x, y, hTO⟩, h1, h2⟩ := st
    have e' : c = z ∨ c = TI ∨ c = TO ∨ c = i1 ∨ c = i2 := by simpa using hc
    rcases e' with q | q | q | q | q
    · rw [q]; exact ⟨_, hz, fun v q => nomatch q⟩
    · rw [q]; exact ⟨_, hTI, fun v q => nomatch q⟩
    · rw [q]; exact ⟨_, hTO, fun v q => nomatch q⟩
    · rw [q]; exact A1.obj i h h1
    · rw [q]; exact A2.obj i h h2
  keep := fun i h h' st k => by
    obtain ⟨hz, hTI, ⟨x, y, hTO⟩, h1, h2⟩ := st
    exact ⟨k z (by simp) _ hz, k TI (by simp) _ hTI, ⟨x, y, k TO (by simp) _ hTO⟩, A1.keep _ _ _ h1 fun o q => k i1 (by simp) o q, A2.keep _ _ _ h2 fun o q => k i2 (by simp) o q⟩
  item := by
    intro X hP hw hK hc i pins s σ H E I hf st hg
    obtain ⟨hz, hTI, ⟨x0, y0, hTO⟩, h1, h2⟩ := st
    obtain ⟨xs, ys, x, y, hqx, hqy, hx, hy⟩ := hg
    obtain ⟨fp1, PP1, St1, D1, hst1, hb1, hP1, hm1, ho1⟩ := A1.draws X hP hw hK hc pins σ H s xs i I hqx h1 (hf i1 (by simp)).1
    obtain ⟨fp2, PP2, St2, D2, hst2, hb2, hP2, hm2, ho2⟩ := A2.draws X hP hw hK hc pins σ H s ys i I hqy h2 (hf i2 (by simp)).1
    have S : ZipSep2 z TI TO i1 i2 fp1 fp2 := ⟨d1, d2, d3, d4, hm1, ho1 z (hf z (by simp)) d6, ho1 TO (hf TO (by simp)) d8, d5, hm2, ho2 z (hf z (by simp)) d7, ho2 TO (hf TO (by simp)) d9, ho2 i1 (hf i1 (by simp)) d10, ho1 i2 (hf i2 (by simp)) d10.symm⟩
    have hh : X.A.handled = none := I.ok.hd hc
    have l1 : i < xs.length := (List.getElem?_eq_some_iff.mp hx).1
    have l2 : i < ys.length := (List.getElem?_eq_some_iff.mp hy).1
    subst hP hw hK
    have hzl : z < s.heap.objs.size := Heap.lt_size hz
    refine wpAny_pyNext_zipD2_item S (D1 X.A.in1 hh) (D2 X.A.in1 hh) hz hTI hTO hst1 hst2 l1 l2 fun u u2 h' tk hu hu2 z' TO' s1' s2' hT hsz hk => ?_
    obtain ⟨x', hx', ru⟩ := hP1 i u hu
    obtain ⟨y', hy', ru2⟩ := hP2 i u2 hu2
    rw [hx] at hx'
    rw [hy] at hy'
    cases hx'
    cases hy'
    refine ⟨_, rfl, wpAny_letOwnedTupleGo_zip (s := { s with heap := h', toks := tk }) z' fun h'' z'' sb => ?_⟩
    have hT2 : h''.get? s.heap.objs.size = some { cls := .type "tuple", data := .seq #[u, u2] } := (sb.2 _ (Nat.ne_of_gt hzl)).trans hT
    have new : ObjOk X.prog X.w (upd H s.heap.objs.size (.tup [x, y])) h'' s.heap.objs.size (.tup [x, y]) :=
      ⟨by show 2 ≤ sizeLine; decide, [u, u2], .cons ru (.cons ru2 .nil), ⟨_, hT2, rfl, _, rfl⟩⟩
    have I1 : Inv X pins σ (upd H s.heap.objs.size (.tup [x, y])) { s with heap := h'', toks := tk } :=
      I.turnedNew (t' := tk) (ch := [z, TI, TO, i1, i2]) (fun c o hb q => (sb.2 c (fun q' => hb (by simp [q']))).trans (hk c o (fun q' => hb (by simp [q'])) (fun q' => hb (by simp [q'])) (fun q' => hb (by simp [q'])) (fun q' => hb (by simp [q'])) q)) hf (Nat.le_refl _) new
    refine ⟨.ref s.heap.objs.size, _, I1, rfl, ⟨_, x, y, rfl, I.hok.fresh (Nat.le_refl _), rfl, fun l hl => by rw [A1.inj X rfl pins σ H s l xs I hl hqx]; exact hx, fun l hl => by rw [A2.inj X rfl pins σ H s l ys I hl hqy]; exact hy⟩, ⟨z'', ?_, ⟨u, u2, ?_⟩, ?_, ?_⟩, fun c hcm => ?_⟩
    · exact (sb.2 _ d1).trans (hk _ _ d1 d3 d4 d5 hTI)
    · exact (sb.2 _ d2).trans TO'
    · exact A1.keep _ _ _ (hb1 _ _ s1') fun o q => (sb.2 _ d6.symm).trans q
    · exact A2.keep _ _ _ (hb2 _ _ s2') fun o q => (sb.2 _ d7.symm).trans q
    · have hlt : c < s.heap.objs.size := by
        have e' : c = z ∨ c = TI ∨ c = TO ∨ c = i1 ∨ c = i2 := by simpa using hcm
        rcases e' with q | q | q | q | q
        · rw [q]; exact hzl
        · rw [q]; exact Heap.lt_size hTI
        · rw [q]; exact Heap.lt_size hTO
        · rw [q]; obtain ⟨_, e1, _⟩ := A1.obj i _ h1; exact Heap.lt_size e1
        · rw [q]; obtain ⟨_, e2, _⟩ := A2.obj i _ h2; exact Heap.lt_size e2
      rw [upd_ne (Nat.ne_of_lt hlt)]
      exact (hf c hcm).1
  done := by
    intro X hP hw hK hc i pins s σ H E I hf st hg
    obtain ⟨hz, hTI, ⟨x0, y0, hTO⟩, h1, h2⟩ := st
    obtain ⟨xs, ys, hqx, hqy, hend⟩ := hg
    obtain ⟨fp1, PP1, St1, D1, hst1, hb1, hP1, hm1, ho1⟩ := A1.draws X hP hw hK hc pins σ H s xs i I hqx h1 (hf i1 (by simp)).1
    obtain ⟨fp2, PP2, St2, D2, hst2, hb2, hP2, hm2, ho2⟩ := A2.draws X hP hw hK hc pins σ H s ys i I hqy h2 (hf i2 (by simp)).1
    have S : ZipSep2 z TI TO i1 i2 fp1 fp2 := ⟨d1, d2, d3, d4, hm1, ho1 z (hf z (by simp)) d6, ho1 TO (hf TO (by simp)) d8, d5, hm2, ho2 z (hf z (by simp)) d7, ho2 TO (hf TO (by simp)) d9, ho2 i1 (hf i1 (by simp)) d10, ho1 i2 (hf i2 (by simp)) d10.symm⟩
    have hh : X.A.handled = none := I.ok.hd hc
    subst hP hw hK
    exact wpAny_pyNext_zipD2_end S (D1 X.A.in1 hh) (D2 X.A.in1 hh) hz hTI hTO hst1 hst2 (by omega) (by omega) (by omega) fun h' tk hk => ⟨rfl, I.turnedL (t' := tk) (ch := [z, TI, TO, i1, i2]) (fun c o hb q =>
      hk c o (fun q' => hb (by simp [q'])) (fun q' => hb (by simp [q'])) (fun q' => hb (by simp [q'])) (fun q' => hb (by simp [q'])) q) hf⟩
  self := fun A i s Q E st h => wpAny_pyIter_zip st.1 h
/-! ### the rules -/
def iEnumT (K : PySem.W.Frag) (ta : TA) : TI := fun σ H R => ta σ H fun vs H1 => ∃ a xs, vs = [.ref a] ∧ SqT K H1 a xs ∧ R (ItE (OkT K a)) H1
def iEnumS (ta : TA) : TI := fun σ H R => ta σ H fun vs H1 => ∃ z, vs = [.str z] ∧ R (ItE (OkS z)) H1
section
variable {X : Cx} {e e2 : Expr} {ta : TA} {p pos tpos : Pos} {elts : List Expr} {kk : Nat}
theorem fresh2 {pins : List (Addr × Obj)} {σ : L2.St} {H : Hp} {s : Shared} {h' : Heap} (I : Inv X pins σ H s) (hk : ∀ b o, s.heap.get? b = some o → h'.get? b = some o) : ∀ b ∈ [s.heap.objs.size + 1, s.heap.objs.size], FpOk X pins H b := fun b hb => by
  have e' : b = s.heap.objs.size + 1 ∨ b = s.heap.objs.size := by simpa using hb
  have hle : s.heap.objs.size ≤ b := by
    rcases e' with z | z
    · rw [z]; exact Nat.le_add_right _ _
    · rw [z]; exact Nat.le_refl _
  exact I.fpOk hle (I.hok.fresh hle)
theorem meets_enum1 {v : Value} {o : Obj} {H : Heap → Prop} (B : Begins v o H) :
    Meets (Builtin.«enumerate.__new__» ⟨[.type "enumerate", v], []⟩) (fun _ R s => H s.heap ∧
      R (.ok (.ret (.ref (s.heap.push o).objs.size))) { s with heap := (s.heap.push o).push { cls := .type "enumerate", data := .fields #[.none, .bool false, .ref s.heap.objs.size, rawInt 0, .none, .none] } }) :=
  .of_wp fun prog w A R s h => by
    obtain ⟨hp, g, d, tk, os⟩ := s; obtain ⟨h1, h⟩ := h
    have hsub := sub_enumerate
    have q1 : ∀ {A' : Around} {E : Value → Shared → Prop} {Q : Value → Shared → Prop}, Q (.ref hp.objs.size) ⟨hp.push o, g, d, tk, os⟩ → wpAny (model prog w) A' (pyIter v) Q E ⟨hp, g, d, tk, os⟩ :=
      fun q => B.iter prog w _ _ ⟨hp, g, d, tk, os⟩ _ h1 q
    wp_walk using q1
    refine wpAny_stack_any fun st => wpAny_pure ?_
    split
    · rename_i c _ _ _ _ _
      cases (c == Value.type "enumerate")
      · wp_walk using q1
        exact ⟨_, rfl, h⟩
      · wp_walk using q1
        exact ⟨_, rfl, h⟩
    · wp_walk using q1
      exact ⟨_, rfl, h⟩
theorem enum_begun {P : Program} {w : World} {A : Around} {E : Value → Shared → Prop} {s : Shared} {v : Value} {o : Obj} {H : Heap → Prop} {Q : Value → Shared → Prop} (B : Begins v o H) (h1 : H s.heap)
    (h : ∀ h', IsEnum h' (s.heap.objs.size + 1) s.heap.objs.size 0 .none → h'.get? s.heap.objs.size = some o → (∀ b o, s.heap.get? b = some o → h'.get? b = some o) → Q (.ref (s.heap.objs.size + 1)) { s with heap := h' }) :
    wpAny (model P w) A (call (.type "enumerate") [v]) Q E s := by
  refine callType_new F.called_enumerate (by decide) (F.typeCall_enumerate_1 _) (F.newCall_enumerate_1 _) (fun obj => F.args_object_init_2 obj _) F.entry_enumerate_new
    (meets_enum1 B) ⟨h1, ?_⟩
  have hz : (s.heap.push o).objs.size = s.heap.objs.size + 1 := Heap.size_push ..
  show _ ∧ _
  rw [hz]
  have he : IsEnum ((s.heap.push o).push { cls := .type "enumerate", data := .fields #[.none, .bool false, .ref s.heap.objs.size, rawInt 0, .none, .none] }) (s.heap.objs.size + 1) s.heap.objs.size 0 .none := by
    have := Heap.get?_push_size (s.heap.push o) (o := { cls := .type "enumerate", data := .fields #[.none, .bool false, .ref s.heap.objs.size, rawInt 0, .none, .none] }) rfl
    rw [hz] at this; exact this
  exact ⟨⟨_, he, rfl⟩, h _ he (Heap.get?_push_of_some _ (Heap.get?_push_size _ B.free)) fun b o x => Heap.get?_push_of_some _ (Heap.get?_push_of_some _ x)⟩
theorem pi_enumT (hg : Gl X "enumerate") (hm : X.mg "enumerate" = none) (ha : PA X [e] ta) (hs : starEach [e] X.env = [(false, eval e X.env)] := by rfl) :
    PI X (.Tuple elts kk tpos) (.Call (.Name "enumerate" p) [e] [] pos) (iEnumT X.K ta) := by
  refine ⟨fun pins s σ H R I h => ?_⟩
  refine Call_ (ld_blt I hg hm boot_enumerate (PyProof.Rows.callWith_type1 (thn (ha.run pos pins s σ H _ I h) fun us s1 ⟨vs, H1, I1, r1, q1⟩ => ?_) hs rfl))
  obtain ⟨a, xs, ex, hq, q⟩ := q1
  subst ex
  cases r1 with
  | cons r rr =>
    cases rr
    cases r
    obtain ⟨its, rv, p', hz⟩ := I1.tuple hq
    refine enum_begun (begins_tuple a its.toArray) (show s1.heap.IsTuple a its.toArray from p') fun h' he hit hk => wpAny_pyIter_enum he ?_
    have I2 : Inv X pins σ H1 { s1 with heap := h' } := I1.kept (t' := s1.toks) hk
    exact ⟨s1.heap.objs.size + 1, [s1.heap.objs.size + 1, s1.heap.objs.size], _, _, H1, rfl, I2, turn_enumG (src_tup a s1.heap.objs.size), ⟨⟨.none, he⟩, ⟨_, hit, rfl, rfl⟩, Nat.succ_ne_self _⟩, fresh2 I1 hk, q⟩
theorem pi_enumS (hg : Gl X "enumerate") (hm : X.mg "enumerate" = none) (ha : PA X [e] ta) (hs : starEach [e] X.env = [(false, eval e X.env)] := by rfl) :
    PI X (.Tuple elts kk tpos) (.Call (.Name "enumerate" p) [e] [] pos) (iEnumS ta) := by
  refine ⟨fun pins s σ H R I h => ?_⟩
  refine Call_ (ld_blt I hg hm boot_enumerate (PyProof.Rows.callWith_type1 (thn (ha.run pos pins s σ H _ I h) fun us s1 ⟨vs, H1, I1, r1, q1⟩ => ?_) hs rfl))
  obtain ⟨z, ex, q⟩ := q1
  subst ex
  cases r1 with
  | cons r rr =>
    cases rr
    obtain ⟨t, rfl⟩ := r
    refine call_enumerate_str fun h' he hit _ hk => wpAny_pyIter_enum he ?_
    have I2 : Inv X pins σ H1 { s1 with heap := h' } := I1.kept (t' := s1.toks) hk
    exact ⟨s1.heap.objs.size + 1, [s1.heap.objs.size + 1, s1.heap.objs.size], _, _, H1, rfl, I2, turn_enumG (src_str z t s1.heap.objs.size), ⟨⟨.none, he⟩, hit, Nat.succ_ne_self _⟩, fresh2 I1 hk, q⟩
def iZipTL (K : PySem.W.Frag) (ta : TA) : TI := fun σ H R => ta σ H fun vs H1 => ∃ a b xs ys, vs = [.ref a, .ref b] ∧ SqT K H1 a xs ∧ SqL K H1 b ys ∧ R (ItZp (OkT K a) (OkL K b)) H1
def iZipLT (K : PySem.W.Frag) (ta : TA) : TI := fun σ H R => ta σ H fun vs H1 => ∃ a b xs ys, vs = [.ref a, .ref b] ∧ SqL K H1 a xs ∧ SqT K H1 b ys ∧ R (ItZp (OkL K a) (OkT K b)) H1
theorem fresh5 {pins : List (Addr × Obj)} {σ : L2.St} {H : Hp} {s : Shared} (I : Inv X pins σ H s) : ∀ c, c ∈ [s.heap.objs.size + 4, s.heap.objs.size + 2, s.heap.objs.size + 3, s.heap.objs.size, s.heap.objs.size + 1] → FpOk X pins H c := fun c hcm => by
  have e' : c = s.heap.objs.size + 4 ∨ c = s.heap.objs.size + 2 ∨ c = s.heap.objs.size + 3 ∨ c = s.heap.objs.size ∨ c = s.heap.objs.size + 1 := by simpa using hcm
  have hle : s.heap.objs.size ≤ c := by
    rcases e' with z | z | z | z | z
    · rw [z]; exact Nat.le_add_right _ _
    · rw [z]; exact Nat.le_add_right _ _
    · rw [z]; exact Nat.le_add_right _ _
    · rw [z]; exact Nat.le_refl _
    · rw [z]; exact Nat.le_add_right _ _
  exact I.fpOk hle (I.hok.fresh hle)
theorem nz (n i j : Nat) (h : i ≠ j) : (n + i : Nat) ≠ n + j := by omega
theorem nz0 (n i : Nat) (h : i ≠ 0) : (n + i : Nat) ≠ n := by omega
theorem pi_zipTL (hg : Gl X "zip") (hm : X.mg "zip" = none) (ha : PA X [e, e2] ta)
    (hs : starEach [e, e2] X.env = (false, eval e X.env) :: starEach [e2] X.env := by rfl) (hpl : (backTo pos (starEach [e2] X.env)).any (·.1) = false := by rfl) :
    PI X (.Tuple elts kk tpos) (.Call (.Name "zip" p) [e, e2] [] pos) (iZipTL X.K ta) := by
  refine ⟨fun pins s σ H R I h => ?_⟩
  refine Call_ (ld_blt I hg hm PyProof.Rows.boot_zip (PyProof.Rows.callWith_type1 (thn (ha.run pos pins s σ H _ I h) fun us s1 ⟨vs, H1, I1, r1, q1⟩ => ?_) hs hpl))
  obtain ⟨a, b, xs, ys, ex, hqx, hqy, q⟩ := q1
  subst ex
  cases r1 with
  | cons r rr =>
    cases rr with
    | cons r' rr =>
      cases rr
      cases r
      cases r'
      obtain ⟨its, rv, p1, _⟩ := I1.tuple hqx
      obtain ⟨its2, rv2, p2, _⟩ := I1.list hqy
      refine zip_begins2 (begins_tuple a its.toArray) (begins_list b its2.toArray) (show s1.heap.IsTuple a its.toArray from p1) p2.isList fun h' hz hTI hTO h1 h2 hsz hk => wpAny_pyIter_zip hz ?_
      have I2 : Inv X pins σ H1 { s1 with heap := h' } := I1.kept (t' := s1.toks) hk
      exact ⟨s1.heap.objs.size + 4, [s1.heap.objs.size + 4, s1.heap.objs.size + 2, s1.heap.objs.size + 3, s1.heap.objs.size, s1.heap.objs.size + 1], _, _, H1, rfl, I2,
        turn_zipG (src_tup a s1.heap.objs.size) (src_list b (s1.heap.objs.size + 1)) (nz _ 2 4 (by decide)) (nz _ 3 4 (by decide)) (nz _ 2 3 (by decide)) (nz0 _ 2 (by decide)) (nz _ 2 1 (by decide)) (nz0 _ 4 (by decide)) (nz _ 4 1 (by decide)) (nz0 _ 3 (by decide)) (nz _ 3 1 (by decide)) (nz0 _ 1 (by decide)).symm,
        ⟨hz, hTI, ⟨_, _, hTO⟩, ⟨_, h1, rfl, rfl⟩, ⟨_, h2, rfl, rfl⟩⟩, fresh5 I1, q⟩
theorem pi_zipLT (hg : Gl X "zip") (hm : X.mg "zip" = none) (ha : PA X [e, e2] ta)
    (hs : starEach [e, e2] X.env = (false, eval e X.env) :: starEach [e2] X.env := by rfl) (hpl : (backTo pos (starEach [e2] X.env)).any (·.1) = false := by rfl) :
    PI X (.Tuple elts kk tpos) (.Call (.Name "zip" p) [e, e2] [] pos) (iZipLT X.K ta) := by
  refine ⟨fun pins s σ H R I h => ?_⟩
  refine Call_ (ld_blt I hg hm PyProof.Rows.boot_zip (PyProof.Rows.callWith_type1 (thn (ha.run pos pins s σ H _ I h) fun us s1 ⟨vs, H1, I1, r1, q1⟩ => ?_) hs hpl))
  obtain ⟨a, b, xs, ys, ex, hqx, hqy, q⟩ := q1
  subst ex
  cases r1 with
  | cons r rr =>
    cases rr with
    | cons r' rr =>
      cases rr
      cases r
      cases r'
      obtain ⟨its, rv, p1, _⟩ := I1.list hqx
      obtain ⟨its2, rv2, p2, _⟩ := I1.tuple hqy
      refine zip_begins2 (begins_list a its.toArray) (begins_tuple b its2.toArray) p1.isList (show s1.heap.IsTuple b its2.toArray from p2) fun h' hz hTI hTO h1 h2 hsz hk => wpAny_pyIter_zip hz ?_
      have I2 : Inv X pins σ H1 { s1 with heap := h' } := I1.kept (t' := s1.toks) hk
      exact ⟨s1.heap.objs.size + 4, [s1.heap.objs.size + 4, s1.heap.objs.size + 2, s1.heap.objs.size + 3, s1.heap.objs.size, s1.heap.objs.size + 1], _, _, H1, rfl, I2,
        turn_zipG (src_list a s1.heap.objs.size) (src_tup b (s1.heap.objs.size + 1)) (nz _ 2 4 (by decide)) (nz _ 3 4 (by decide)) (nz _ 2 3 (by decide)) (nz0 _ 2 (by decide)) (nz _ 2 1 (by decide)) (nz0 _ 4 (by decide)) (nz _ 4 1 (by decide)) (nz0 _ 3 (by decide)) (nz _ 3 1 (by decide)) (nz0 _ 1 (by decide)).symm,
        ⟨hz, hTI, ⟨_, _, hTO⟩, ⟨_, h1, rfl, rfl⟩, ⟨_, h2, rfl, rfl⟩⟩, fresh5 I1, q⟩
end
/-! ### as walks (for_it, lc_it) -/
theorem walk_enumG {Ok : Hp → List V → Prop} {xs : List V} : Walk (ItE Ok) xs.length (fun H => Ok H xs) (YPair (fun i => some (.int (i : Nat))) (fun i => xs[i]?)) where
  goes := fun i H h g => ⟨xs, xs[i], g, by simp [h]⟩
  stops := fun H g => ⟨xs, g, rfl⟩
  yields := fun i H x H' _ g y => by
    obtain ⟨T, z, e, n, eH, hx⟩ := y
    exact ⟨T, _, z, e, n, eH, rfl, hx xs g⟩
theorem walk_zipG {O1 O2 : Hp → List V → Prop} {xs ys : List V} {n : Nat} (hn : n = min xs.length ys.length) : Walk (ItZp O1 O2) n (fun H => O1 H xs ∧ O2 H ys) (YPair (fun i => xs[i]?) (fun i => ys[i]?)) where
  goes := fun i H h g => ⟨xs, ys, xs[i]'(by omega), ys[i]'(by omega), g.1, g.2, by simp, by simp⟩
  stops := fun H g => ⟨xs, ys, g.1, g.2, hn⟩
  yields := fun i H x H' _ g y => by
    obtain ⟨T, z, z2, e, n, eH, hx, hy⟩ := y
    exact ⟨T, z, z2, e, n, eH, hx xs g.1, hy ys g.2⟩
end Ink
set_option Elab.async false
set_option linter.all false
set_option maxRecDepth 100000
set_option maxHeartbeats 4000000
namespace Ink
open PySem PySem.Spec PyProof.Rows L2
/-! ### keys that are pairs of small ints -/
abbrev pk (x y : Int) : List Key := [Sum.inl x, Sum.inl y]
def h2 (x y : Nat) : Int := reduceHash (Builtin.Tuple.tupleHashOf [hashInt x, hashInt y])
theorem h2_all : ((List.range 8).all fun a => (List.range 8).all fun b => (List.range 8).all fun c => (List.range 8).all fun d => (h2 a b != h2 c d) || (a == c && b == d)) = true := by decide +kernel
theorem h2_inj {a b c d : Nat} (ha : a < 8) (hb : b < 8) (hc : c < 8) (hd : d < 8) (e : h2 a b = h2 c d) : a = c ∧ b = d := by
  have h := List.all_eq_true.mp (List.all_eq_true.mp (List.all_eq_true.mp (List.all_eq_true.mp h2_all a (List.mem_range.mpr ha)) b (List.mem_range.mpr hb)) c (List.mem_range.mpr hc)) d (List.mem_range.mpr hd)
  rw [e] at h
  simpa using h
theorem pk_hash {P : Program} {w : World} (x y : Nat) : (tupleKind (mixKind P w)).hash (pk x y) = h2 x y := rfl
theorem nodup_map_on {α β : Type} {f : α → β} : ∀ {l : List α}, l.Nodup → (∀ a ∈ l, ∀ b ∈ l, f a = f b → a = b) → (l.map f).Nodup
  | [], _, _ => by simp
  | a :: l, h, hi => by
    rw [List.nodup_cons] at h
    rw [List.map_cons, List.nodup_cons]
    refine ⟨fun hm => ?_, nodup_map_on h.2 fun x hx y hy => hi x (List.mem_cons_of_mem _ hx) y (List.mem_cons_of_mem _ hy)⟩
    obtain ⟨b, hb, e⟩ := List.mem_map.mp hm
    have := hi b (List.mem_cons_of_mem _ hb) a List.mem_cons_self e
    rw [this] at hb
    exact h.1 hb
def Small (k : List Key) : Prop := ∃ x y : Nat, k = pk x y ∧ x < 8 ∧ y < 8
theorem apart {P : Program} {w : World} {ks : List (List Key)} (hn : ks.Nodup) (hs : ∀ k ∈ ks, Small k) : (ks.map (tupleKind (mixKind P w)).hash).Nodup := by
  refine nodup_map_on hn fun a ha b hb e => ?_
  obtain ⟨x, y, rfl, hx, hy⟩ := hs a ha
  obtain ⟨u, v, rfl, hu, hv⟩ := hs b hb
  rw [pk_hash, pk_hash] at e
  obtain ⟨rfl, rfl⟩ := h2_inj hx hy hu hv e
  rfl
section
variable {prog : Program} {w : World} {A : Around} {E : Value → Shared → Prop} {s : Shared}
theorem call_dict_dictH {κ : Type} [DecidableEq κ] {knd : HeapKind prog w κ} {o : Addr} {more : List (κ × Addr × Value)} {Q : Value → Shared → Prop} (hu : knd.room A.in1.in1) (hoS : (o == sysModules) = false) (ho : s.heap.DictOfH knd o more) (hsz : more.length ≤ sizeLine)
    (hty : ∀ x ∈ more, s.TypeIs (.ref x.2.1) "tuple") (hap : (more.map fun x => knd.hash x.1).Nodup) (hst : ∀ h', (∀ b ob, s.heap.get? b = some ob → h'.get? b = some ob) → ∀ x ∈ more, knd.is h' x.1 x.2.1)
    (h : ∀ h', h'.DictOfH knd s.heap.objs.size more → Heap.SameBut s.heap.objs.size (s.heap.push { cls := .type "dict", data := .dict #[] }) h' → Q (.ref s.heap.objs.size) { s with heap := h' }) :
    wpAny (model prog w) A (call (.type "dict") [.ref o]) Q E s := by
  refine callType_codes (Q₁ := fun obj s₁ => obj = .ref s.heap.objs.size ∧ s₁ = { s with heap := s.heap.push { cls := .type "dict", data := .dict #[] } }) F.kt_called_dict (F.kt_typeCall_dict_1 _) F.entry_dict_init (kt_code_dict_new _ ⟨rfl, rfl⟩) ?_
  rintro obj s₁ ⟨rfl, rfl⟩
  obtain ⟨od, es, ep, hod, hx, hdat, hes, his, hn⟩ := id ho
  have hnew : (s.heap.push { cls := .type "dict", data := .dict #[] }).DictOfH knd s.heap.objs.size [] := ⟨_, #[], 0, Heap.get?_push_size _ rfl, ⟨rfl, rfl, rfl⟩, rfl, rfl, (by simp), (by simp)⟩
  have ho' : (s.heap.push { cls := .type "dict", data := .dict #[] }).DictOfH knd o more := ⟨od, es, ep, Heap.get?_push_of_some _ hod, hx, hdat, hes, hst _ fun b ob q => Heap.get?_push_of_some _ q, hn⟩
  have hdo : s.heap.objs.size ≠ o := fun e => absurd (Heap.lt_size hod) (by rw [e]; exact Nat.lt_irrefl _)
  refine ⟨hnew.typeIs, F.args_dict_init_2 _ _, ?_⟩
  unfold Builtin.«dict.__init__»
  refine wpAny_bind ?_
  unfold Builtin.Dict.selfAndRest
  refine wpAny_bind (wpAny_notOrdered_dict hnew.typeIs ?_)
  show wpAny _ _ (pure (s.heap.objs.size, [Value.ref o])) _ _ _
  refine wpAny_pure ?_
  show wpAny _ _ (Builtin.Dict.updateFrom "dict.__init__" s.heap.objs.size (.ref o) [] .none) _ _ _
  refine updateFrom_dictH (A := A.in1) .none hu hdo hoS hnew ho' (.inr ⟨fun x hm => ?_, hap⟩) (by simpa using hsz) fun h' hd' _ hs' => ⟨rfl, ?_⟩
  · obtain ⟨ox, e1, e2⟩ := hty x hm
    exact ⟨ox, Heap.get?_push_of_some _ e1, e2⟩
  · rw [storedAllH_nil_of_nodup more hn] at hd'
    exact h h' hd' hs'
end
section
variable {X : Cx}
theorem tup_type {H : Hp} {s : Shared} {pins : List (Addr × Obj)} {σ : L2.St} {a : Addr} {xs : List V} (I : Inv X pins σ H s) (h : H a = some (.tup xs)) : s.TypeIs (.ref a) "tuple" := by
  obtain ⟨_, its, _, o, h1, h2, _⟩ := (show ObjOk X.prog X.w H s.heap a (.tup xs) from I.hok a _ h)
  exact ⟨o, h1, h2⟩
/-- dict(d), its keys pairs of small ints -/
theorem call_dictT (hu : X.A.units + 8 < cLine) : CallR X (.type "dict") (fun xs H Q => ∃ d kvs, xs = [V.ref d] ∧ Rd H d (.dT kvs) ∧ (∀ p ∈ kvs, Small p.1) ∧ ∀ p, H p = none → Q (.ref p) (upd H p (.dT kvs))) := by
  intro pins s σ H xs us Q I r h
  obtain ⟨d, kvs, rfl, hd, hs, q⟩ := h
  obtain ⟨u, rfl, rx⟩ := r.one
  cases rx
  obtain ⟨z, lo, more, kt, dd⟩ := dt_rd I.hok hd
  have hk : ∀ x ∈ more, ∃ p ∈ kvs, p.1 = x.1 ∧ H x.2.1 = some (.tup (p.1.map kV)) := fun x hx => by
    obtain ⟨i, hi⟩ := List.mem_iff_getElem?.mp hx
    obtain ⟨p, hp, e1, e2, _⟩ := paired_at' kt hi
    exact ⟨p, List.mem_of_getElem? hp, e1, e2⟩
  have hl : kvs.length = more.length := paired_len kt
  obtain ⟨_, _, _, _, _, _, _, _, hn⟩ := id dd
  have hks : more.map (·.1) = kvs.map (·.1) := by
    apply List.ext_getElem?
    intro i
    rw [List.getElem?_map, List.getElem?_map]
    cases e : more[i]? with
    | none => rw [List.getElem?_eq_none (by have := List.getElem?_eq_none_iff.mp e; omega)]; rfl
    | some x =>
      obtain ⟨p, hp, e1, _⟩ := paired_at' kt e
      rw [hp]
      exact congrArg some e1.symm
  have hap : (more.map fun x => (tupleKind (mixKind X.prog X.w)).hash x.1).Nodup := by
    have := apart (P := X.prog) (w := X.w) (ks := more.map (·.1)) hn (by rw [hks]; intro k hk; obtain ⟨p, hp, rfl⟩ := List.mem_map.mp hk; exact hs p hp)
    rw [List.map_map] at this
    exact this
  refine call_dict_dictH (knd := tupleKind (mixKind X.prog X.w)) ?_ lo dd (by rw [← hl]; exact z) (fun x hx => ?_) hap (fun h' kp x hx => ?_) fun h' dd' sb => ?_
  · show X.A.units + 1 + 1 < cLine
    omega
  · obtain ⟨p, _, _, e⟩ := hk x hx
    exact tup_type I e
  · obtain ⟨p, hp, e1, e⟩ := hk x hx
    have hok : HOk X.prog X.w H h' := I.hok.kept kp
    rw [← e1]
    exact key_of hok e
  · have kp : ∀ b ob, s.heap.get? b = some ob → h'.get? b = some ob := fun b ob q => (sb.2 b (Nat.ne_of_lt (Heap.lt_size q))).trans (Heap.get?_push_of_some _ q)
    have hfr : H s.heap.objs.size = none := I.hok.fresh (Nat.le_refl _)
    obtain ⟨o, es, ep, g1, g2, g3, g4, _, g6⟩ := id dd'
    refine ⟨.ref s.heap.objs.size, _, I.laid (t' := s.toks) (o := .dT kvs) kp (Nat.le_refl _) ?_, rfl, q _ hfr⟩
    exact ⟨z, beq_eq_false_iff_ne.mpr (Ne.symm (Nat.ne_of_lt I.big)), more, kt.keeps (fun b ys e => by rw [upd_ne (ne_of_none e hfr)]; exact e), o, es, ep, g1, g2, g3, g4, g6⟩
theorem hu8 {A : Around} {k : Nat} (hr : Room k A) : A.units + 8 < cLine := by have := hr.un; omega
/-! ### sorted(d), its keys pairs of small ints -/
theorem cr_sortedDT (hc : X.calm = true) : CallR X (.builtin "sorted") (fun xs H Q => ∃ d kvs, xs = [V.ref d] ∧ Rd H d (.dT kvs) ∧ (∀ p ∈ kvs, Small p.1) ∧ kvs.length < 64 ∧
    ∀ (p : Addr) (bs bs' : List Addr), H p = none → IsKeys H kvs bs → bs'.Perm bs → Q (.ref p) (upd H p (.lst (bs'.map V.ref)))) := by
  intro pins s σ H xs us Q I r h
  obtain ⟨d, kvs, rfl, hd, hsm, h64, q⟩ := h
  obtain ⟨u, rfl, rx⟩ := r.one
  cases rx
  obtain ⟨z, hs, ks, pr, o, es, ep, ho, hx, hdt, he, hn⟩ := (show ObjOk X.prog X.w H s.heap d (.dT kvs) from hd.ok I.hok)
  have l1 : es.size = ks.length := size_of_entries he
  have l2 : kvs.length = ks.length := paired_len pr
  refine Calls.call_function_entry PyProof.Rows.kind_sorted PyProof.Rows.plain_sorted PyProof.Rows.entry_sorted (PyProof.Rows.args_sorted1 _) ?_
  unfold Builtin.«sorted»
  refine wpAny_bind (m := checkCount "sorted" 1 1 _) (wpAny_pure ?_)
  refine wpAny_bind (PySem.W.kdu_collect (A := X.A.in1) (kdl_raw hs hx hdt) (I.ok.hd hc) ho (by omega) fun h' tk acc hk it => ?_)
  have ea : acc.toList = (ks.map fun x => x.2.1).map Value.ref := by
    have hl : acc.toList.length = ks.length := by rw [Array.length_toList, it.1]; exact l1
    apply List.ext_getElem?
    intro j
    rw [List.getElem?_map, List.getElem?_map]
    cases hj : acc.toList[j]? with
    | none =>
      have h1 := List.getElem?_eq_none_iff.mp hj
      rw [List.getElem?_eq_none (by omega)]
      all_goals rfl
    | some v =>
      obtain ⟨en, hen, hv⟩ := it.2 j v (by rw [← Array.getElem?_toList]; exact hj)
      have qe := entry_at he j
      rw [hen] at qe
      cases hb : ks[j]? with
      | none =>
        rw [hb] at qe
        exact nomatch (show some en = none from qe)
      | some b =>
        rw [hb] at qe
        have e2 : en = entryOfKey (tupleKind (mixKind X.prog X.w)) b := Option.some.inj qe
        rw [hv, e2]
        all_goals rfl
  have I1 : Inv X pins σ H { s with heap := h', toks := tk } := I.kept hk
  have hal : acc.toList.length = ks.length := by rw [ea, List.length_map, List.length_map]
  refine wpAny_bind (wpAny_newList ?_ (by rw [hal, sizeLine_eq]; omega))
  have hoL : (h'.push (seqObj "list" acc.toList.toArray 0)).get? h'.objs.size = some (seqObj "list" acc.toList.toArray 0) := Heap.get?_push_size _ rfl
  have hkp : ∀ b ob, h'.get? b = some ob → (h'.push (seqObj "list" acc.toList.toArray 0)).get? b = some ob := fun b ob e => Heap.get?_push_of_some _ e
  have I2 : Inv X pins σ H { s with heap := h'.push (seqObj "list" acc.toList.toArray 0), toks := tk } := I1.kept hkp
  have xt : TS.TupsOk (h'.push (seqObj "list" acc.toList.toArray 0)) 2 8 acc.toList := fun v hv => by
    rw [ea, List.map_map] at hv
    obtain ⟨x, hx, rfl⟩ := List.mem_map.mp hv
    obtain ⟨i, hi⟩ := List.mem_iff_getElem?.mp hx
    obtain ⟨p, hp, e1, e2, _⟩ := paired_at' pr hi
    obtain ⟨a, b, ek, ha, hb⟩ := hsm p (List.mem_of_getElem? hp)
    rw [ek] at e2
    refine ⟨[(a : Int), (b : Int)], tupI_raw I2 (SqT.of (show H x.2.1 = some (.tup (([(a : Int), (b : Int)] : List Int).map V.int)) from e2)), rfl, fun m hm => ?_⟩
    simp only [List.mem_cons, List.not_mem_nil, or_false] at hm
    omega
  refine wpAny_bind (wpAny_holding (TS.call_sort_tups (s := { s with heap := h'.push (seqObj "list" acc.toList.toArray 0), toks := tk }) hoL (by rw [hal]; omega) (by decide) xt fun out a1 _ => ?_))
  obtain ⟨c, hc'⟩ := PyProof.Rows.sortedHeap_at (vs := acc.toList) (out := out) hoL
  have hpm : (out.toList.map fun v => match v with | .ref a => a | _ => 0).Perm (ks.map fun x => x.2.1) := by
    have := a1.map fun v => match v with | Value.ref a => a | _ => (0 : Addr)
    rw [ea, List.map_map, List.map_map] at this
    exact this
  have hout : out.toList = (out.toList.map fun v => match v with | Value.ref a => a | _ => (0 : Addr)).map Value.ref := by
    rw [List.map_map]
    conv => lhs; rw [← List.map_id out.toList]
    refine List.map_congr_left fun v hv => ?_
    have hv2 : v ∈ acc.toList := a1.mem_iff.mp hv
    rw [ea] at hv2
    obtain ⟨b, _, rfl⟩ := List.mem_map.mp hv2
    rfl
  have hlen : ((out.toList.map fun v => match v with | Value.ref a => a | _ => (0 : Addr)).map V.ref).length ≤ sizeLine := by
    rw [List.length_map, hpm.length_eq, List.length_map, ← l2]
    exact Nat.le_trans (Nat.le_of_lt h64) (by decide)
  refine wpAny_pure ⟨_, rfl, .ref h'.objs.size, _, I1.laid (t' := tk) (o := .lst ((out.toList.map fun v => match v with | Value.ref a => a | _ => (0 : Addr)).map V.ref)) (fun b u e => ?_) (Nat.le_refl _)
    ⟨hlen, out.toList, c, by (conv => rhs; rw [hout]); exact vals_refs _, by rw [Array.toArray_toList]; exact hc'⟩, rfl, q _ _ _ (I1.hok.fresh (Nat.le_refl _)) (isKeys_of pr) hpm⟩
  have hb : b < h'.objs.size := Heap.lt_size e
  show (sortedHeap _ _ _ _).get? b = some u
  rw [PyProof.Rows.sortedHeap_old (Nat.ne_of_lt hb) (by rw [size_push']; exact Nat.lt_succ_of_lt hb)]
  exact Heap.get?_push_of_some _ e
end
/-! ### rules with K said (within a comprehension's block) -/
section
variable {X : Cx} {K : PySem.W.Frag} {e o : Expr} {f : Str} {pos apos : Pos} {ta : TE}
theorem ix_tupK (hK : X.K = K) : IxR X (rIxT K) := hK ▸ ix_tup
theorem ix_listK (hK : X.K = K) : IxR X (rIxL K) := hK ▸ ix_list
theorem op_catAK (hK : X.K = K) : OpR X (binaryOp .Add) (rCatA K) := hK ▸ op_catA
theorem pe_fldK (hK : X.K = K) (he : PE X e ta) (hb : attributeBase e f X.env (eval e X.env) = eval e X.env) : PE X (.Attribute e f pos) (tFld K ta f) := hK ▸ pe_fld he hb
theorem pmeth0K {k : Nat} {m C q : Str} {st : Stmt} {ps : List Str} {sp : Sp} {pl : Sem Bool} (hK : X.K = K) (he : PE X o ta) (c : Cls K (He.ga K C)) (hm : Meth K (He.ga K C) m (He.ma K (He.ga K C) m)) (D : MtOk K C m q st ps)
    (F : FnOk X.prog X.w K X.mg X.base CX0 k (He.ma K (He.ga K C) m) (fdA K (He.ma K (He.ga K C) m)) ps sp) (hr : Room k X.A)
    (ht : eval (.Call (.Attribute o m apos) [] [] pos) X.env = (do
      let ov ← eval o X.env
      standAt apos.atName
      let (f, first) ← holding [ov] (getMethod ov m pl)
      callWith pos f first (backTo pos (starEach [] X.env)) (backToKw pos (keywordEach [] X.env))) := by rfl) :
    PE X (.Call (.Attribute o m apos) [] [] pos) (tMeth (He.ga K C) m sp [] E0 ta tNil) := by
  subst hK
  exact pmeth0 he c hm D F hr ht
end
end Ink
/-! Differences of ticks in plain Lean: tables, relaxing, what comes out. No program here. -/
namespace Ink
abbrev Edge := (Nat × Nat) × Int
abbrev Tab := List Edge
def tget (l : Tab) (x y : Nat) : Option Int := (l.find? fun e => decide (e.1 = (x, y))).map (·.2)
def tset (l : Tab) (x y : Nat) (c : Int) : Tab := if (l.any fun e => decide (e.1 = (x, y))) = true then l.map (fun e => if e.1 = (x, y) then (e.1, c) else e) else l ++ [((x, y), c)]
def tput (l : Tab) (x y : Nat) (c : Int) : Tab := match tget l x y with
  | none => tset l x y c
  | some d => if c < d then tset l x y c else l
def Sat (l : Tab) (p : Nat → Int) : Prop := ∀ e ∈ l, p e.1.1 ≤ p e.1.2 + e.2
structure WF (n : Nat) (l : Tab) : Prop where
  nd : (l.map (·.1)).Nodup
  rg : ∀ e ∈ l, e.1.1 < n ∧ e.1.2 < n
theorem tget_some {l : Tab} {x y : Nat} {c : Int} (h : tget l x y = some c) : ((x, y), c) ∈ l := by
  unfold tget at h
  obtain ⟨e, he, rfl⟩ := Option.map_eq_some_iff.mp h
  have h1 := List.mem_of_find?_eq_some he
  have h2 := List.find?_some he
  have h3 : e.1 = (x, y) := of_decide_eq_true h2
  rw [← h3]
  exact h1
theorem tget_none {l : Tab} {x y : Nat} (h : tget l x y = none) : ∀ e ∈ l, e.1 ≠ (x, y) := by
  unfold tget at h
  rw [Option.map_eq_none_iff, List.find?_eq_none] at h
  intro e he q
  exact h e he (decide_eq_true q)
theorem any_iff {l : Tab} {x y : Nat} : (l.any fun e => decide (e.1 = (x, y))) = (tget l x y).isSome := by
  unfold tget
  rw [Option.isSome_map]
  induction l with
  | nil => rfl
  | cons e l ih =>
    rw [List.any_cons, List.find?_cons]
    by_cases q : e.1 = (x, y)
    · simp [q]
    · simp [q, ih]
theorem tset_new {l : Tab} {x y : Nat} {c : Int} (h : tget l x y = none) : tset l x y c = l ++ [((x, y), c)] := by
  unfold tset
  rw [any_iff, h]
  rfl
theorem tset_old {l : Tab} {x y : Nat} {c d : Int} (h : tget l x y = some d) : tset l x y c = l.map (fun e => if e.1 = (x, y) then (e.1, c) else e) := by
  unfold tset
  rw [any_iff, h]
  rfl
theorem map_keys (l : Tab) (x y : Nat) (c : Int) : (l.map (fun e => if e.1 = (x, y) then (e.1, c) else e)).map (·.1) = l.map (·.1) := by
  rw [List.map_map]
  refine List.map_congr_left fun e _ => ?_
  show (if e.1 = (x, y) then (e.1, c) else e).1 = e.1
  split <;> rfl
theorem WF.tset {n : Nat} {l : Tab} (w : WF n l) {x y : Nat} (hx : x < n) (hy : y < n) (c : Int) : WF n (tset l x y c) := by
  cases h : tget l x y with
  | none =>
    rw [tset_new h]
    refine ⟨?_, fun e he => ?_⟩
    · rw [List.map_append, List.nodup_append]
      refine ⟨w.nd, by simp, ?_⟩
      intro a ha b hb q
      obtain ⟨e, he, rfl⟩ := List.mem_map.mp ha
      have hb2 : b = (x, y) := by simpa using hb
      exact tget_none h e he (q.trans hb2)
    · rcases List.mem_append.mp he with q | q
      · exact w.rg e q
      · have : e = ((x, y), c) := by simpa using q
        rw [this]
        exact ⟨hx, hy⟩
  | some d =>
    rw [tset_old h]
    refine ⟨?_, fun e he => ?_⟩
    · rw [map_keys]
      exact w.nd
    · obtain ⟨f, hf, rfl⟩ := List.mem_map.mp he
      have := w.rg f hf
      split <;> exact this
theorem WF.tput {n : Nat} {l : Tab} (w : WF n l) {x y : Nat} (hx : x < n) (hy : y < n) (c : Int) : WF n (tput l x y c) := by
  unfold Ink.tput
  split
  · exact w.tset hx hy c
  · split
    · exact w.tset hx hy c
    · exact w
theorem WF.uniq {n : Nat} {l : Tab} (w : WF n l) {e f : Edge} (he : e ∈ l) (hf : f ∈ l) (h : e.1 = f.1) : e = f := by
  obtain ⟨i, hi, rfl⟩ := List.mem_iff_getElem.mp he
  obtain ⟨j, hj, rfl⟩ := List.mem_iff_getElem.mp hf
  have hi' : i < (l.map (·.1)).length := by rw [List.length_map]; exact hi
  have hj' : j < (l.map (·.1)).length := by rw [List.length_map]; exact hj
  have e0 : (l.map (·.1))[i]? = (l.map (·.1))[j]? := by
    rw [List.getElem?_map, List.getElem?_map, List.getElem?_eq_getElem hi, List.getElem?_eq_getElem hj]
    exact congrArg some h
  have := (List.getElem?_inj hi' w.nd).mp e0
  subst this
  rfl
theorem sat_app {l : Tab} {e : Edge} {p : Nat → Int} : Sat (l ++ [e]) p ↔ Sat l p ∧ p e.1.1 ≤ p e.1.2 + e.2 := by
  constructor
  · exact fun h => ⟨fun f hf => h f (List.mem_append_left _ hf), h e (by simp)⟩
  · rintro ⟨h1, h2⟩ f hf
    rcases List.mem_append.mp hf with q | q
    · exact h1 f q
    · have : f = e := by simpa using q
      rw [this]; exact h2
theorem sat_tput {n : Nat} {l : Tab} (w : WF n l) {x y : Nat} {c : Int} {p : Nat → Int} : Sat (tput l x y c) p ↔ Sat l p ∧ p x ≤ p y + c := by
  unfold tput
  cases h : tget l x y with
  | none =>
    dsimp only
    rw [tset_new h]
    exact sat_app
  | some d =>
    dsimp only
    have hm := tget_some h
    by_cases hc : c < d
    · rw [if_pos hc, tset_old h]
      constructor
      · intro s
        have s1 : p x ≤ p y + c := by
          have := s ((x, y), c) (List.mem_map.mpr ⟨((x, y), d), hm, by simp⟩)
          exact this
        refine ⟨fun e he => ?_, s1⟩
        by_cases q : e.1 = (x, y)
        · have : e = ((x, y), d) := w.uniq he hm q
          rw [this]
          show p x ≤ p y + d
          omega
        · have := s e (List.mem_map.mpr ⟨e, he, by rw [if_neg q]⟩)
          exact this
      · rintro ⟨s, s1⟩ e he
        obtain ⟨f, hf, rfl⟩ := List.mem_map.mp he
        by_cases q : f.1 = (x, y)
        · rw [if_pos q]
          show p f.1.1 ≤ p f.1.2 + c
          rw [q]
          exact s1
        · rw [if_neg q]
          exact s f hf
    · rw [if_neg hc]
      constructor
      · intro s
        have : p x ≤ p y + d := s _ hm
        exact ⟨s, by omega⟩
      · exact fun h => h.1
theorem nodup_lt : ∀ {n : Nat} {l : List Nat}, l.Nodup → (∀ x ∈ l, x < n) → l.length ≤ n
  | 0, l, _, h => by
    cases l with
    | nil => exact Nat.le_refl _
    | cons a l => exact absurd (h a (by simp)) (Nat.not_lt_zero _)
  | n + 1, l, hn, h => by
    by_cases hm : n ∈ l
    · have h1 := nodup_lt (n := n) (hn.erase n) fun x hx => by
        have h2 := h x (List.mem_of_mem_erase hx)
        have h3 : x ≠ n := fun q => by subst q; exact (List.Nodup.not_mem_erase hn) hx
        omega
      rw [List.length_erase_of_mem hm] at h1
      omega
    · have h1 := nodup_lt (n := n) hn fun x hx => by
        have h2 := h x hx
        have h3 : x ≠ n := fun q => by subst q; exact hm hx
        omega
      omega
theorem WF.len {n : Nat} {l : Tab} (w : WF n l) : l.length ≤ n * n := by
  have h1 : ((l.map (·.1)).map fun q : Nat × Nat => q.1 * n + q.2).Nodup := by
    have key : ∀ {L : List (Nat × Nat)}, L.Nodup → (∀ q ∈ L, q.1 < n ∧ q.2 < n) → (L.map fun q : Nat × Nat => q.1 * n + q.2).Nodup := by
      intro L hL hr
      induction L with
      | nil => simp
      | cons a L ih =>
        rw [List.nodup_cons] at hL
        rw [List.map_cons, List.nodup_cons]
        refine ⟨fun hm => ?_, ih hL.2 fun q hq => hr q (List.mem_cons_of_mem _ hq)⟩
        obtain ⟨b, hb, e⟩ := List.mem_map.mp hm
        have ra := hr a (by simp)
        have rb := hr b (List.mem_cons_of_mem _ hb)
        have hmod : a.2 = b.2 := by
          have := congrArg (· % n) e
          simpa [Nat.mul_add_mod_self_right, Nat.mod_eq_of_lt ra.2, Nat.mod_eq_of_lt rb.2, Nat.add_mod, Nat.mul_mod] using this.symm
        have hdiv : a.1 = b.1 := by
          rw [hmod] at e
          have hn : 0 < n := by omega
          have : b.1 * n = a.1 * n := by omega
          exact (Nat.eq_of_mul_eq_mul_right hn this).symm
        have : a = b := Prod.ext hdiv hmod
        rw [this] at hL
        exact hL.1 hb
    exact key w.nd fun q hq => by
      obtain ⟨e, he, rfl⟩ := List.mem_map.mp hq
      exact w.rg e he
  have h2 := nodup_lt (n := n * n) h1 fun v hv => by
    obtain ⟨q, hq, rfl⟩ := List.mem_map.mp hv
    obtain ⟨e, he, rfl⟩ := List.mem_map.mp hq
    have r := w.rg e he
    have : (e.1.1 + 1) * n ≤ n * n := Nat.mul_le_mul_right n r.1
    have e2 : (e.1.1 + 1) * n = e.1.1 * n + n := by rw [Nat.add_mul, Nat.one_mul]
    show e.1.1 * n + e.1.2 < n * n
    omega
  simpa using h2
/-! ### relaxing -/
structure BS where
  t : Nat → Int
  a : Nat → Option Nat
  s : Nat → Nat
  last : Option Nat
def set1 {α : Type} (f : Nat → α) (x : Nat) (v : α) : Nat → α := fun i => if i = x then v else f i
theorem set1_same {α : Type} {f : Nat → α} {x : Nat} {v : α} : set1 f x v x = v := if_pos rfl
theorem set1_ne {α : Type} {f : Nat → α} {x i : Nat} {v : α} (h : i ≠ x) : set1 f x v i = f i := if_neg h
def relax (k : Nat) (b : BS) (e : Edge) : BS :=
  if b.t e.1.2 + e.2 < b.t e.1.1 then ⟨set1 b.t e.1.1 (b.t e.1.2 + e.2), set1 b.a e.1.1 (some e.1.2), set1 b.s e.1.1 k, some e.1.1⟩ else b
/-- one turn over the edges, the steps counted from k + 1 -/
def pass : Nat → List Edge → BS → BS
  | _, [], b => b
  | k, e :: r, b => pass (k + 1) r (relax (k + 1) b e)
def bs0 : BS := ⟨fun _ => 0, fun _ => none, fun _ => 0, none⟩
def clear (b : BS) : BS := { b with last := none }
/-- an edge looked at in step q: it holds, or its second event has moved since -/
def okE (b : BS) (e : Edge) (q : Nat) : Prop := b.t e.1.1 ≤ b.t e.1.2 + e.2 ∨ q < b.s e.1.2
theorem okE.le {b : BS} {e : Edge} {q r : Nat} (h : okE b e q) (hr : r ≤ q) : okE b e r := by
  rcases h with h | h
  · exact .inl h
  · exact .inr (Nat.lt_of_le_of_lt hr h)
/-- in turn R (from 0), j edges looked at: those of done; m edges in all, those of l -/
structure J (n m R : Nat) (l done : List Edge) (j : Nat) (b : BS) : Prop where
  le : ∀ x, b.s x ≤ R * m + j
  z : ∀ x, b.s x = 0 ↔ b.a x = none
  lt : ∀ x y, b.a x = some y → x < n ∧ y < n ∧ x ≠ y
  old : ∀ R', R = R' + 1 → ∀ e ∈ l, okE b e (R' * m)
  ok : ∀ e ∈ done, okE b e (R * m)
  far : ∀ x y, b.a x = some y → ∀ q, q * m + m < b.s x → q * m < b.s y
  one : ∀ x y, b.s x = b.s y → b.s x ≠ 0 → x = y
  new : ∀ x, b.last = some x → R * m < b.s x
/-- .. where p keeps all edges -/
def Fs (p : Nat → Int) (b : BS) : Prop := ∀ x y, b.a x = some y → b.t y - p y ≤ b.t x - p x ∧ (b.s x < b.s y → b.t y - p y < b.t x - p x)
theorem okE.step {b : BS} {e f : Edge} {q k : Nat} (h : okE b e q) (hq : q < k) : okE (relax k b f) e q := by
  unfold relax
  split
  · rename_i hr
    unfold okE at h ⊢
    dsimp only
    by_cases h2 : e.1.2 = f.1.1
    · right
      rw [h2, set1_same]
      exact hq
    · rw [set1_ne h2, set1_ne h2]
      rcases h with h | h
      · left
        by_cases h1 : e.1.1 = f.1.1
        · rw [h1] at h ⊢
          rw [set1_same]
          omega
        · rw [set1_ne h1]
          exact h
      · exact .inr h
  · exact h
theorem mul_lt_of {q R m : Nat} (h : q * m + m < R * m + m) : q + 1 ≤ R := by
  rcases Nat.lt_or_ge q R with z | z
  · exact z
  · have := Nat.mul_le_mul_right m z
    omega
theorem J.step {n m R : Nat} {l done : List Edge} {j : Nat} {b : BS} (h : J n m R l done j b) (hj : j < m) {e : Edge} (he : e ∈ l) (h1 : e.1.1 < n) (h2 : e.1.2 < n) (h3 : e.1.1 ≠ e.1.2) :
    J n m R l (e :: done) (j + 1) (relax (R * m + j + 1) b e) := by
  have oldall : ∀ R', R = R' + 1 → ∀ f ∈ l, okE (relax (R * m + j + 1) b e) f (R' * m) := fun R' hR f hf => (h.old R' hR f hf).step (by
    have : R' * m ≤ R * m := Nat.mul_le_mul_right m (by omega)
    omega)
  have okall : ∀ f ∈ e :: done, okE (relax (R * m + j + 1) b e) f (R * m) := by
    intro f hf
    rcases List.mem_cons.mp hf with q | q
    · subst q
      unfold relax
      split
      · left
        dsimp only
        rw [set1_same, set1_ne h3.symm]
        exact Int.le_refl _
      · left
        omega
    · exact (h.ok f q).step (by omega)
  by_cases hr : b.t e.1.2 + e.2 < b.t e.1.1
  · have er : relax (R * m + j + 1) b e = ⟨set1 b.t e.1.1 (b.t e.1.2 + e.2), set1 b.a e.1.1 (some e.1.2), set1 b.s e.1.1 (R * m + j + 1), some e.1.1⟩ := if_pos hr
    refine ⟨fun x => ?_, fun x => ?_, fun x y hxy => ?_, oldall, okall, fun x y hxy q hx => ?_, fun x y hxy hx => ?_, fun x hx => ?_⟩
    · rw [er]
      dsimp only
      by_cases q : x = e.1.1
      · rw [q, set1_same]; omega
      · rw [set1_ne q]; have := h.le x; omega
    · rw [er]
      dsimp only
      by_cases q : x = e.1.1
      · rw [q, set1_same, set1_same]; simp
      · rw [set1_ne q, set1_ne q]; exact h.z x
    · rw [er] at hxy
      dsimp only at hxy
      by_cases q : x = e.1.1
      · rw [q, set1_same] at hxy
        cases hxy
        rw [q]
        exact ⟨h1, h2, h3⟩
      · rw [set1_ne q] at hxy
        exact h.lt x y hxy
    · rw [er] at hxy hx ⊢
      dsimp only at hxy hx ⊢
      by_cases qx : x = e.1.1
      · rw [qx, set1_same] at hxy
        cases hxy
        rw [qx, set1_same] at hx
        rw [set1_ne h3.symm]
        have hqR : q + 1 ≤ R := mul_lt_of (m := m) (by omega)
        obtain ⟨R', hR⟩ : ∃ R', R = R' + 1 := ⟨R - 1, by omega⟩
        have hm : q * m ≤ R' * m := Nat.mul_le_mul_right m (by omega)
        rcases h.old R' hR e he with z | z
        · omega
        · omega
      · rw [set1_ne qx] at hxy hx
        have o := h.far x y hxy q hx
        by_cases q2 : y = e.1.1
        · rw [q2, set1_same]
          have := h.le x
          omega
        · rw [set1_ne q2]; exact o
    · rw [er] at hxy hx
      dsimp only at hxy hx
      by_cases q : x = e.1.1
      · by_cases q2 : y = e.1.1
        · rw [q, q2]
        · rw [q, set1_same, set1_ne q2] at hxy
          have := h.le y
          omega
      · rw [set1_ne q] at hxy hx
        by_cases q2 : y = e.1.1
        · rw [q2, set1_same] at hxy
          have := h.le x
          omega
        · rw [set1_ne q2] at hxy
          exact h.one x y hxy hx
    · rw [er] at hx ⊢
      dsimp only at hx ⊢
      cases hx
      rw [set1_same]
      omega
  · have er : relax (R * m + j + 1) b e = b := if_neg hr
    rw [er] at okall oldall ⊢
    exact ⟨fun x => Nat.le_succ_of_le (h.le x), h.z, h.lt, oldall, okall, h.far, h.one, h.new⟩
theorem Fs.step {n m R j : Nat} {l done : List Edge} {p : Nat → Int} {b : BS} (h : J n m R l done j b) (hF : Fs p b) {e : Edge} (hp : p e.1.1 ≤ p e.1.2 + e.2) (h3 : e.1.1 ≠ e.1.2) : Fs p (relax (R * m + j + 1) b e) := by
  by_cases hr : b.t e.1.2 + e.2 < b.t e.1.1
  · have er : relax (R * m + j + 1) b e = ⟨set1 b.t e.1.1 (b.t e.1.2 + e.2), set1 b.a e.1.1 (some e.1.2), set1 b.s e.1.1 (R * m + j + 1), some e.1.1⟩ := if_pos hr
    rw [er]
    intro x y hxy
    dsimp only at hxy ⊢
    by_cases q : x = e.1.1
    · rw [q, set1_same] at hxy
      cases hxy
      rw [q, set1_same, set1_same, set1_ne h3.symm, set1_ne h3.symm]
      refine ⟨by omega, fun hs => ?_⟩
      have := h.le e.1.2
      omega
    · rw [set1_ne q] at hxy
      have o := hF x y hxy
      rw [set1_ne q, set1_ne q]
      by_cases q2 : y = e.1.1
      · rw [q2] at o ⊢
        rw [set1_same, set1_same]
        exact ⟨by omega, fun _ => by omega⟩
      · rw [set1_ne q2, set1_ne q2]
        exact o
  · rw [show relax (R * m + j + 1) b e = b from if_neg hr]
    exact hF
/-- what is asked of the edges -/
def Ends2 (n : Nat) (l : List Edge) : Prop := ∀ e ∈ l, e.1.1 < n ∧ e.1.2 < n ∧ e.1.1 ≠ e.1.2
/-! a whole turn -/
theorem pass_J {n m R : Nat} {l : List Edge} (hl : Ends2 n l) :
    ∀ (r done : List Edge) (j : Nat) (b : BS), (∀ e ∈ r, e ∈ l) → j + r.length ≤ m → J n m R l done j b → J n m R l (r.reverse ++ done) (j + r.length) (pass (R * m + j) r b) ∧ ∀ p, Sat l p → Fs p b → Fs p (pass (R * m + j) r b)
  | [], done, j, b, _, _, h => ⟨h, fun _ _ z => z⟩
  | e :: r, done, j, b, hr, hj, h => by
    rw [List.length_cons] at hj
    obtain ⟨h1, h2, h3⟩ := hl e (hr e (by simp))
    have hs := h.step (by omega) (hr e (by simp)) h1 h2 h3
    have ih := pass_J hl r (e :: done) (j + 1) (relax (R * m + j + 1) b e) (fun f hf => hr f (List.mem_cons_of_mem _ hf)) (by omega) hs
    refine ⟨?_, fun p hp hF => ih.2 p hp (Fs.step h hF (hp e (hr e (by simp))) h3)⟩
    have e1 : (e :: r).reverse ++ done = r.reverse ++ (e :: done) := by simp
    have e2 : j + (e :: r).length = j + 1 + r.length := by rw [List.length_cons]; omega
    rw [e1, e2]
    exact ih.1
/-- nothing moved: all edges hold -/
theorem pass_quiet : ∀ (r : List Edge) (k : Nat) (b : BS), (pass k r b).last = none → pass k r b = b ∧ b.last = none ∧ ∀ e ∈ r, b.t e.1.1 ≤ b.t e.1.2 + e.2
  | [], k, b, h => ⟨rfl, h, by simp⟩
  | e :: r, k, b, h => by
    have ih := pass_quiet r (k + 1) (relax (k + 1) b e) h
    by_cases hr : b.t e.1.2 + e.2 < b.t e.1.1
    · have er : relax (k + 1) b e = _ := if_pos hr
      have := ih.2.1
      rw [er] at this
      cases this
    · have er : relax (k + 1) b e = b := if_neg hr
      rw [er] at ih
      refine ⟨?_, ih.2.1, fun f hf => ?_⟩
      · show pass (k + 1) r (relax (k + 1) b e) = b
        rw [er]
        exact ih.1
      · rcases List.mem_cons.mp hf with q | q
        · rw [q]; omega
        · exact ih.2.2 f q
/-- the states behind R whole turns, each over the edges in some order -/
inductive Reach (l : List Edge) : Nat → BS → Prop where
  | zero : Reach l 0 bs0
  | turn {R : Nat} {b : BS} {ts : List Edge} : Reach l R b → ts.Perm l → Reach l (R + 1) (pass (R * l.length) ts (clear b))
theorem J.next {n R : Nat} {l : List Edge} {b : BS} {done : List Edge} (hd : ∀ e ∈ l, e ∈ done) (h : J n l.length R l done l.length b) : J n l.length (R + 1) l [] 0 (clear b) where
  le := fun x => by have := h.le x; have e : (R + 1) * l.length = R * l.length + l.length := by rw [Nat.add_mul, Nat.one_mul]
                    show b.s x ≤ _; omega
  z := h.z
  lt := h.lt
  old := fun R' hR e he => by
    have : R' = R := by omega
    subst this
    exact h.ok e (hd e he)
  ok := fun e he => by cases he
  far := h.far
  one := h.one
  new := fun x q => by cases q
theorem J.zero {n : Nat} {l : List Edge} : J n l.length 0 l [] 0 (clear bs0) where
  le := fun x => Nat.zero_le _
  z := fun x => by simp [bs0, clear]
  lt := fun x y h => by cases h
  old := fun R' hR => by omega
  ok := fun e he => by cases he
  far := fun x y h => by cases h
  one := fun x y _ h => absurd rfl h
  new := fun x q => by cases q
theorem reach_J {n : Nat} {l : List Edge} (hl : Ends2 n l) {R : Nat} {b : BS} (h : Reach l R b) :
    ∀ R', R = R' + 1 → (∃ done, (∀ e ∈ l, e ∈ done) ∧ J n l.length R' l done l.length b) ∧ ∀ p, Sat l p → Fs p b := by
  induction h with
  | zero => intro R' e; omega
  | turn hb hp ih =>
    rename_i R b ts
    intro R' e
    have : R' = R := by omega
    subst this
    have start : J n l.length R' l [] 0 (clear b) ∧ ∀ p, Sat l p → Fs p (clear b) := by
      cases hb with
      | zero => exact ⟨J.zero, fun p _ x y q => by cases q⟩
      | turn hb hp =>
        obtain ⟨⟨done, hd, hJ⟩, hF⟩ := ih _ rfl
        exact ⟨J.next hd hJ, hF⟩
    have hm : ts.length = l.length := hp.length_eq
    have := pass_J (m := l.length) (R := R') hl ts [] 0 (clear b) (fun e he => hp.mem_iff.mp he) (by omega) start.1
    refine ⟨⟨ts.reverse ++ [], fun e he => ?_, ?_⟩, fun p hs => this.2 p hs (start.2 p hs)⟩
    · simp [hp.mem_iff.mpr he]
    · have := this.1
      rw [Nat.zero_add, hm] at this
      exact this
/-! ### who moved whom -/
def goBack (a : Nat → Option Nat) : Nat → Nat → Option Nat
  | 0, x => some x
  | i + 1, x => (goBack a i x).bind a
theorem chain {n : Nat} {l done : List Edge} {j : Nat} {b : BS} {R : Nat} (h : J n l.length R l done j b) {x : Nat} (hx : R * l.length < b.s x) :
    ∀ i, i ≤ R → ∃ y, goBack b.a i x = some y ∧ (R - i) * l.length < b.s y
  | 0, _ => ⟨x, rfl, hx⟩
  | i + 1, hi => by
    obtain ⟨y, h1, h2⟩ := chain h hx i (by omega)
    have hy : b.s y ≠ 0 := Nat.ne_of_gt (Nat.lt_of_le_of_lt (Nat.zero_le _) h2)
    have hz : b.a y ≠ none := fun q => hy ((h.z y).mpr q)
    cases q : b.a y with
    | none => exact absurd q hz
    | some z =>
      refine ⟨z, by show (goBack b.a i x).bind b.a = some z; rw [h1]; exact q, ?_⟩
      have e : R - i = R - (i + 1) + 1 := by omega
      rw [e, Nat.add_mul, Nat.one_mul] at h2
      exact h.far y z q _ h2
theorem goBack_lt {n m R : Nat} {l done : List Edge} {j : Nat} {b : BS} (h : J n m R l done j b) {x : Nat} (hx : x < n) : ∀ i y, goBack b.a i x = some y → y < n
  | 0, y, e => by cases e; exact hx
  | i + 1, y, e => by
    obtain ⟨z, _, h2⟩ := Option.bind_eq_some_iff.mp e
    exact (h.lt z y h2).2.1
theorem moved_lt {n m R : Nat} {l done : List Edge} {j : Nat} {b : BS} (h : J n m R l done j b) {x : Nat} (hx : b.s x ≠ 0) : x < n := by
  cases q : b.a x with
  | none => exact absurd ((h.z x).mpr q) hx
  | some y => exact (h.lt x y q).1
/-- all edges can be kept: behind n turns nothing moves -/
theorem feasible_quiet {n : Nat} {l : List Edge} (hl : Ends2 n l) {p : Nat → Int} (hp : Sat l p) {b : BS} (hb : Reach l (n + 1) b) : b.last = none := by
  cases hlast : b.last with
  | none => rfl
  | some x =>
    exfalso
    obtain ⟨⟨done, _, h⟩, hF⟩ := reach_J hl hb n rfl
    have hF := hF p hp
    have hx := h.new x hlast
    have ch := chain h hx
    have hxn : x < n := moved_lt h (Nat.ne_of_gt (Nat.lt_of_le_of_lt (Nat.zero_le _) hx))
    let g : Nat → Nat := fun i => (goBack b.a i x).getD 0
    have hg : ∀ i, i ≤ n → goBack b.a i x = some (g i) := fun i hi => by
      obtain ⟨y, h1, _⟩ := ch i hi
      show goBack b.a i x = some ((goBack b.a i x).getD 0)
      rw [h1]
      rfl
    have hs : ∀ i, i ≤ n → b.s (g i) ≠ 0 := fun i hi => by
      obtain ⟨y, h1, h2⟩ := ch i hi
      have : g i = y := by have := hg i hi; rw [h1] at this; exact (Option.some.inj this).symm
      rw [this]
      exact Nat.ne_of_gt (Nat.lt_of_le_of_lt (Nat.zero_le _) h2)
    have ha : ∀ i, i + 1 ≤ n → b.a (g i) = some (g (i + 1)) := fun i hi => by
      have h1 := hg (i + 1) hi
      have h2 : (goBack b.a i x).bind b.a = some (g (i + 1)) := h1
      rw [hg i (by omega)] at h2
      exact h2
    have low : ∀ i d, i + d + 1 ≤ n → b.t (g (i + d + 1)) - p (g (i + d + 1)) < b.t (g i) - p (g i) ∨ (b.t (g (i + d + 1)) - p (g (i + d + 1)) = b.t (g i) - p (g i) ∧ b.s (g (i + d + 1)) < b.s (g i)) := by
      have one : ∀ i, i + 1 ≤ n → b.t (g (i + 1)) - p (g (i + 1)) < b.t (g i) - p (g i) ∨ (b.t (g (i + 1)) - p (g (i + 1)) = b.t (g i) - p (g i) ∧ b.s (g (i + 1)) < b.s (g i)) := fun i hi => by
        have e := ha i hi
        obtain ⟨f1, f2⟩ := hF _ _ e
        have hne := (h.lt _ _ e).2.2
        rcases Nat.lt_trichotomy (b.s (g i)) (b.s (g (i + 1))) with q | q | q
        · exact .inl (f2 q)
        · exact absurd (h.one _ _ q (hs i (by omega))) hne
        · rcases Int.lt_or_eq_of_le f1 with z | z
          · exact .inl z
          · exact .inr ⟨z, q⟩
      intro i d
      induction d with
      | zero => exact fun hi => one i hi
      | succ d ih =>
        intro hi
        have h1 := ih (by omega)
        have h2 := one (i + d + 1) (by omega)
        rw [show i + (d + 1) + 1 = i + d + 1 + 1 by omega]
        rcases h1 with h1 | ⟨h1, h1'⟩ <;> rcases h2 with h2 | ⟨h2, h2'⟩
        · exact .inl (by omega)
        · exact .inl (by omega)
        · exact .inl (by omega)
        · exact .inr ⟨by omega, by omega⟩
    have nd : ((List.range (n + 1)).map g).Nodup := by
      rw [List.nodup_iff_pairwise_ne, List.pairwise_map]
      refine List.Pairwise.imp_of_mem (fun {i j} hi hj hij => ?_) (List.pairwise_lt_range (n := n + 1))
      have hj' := List.mem_range.mp hj
      have := low i (j - i - 1) (by omega)
      rw [show i + (j - i - 1) + 1 = j by omega] at this
      intro e
      rw [e] at this
      omega
    have := nodup_lt (n := n) nd fun v hv => by
      obtain ⟨i, hi, rfl⟩ := List.mem_map.mp hv
      exact goBack_lt h hxn i _ (hg i (by have := List.mem_range.mp hi; omega))
    rw [List.length_map, List.length_range] at this
    omega
/-- moved in turn n + 1: going back n times one is on a ring -/
theorem ring_there {n : Nat} {l : List Edge} (hl : Ends2 n l) {b : BS} (hb : Reach l (n + 1) b) {x : Nat} (hlast : b.last = some x) :
    ∃ g : Nat → Nat, g 0 = x ∧ (∀ i, b.a (g i) = some (g (i + 1))) ∧ (∀ i, g i < n) ∧ ∃ k, 0 < k ∧ k ≤ n ∧ g (n + k) = g n := by
  obtain ⟨⟨done, _, h⟩, _⟩ := reach_J hl hb n rfl
  have hx := h.new x hlast
  have ch := chain h hx
  have hxn : x < n := moved_lt h (Nat.ne_of_gt (Nat.lt_of_le_of_lt (Nat.zero_le _) hx))
  have tot : ∀ i, i ≤ n → ∃ y, goBack b.a i x = some y ∧ y < n ∧ b.a y ≠ none := fun i hi => by
    obtain ⟨y, h1, h2⟩ := ch i hi
    exact ⟨y, h1, goBack_lt h hxn i y h1, fun q => Nat.ne_of_gt (Nat.lt_of_le_of_lt (Nat.zero_le _) h2) ((h.z y).mpr q)⟩
  -- two of the first n + 1 are the same
  have dup : ∃ i j, i < j ∧ j ≤ n ∧ goBack b.a i x = goBack b.a j x := by
    refine Classical.byContradiction fun hno => ?_
    have nd : ((List.range (n + 1)).map fun i => (goBack b.a i x).getD 0).Nodup := by
      rw [List.nodup_iff_pairwise_ne, List.pairwise_map]
      refine List.Pairwise.imp_of_mem (fun {i j} hi hj hij e => ?_) (List.pairwise_lt_range (n := n + 1))
      have hi' := List.mem_range.mp hi
      have hj' := List.mem_range.mp hj
      obtain ⟨y, h1, _⟩ := tot i (by omega)
      obtain ⟨z, h2, _⟩ := tot j (by omega)
      rw [h1, h2] at e
      exact hno ⟨i, j, hij, by omega, by rw [h1, h2]; exact congrArg some e⟩
    have := nodup_lt (n := n) nd fun v hv => by
      obtain ⟨i, hi, rfl⟩ := List.mem_map.mp hv
      obtain ⟨y, h1, h2, _⟩ := tot i (by have := List.mem_range.mp hi; omega)
      rw [h1]
      exact h2
    rw [List.length_map, List.length_range] at this
    omega
  obtain ⟨i0, j0, hij, hjn, he⟩ := dup
  have per : ∀ d, goBack b.a (i0 + d) x = goBack b.a (j0 + d) x := fun d => by
    induction d with
    | zero => exact he
    | succ d ih =>
      show (goBack b.a (i0 + d) x).bind b.a = (goBack b.a (j0 + d) x).bind b.a
      rw [ih]
  have all : ∀ i, ∃ y, goBack b.a i x = some y ∧ y < n ∧ b.a y ≠ none := by
    intro i
    induction i using Nat.strongRecOn with
    | ind i ih =>
      by_cases hi : i ≤ n
      · exact tot i hi
      · obtain ⟨y, h1, h2⟩ := ih (i - (j0 - i0)) (by omega)
        refine ⟨y, ?_, h2⟩
        have := per (i - j0)
        rw [show i0 + (i - j0) = i - (j0 - i0) by omega, show j0 + (i - j0) = i by omega] at this
        rw [← this]
        exact h1
  refine ⟨fun i => (goBack b.a i x).getD 0, rfl, fun i => ?_, fun i => ?_, j0 - i0, by omega, by omega, ?_⟩
  · obtain ⟨y, h1, _, h3⟩ := all i
    show b.a ((goBack b.a i x).getD 0) = some (((goBack b.a i x).bind b.a).getD 0)
    rw [h1]
    show b.a y = some ((b.a y).getD 0)
    cases q : b.a y with
    | none => exact absurd q h3
    | some z => rfl
  · obtain ⟨y, h1, h2, _⟩ := all i
    show (goBack b.a i x).getD 0 < n
    rw [h1]
    exact h2
  · have := per (n - i0)
    rw [show i0 + (n - i0) = n by omega, show j0 + (n - i0) = n + (j0 - i0) by omega] at this
    show (goBack b.a (n + (j0 - i0)) x).getD 0 = (goBack b.a n x).getD 0
    rw [this]
/-- a quiet turn's ticks keep all edges -/
theorem quiet_sat {l : List Edge} {R : Nat} {b : BS} (h : Reach l (R + 1) b) (hq : b.last = none) : Sat l b.t := by
  cases h with
  | turn hb hp =>
    rename_i b0 ts
    obtain ⟨e, _, hs⟩ := pass_quiet ts _ (clear b0) hq
    rw [e]
    exact fun f hf => hs f (hp.mem_iff.mpr hf)
end Ink
set_option Elab.async false
set_option linter.all false
set_option maxRecDepth 100000
set_option maxHeartbeats 4000000
namespace Ink
open PySem PySem.Spec PyProof.Rows L2
section
variable {X : Cx} {st : Stmt} {t : TS} {e : Expr} {te : TE} {tt : TT}
/-- a statement's end by a word of one's own (said once, however it forks) -/
def tCut (t : TS) : TS := fun D σ H => ∃ I : L2.St → Hp → Prop, t { D with nx := I } σ H ∧ ∀ σ' H', I σ' H' → D.nx σ' H'
theorem ps_cut (h : PS X st t) : PS X st (tCut t) := by
  refine ⟨fun pins s σ H D I0 ⟨I, h1, h2⟩ => ?_⟩
  refine thn (h.run pins s σ H _ I0 h1) fun f s' q => ?_
  cases f with
  | next => obtain ⟨σ', H', i, n⟩ := q; exact ⟨σ', H', i, h2 _ _ n⟩
  | cont => exact q
  | brk => exact q
  | ret v => exact q
def eCut (t : TE) : TE := fun σ H Q => ∃ R : VK, t σ H R ∧ ∀ v H', R v H' → Q v H'
theorem pe_cut (h : PE X e te) : PE X e (eCut te) :=
  ⟨fun pins s σ H Q I0 ⟨R, h1, h2⟩ => thn (h.run pins s σ H _ I0 h1) fun u s' ⟨v, H', i, r, q⟩ => ⟨v, H', i, r, h2 _ _ q⟩⟩
def bCut (t : TT) : TT := fun σ H Q => ∃ R : Bool → Hp → Prop, t σ H R ∧ ∀ b H', R b H' → Q b H'
theorem pt_cut (h : PT X e tt) : PT X e (bCut tt) :=
  ⟨fun pins s σ H Q I0 ⟨R, h1, h2⟩ => thn (h.run pins s σ H _ I0 h1) fun b s' ⟨H', i, q⟩ => ⟨H', i, h2 _ _ q⟩⟩
/-- what is never come to -/
def tNo : TT := fun _ _ _ => False
def eNo : TE := fun _ _ _ => False
theorem pt_no : PT X e tNo := ⟨fun _ _ _ _ _ _ h => h.elim⟩
theorem pe_no : PE X e eNo := ⟨fun _ _ _ _ _ _ h => h.elim⟩
end
/-- a dict comprehension over a list that stays -/
theorem dc_list {K : PySem.W.Frag} {a : Addr} {xs : List V} {g : TG} {tt : TT} {tk tv : TE} {vs : List Nat} {σ : L2.St} {H1 : Hp} {D : Addr} {Qd : Hp → Prop} (Pv : Nat → Hp → Prop) (h0 : Pv 0 (upd H1 D (.dK []))) (hl : ∀ i H, i ≤ xs.length → Pv i H → SqL K H a xs)
    (hs : ∀ i x H, xs[i]? = some x → Pv i H → g x (wipe σ vs) H fun σ2 H2 => wipe σ2 vs = wipe σ vs ∧ tt σ2 H2 fun b H3 =>
      if b = true then tk σ2 H3 fun y H4 => tv σ2 H4 fun z H5 => ∃ kvs k, y = kV k ∧ H5 D = some (.dK kvs) ∧ kvs.length < sizeLine ∧ Pv (i + 1) (upd H5 D (.dK (putK kvs k z))) else Pv (i + 1) H3) (hd : ∀ H, Pv xs.length H → Qd H) :
    ∃ W : Nat → Nat → Hp → Prop, (∃ m, W 0 m (upd H1 D (.dK []))) ∧ ∀ i m H, W i m H →
      ((Itl K a).stop i H ∧ Qd H) ∨ ((Itl K a).go i H ∧ ∃ Nx : Hp → Prop, (∀ H', Nx H' → ∃ m', m' < m ∧ W (i + 1) m' H') ∧ ∀ x H', (Itl K a).yld i H x H' → g x (wipe σ vs) H' fun σ2 H2 => wipe σ2 vs = wipe σ vs ∧ tt σ2 H2 fun b H3 =>
        if b = true then tk σ2 H3 fun y H4 => tv σ2 H4 fun z H5 => ∃ kvs k, y = kV k ∧ H5 D = some (.dK kvs) ∧ kvs.length < sizeLine ∧ Nx (upd H5 D (.dK (putK kvs k z))) else Nx H3) := by
  refine ⟨fun i m H => m = xs.length - i ∧ i ≤ xs.length ∧ Pv i H, ⟨xs.length, by simp, Nat.zero_le _, h0⟩, ?_⟩
  rintro i m H ⟨rfl, hi, p⟩
  have q := hl i H hi p
  by_cases hlt : i < xs.length
  · refine .inr ⟨⟨xs, xs[i], q, by simp [hlt]⟩, Pv (i + 1), fun H' p' => ⟨xs.length - (i + 1), by omega, rfl, hlt, p'⟩, fun x H' y => ?_⟩
    obtain ⟨e, y⟩ := y
    subst e
    exact hs i x _ (y xs q) p
  · have e : i = xs.length := by omega
    subst e
    exact .inl ⟨⟨xs, q, Nat.le_refl _⟩, hd H p⟩
end Ink
set_option Elab.async false
set_option linter.all false
set_option maxRecDepth 100000
set_option maxHeartbeats 4000000
namespace Ink
open PySem PySem.Spec PyProof.Rows L2
section
variable {P : Program} {w : World} {K : PySem.W.Frag} {mg : Str → Option Value} {base : Heap}
def sp_is_integer : Sp := fun vs H Q _ => ∃ i, vs = [.int i] ∧ Q (.bl true) H
theorem sc_is_integer : FnScope ["value"] ["value"] (defScope s_is_integer) := ⟨rfl, rfl, rfl, by decide +kernel, rfl, by decide +kernel, by decide +kernel⟩
theorem ok_is_integer (T : Txt w K mg) : FnOk P w K mg base CX0 1 (He.ga K "is_integer") (fdA K (He.ga K "is_integer")) ["value"] sp_is_integer := by
  refine (d_is_integer T).ok sc_is_integer (fun vs H Q E h => ?_) (fun cdv A outer s H vs Q E hr h => ?_)
  · obtain ⟨_, rfl, _⟩ := h; rfl
  obtain ⟨i, rfl, q⟩ := h
  refine ⟨_, (pss_one (ps_ret (pe_and (pe_callB call_isi (by rfl) (f_isinstance T) bb_isinstance (pa_cons (pv 0) (pa_cons (pe_bltn (v := .ty "int") (by rfl) (f_int T) bb_int rfl) pa_nil))) (pe_one (pe_not (pe_callB call_isi (by rfl) (f_isinstance T) bb_isinstance (pa_cons (pv 0) (pa_cons (pe_bltn (v := .ty "bool") (by rfl) (f_bool T) bb_bool rfl) pa_nil)))))))), ?_⟩
  refine ⟨_, rfl, _, _, _, _, _, rfl, .ty _, .base (.int _), kit_ii, _, rfl, iteT ?_⟩
  exact ⟨_, rfl, _, _, _, _, _, rfl, .ty _, .base (.int _), kit_ib, _, rfl, q⟩
def sp_is_from : Sp := fun vs H Q _ => ∃ v lo hi, vs = [.int v, .int lo, .int hi] ∧ lo ≤ v ∧ v ≤ hi ∧ Q (.bl true) H
theorem sc_is_from : FnScope ["value", "low", "high"] ["value", "low", "high"] (defScope s_is_from) := ⟨rfl, rfl, rfl, by decide +kernel, rfl, by decide +kernel, by decide +kernel⟩
theorem ok_is_from (T : Txt w K mg) : FnOk P w K mg base CX0 2 (He.ga K "is_from") (fdA K (He.ga K "is_from")) ["value", "low", "high"] sp_is_from := by
  have G_is_integer := ok_is_integer (P := P) (base := base) T
  refine (d_is_from T).ok sc_is_from (fun vs H Q E h => ?_) (fun cdv A outer s H vs Q E hr h => ?_)
  · obtain ⟨_, _, _, rfl, _⟩ := h; rfl
  obtain ⟨v, lo, hi, rfl, h1, h2, q⟩ := h
  refine ⟨_, (pss_one (ps_ret (pe_and (pcall (d_is_integer T) G_is_integer (hr.mono (by decide)) (pa_cons (pv 0) pa_nil)) (pe_one (pe_chain op_le op_le (pv 1) (pv 0) (pv 2)))))), ?_⟩
  refine ⟨_, rfl, _, rfl, _, rfl, iteT ?_⟩
  refine ⟨_, rfl, _, rfl, _, _, rfl, rfl, _, rfl, iteDT h1 ⟨_, rfl, _, _, rfl, rfl, ?_⟩⟩
  exact qb (decide_eq_true h2) q
def sp_is_sign : Sp := fun vs H Q _ => ∃ c, vs = [.str (sg c)] ∧ 97 ≤ c ∧ c ≤ 122 ∧ Q (.bl true) H
theorem mem_signs {c : Nat} (h1 : 97 ≤ c) (h2 : c ≤ 122) : c ∈ (Str.ofString "abcdefghijklmnopqrstuvwxyz").cps.toList := by
  have e : (Str.ofString "abcdefghijklmnopqrstuvwxyz").cps.toList = [97,98,99,100,101,102,103,104,105,106,107,108,109,110,111,112,113,114,115,116,117,118,119,120,121,122] := by decide +kernel
  rw [e]
  simp only [List.mem_cons, List.not_mem_nil, or_false]
  omega
theorem sc_is_sign : FnScope ["value"] ["value"] (defScope s_is_sign) := ⟨rfl, rfl, rfl, by decide +kernel, rfl, by decide +kernel, by decide +kernel⟩
theorem ok_is_sign (T : Txt w K mg) : FnOk P w K mg base CX0 1 (He.ga K "is_sign") (fdA K (He.ga K "is_sign")) ["value"] sp_is_sign := by
  refine (d_is_sign T).ok sc_is_sign (fun vs H Q E h => ?_) (fun cdv A outer s H vs Q E hr h => ?_)
  · obtain ⟨_, rfl, _⟩ := h; rfl
  obtain ⟨c, rfl, h1, h2, q⟩ := h
  refine ⟨_, (pss_one (ps_ret (pe_and (pe_callB call_isi (by rfl) (f_isinstance T) bb_isinstance (pa_cons (pv 0) (pa_cons (pe_bltn (v := .ty "str") (by rfl) (f_str T) bb_str rfl) pa_nil))) (pe_and (pe_cmpR op_eq (pe_callB call_len (by rfl) (f_len T) bb_len (pa_cons (pv 0) pa_nil)) pe_int (nomark _)) (pe_one (pe_cmpR op_in_sign (pv 0) (pgs (i_SIGNS T)) (by with_unfolding_all rfl))))))), ?_⟩
  refine ⟨_, rfl, _, _, _, _, _, rfl, .ty _, .base (.str _), kit_ss, _, rfl, iteT ?_⟩
  refine ⟨_, rfl, _, 1, rfl, ⟨by show 1 ≤ sizeLine; decide, rfl⟩, rfl, _, rfl, iteDT rfl ?_⟩
  refine ⟨_, rfl, c, _, rfl, rfl, ?_⟩
  exact qb (decide_eq_true (mem_signs h1 h2)) q
def sp_is_write (K : PySem.W.Frag) : Sp := fun vs H Q _ => ∃ (cells : Int) (b : Addr) (st : List V) (v : V) (x : Wr), vs = [.int cells, .ref b, v] ∧ SqT K H b st ∧ IsWr K H v x ∧ x.Ok cells.toNat st.length ∧ 0 ≤ cells ∧ Q (.bl true) H
theorem sc_is_write : FnScope ["cells", "stays", "value"] ["cells", "stays", "value"] (defScope s_is_write) := ⟨rfl, rfl, rfl, by decide +kernel, rfl, by decide +kernel, by decide +kernel⟩
theorem ok_is_write (T : Txt w K mg) : FnOk P w K mg base CX0 3 (He.ga K "is_write") (fdA K (He.ga K "is_write")) ["cells", "stays", "value"] (sp_is_write K) := by
  have G_is_from := ok_is_from (P := P) (base := base) T
  have G_is_sign := ok_is_sign (P := P) (base := base) T
  refine (d_is_write T).ok sc_is_write (fun vs H Q E h => ?_) (fun cdv A outer s H vs Q E hr h => ?_)
  · obtain ⟨_, _, _, _, _, rfl, _⟩ := h; rfl
  obtain ⟨cells, b, st, v, x, rfl, hb, ⟨a, rfl, ha⟩, hx, hc, q⟩ := h
  refine ⟨_, (pss_cons (ps_if (PW.pt (pw_or (pt_not (pt_val (pe_callB call_isi (by rfl) (f_isinstance T) bb_isinstance (pa_cons (pv 2) (pa_cons (pe_bltn (v := .ty "tuple") (by rfl) (f_tuple T) bb_tuple rfl) pa_nil))))) (pw_or (pt_cmpR op_ne (pe_callB call_len (by rfl) (f_len T) bb_len (pa_cons (pv 2) pa_nil)) pe_int (nomark _)) (pw_or (pt_not (pt_val (pcall (d_is_from T) G_is_from (hr.mono (by decide)) (pa_cons (pe_ix ix_tup (pv 2) pe_int (fun _ _ => rfl)) (pa_cons pe_int (pa_cons (pe_op op_sub (pv 0) pe_int) pa_nil)))))) (pw_or1 (pt_not (pt_val (pcall (d_is_sign T) G_is_sign (hr.mono (by decide)) (pa_cons (pe_ix ix_tup (pv 2) pe_int (fun _ _ => rfl)) pa_nil))))))))) (pss_one (ps_ret pe_bl)) pss_nil)
      (pss_cons (ps_if (PW.pt (pw_or (pt_not (pt_val (pcall (d_is_from T) G_is_from (hr.mono (by decide)) (pa_cons (pe_ix ix_tup (pv 2) pe_int (fun _ _ => rfl)) (pa_cons pe_int (pa_cons (pe_op op_sub (pe_callB call_len (by rfl) (f_len T) bb_len (pa_cons (pv 1) pa_nil)) pe_int) pa_nil)))))) (pw_or1 (pt_not (pt_val (pcall (d_is_from T) G_is_from (hr.mono (by decide)) (pa_cons (pe_ix ix_tup (pv 2) pe_int (fun _ _ => rfl)) (pa_cons pe_int (pa_cons (pgi (i_MOST_REST T)) pa_nil))))))))) (pss_one (ps_ret pe_bl)) pss_nil)
      (pss_one (ps_ret (pcall (d_is_from T) G_is_from (hr.mono (by decide)) (pa_cons (pe_ix ix_tup (pv 2) pe_int (fun _ _ => rfl)) (pa_cons (pe_ix ix_tup (pv 2) pe_int (fun _ _ => rfl)) (pa_cons (pgi (i_MOST_REST T)) pa_nil)))))))), ?_⟩
  refine ⟨_, rfl, _, _, _, _, _, rfl, .ty _, tyT ha, kit_tt, _, rfl, iteF ?_⟩
  refine ⟨_, rfl, _, 5, rfl, .inr ⟨_, ha, rfl⟩, rfl, _, rfl, iteNF rfl ?_⟩
  refine ⟨_, rfl, _, _, _, _, rfl, rfl, ha, rfl, _, rfl, _, _, rfl, rfl, ?_⟩
  refine ⟨_, _, _, rfl, hx.c0, by have := hx.c1; omega, _, rfl, ?_⟩
  refine ⟨_, rfl, _, _, _, _, rfl, rfl, ha, rfl, _, rfl, hx.s0, hx.s1, _, rfl, ?_⟩
  refine ⟨_, rfl, _, _, _, _, rfl, rfl, ha, rfl, _, rfl, _, _, rfl, .inr ⟨_, hb, rfl⟩, _, _, rfl, rfl, ?_⟩
  refine ⟨_, _, _, rfl, hx.i0, by have := hx.i1; omega, _, rfl, ?_⟩
  refine ⟨_, rfl, _, _, _, _, rfl, rfl, ha, rfl, _, _, _, rfl, hx.l0, by have := hx.l1; have := hx.h1; omega, _, rfl, ?_⟩
  refine ⟨_, rfl, _, _, _, _, rfl, rfl, ha, rfl, _, rfl, _, _, _, _, rfl, rfl, ha, rfl, _, _, _, rfl, hx.l1, hx.h1, q⟩
theorem all_rep (n : Nat) : (List.replicate n true).all id = true := by
  induction n with
  | zero => rfl
  | succ n ih => rw [List.replicate_succ, List.all_cons, ih]; rfl
theorem rep_snoc (n : Nat) : List.replicate n (V.bl true) ++ [V.bl true] = List.replicate (n + 1) (V.bl true) := by
  rw [List.replicate_succ']
def sp_is_plan (K : PySem.W.Frag) : Sp := fun vs H Q _ => ∃ v p, vs = [v] ∧ IsPl K H v p ∧ p.Ok ∧ ∀ H', Kp [] H H' → Q (.bl true) H'
theorem sc_is_plan : FnScope ["value", "cells", "stays", "writes", "stay", "write"] ["value"] (defScope s_is_plan) := ⟨rfl, rfl, rfl, by decide +kernel, rfl, by decide +kernel, by decide +kernel⟩
theorem ok_is_plan (T : Txt w K mg) : FnOk P w K mg base CX0 4 (He.ga K "is_plan") (fdA K (He.ga K "is_plan")) ["value"] (sp_is_plan K) := by
  have G_is_from := ok_is_from (P := P) (base := base) T
  have G_is_write := ok_is_write (P := P) (base := base) T
  refine (d_is_plan T).ok sc_is_plan (fun vs H Q E h => ?_) (fun cdv A outer s H vs Q E hr h => ?_)
  · obtain ⟨_, _, rfl, _⟩ := h; rfl
  obtain ⟨v, p, rfl, ⟨a, b, c, vs, rfl, ha, hb, hc, hp⟩, ok, q⟩ := h
  refine ⟨_, (pss_cons (ps_if (PW.pt (pw_or (pt_not (pt_val (pe_callB call_isi (by rfl) (f_isinstance T) bb_isinstance (pa_cons (pv 0) (pa_cons (pe_bltn (v := .ty "tuple") (by rfl) (f_tuple T) bb_tuple rfl) pa_nil))))) (pw_or (pt_cmpR op_ne (pe_callB call_len (by rfl) (f_len T) bb_len (pa_cons (pv 0) pa_nil)) pe_int (nomark _)) (pw_or1 (pt_not (pt_val (pcall (d_is_from T) G_is_from (hr.mono (by decide)) (pa_cons (pe_ix ix_tup (pv 0) pe_int (fun _ _ => rfl)) (pa_cons pe_int (pa_cons (pgi (i_MOST_CELLS T)) pa_nil)))))))))) (pss_one (ps_ret pe_bl)) pss_nil)
      (pss_cons (ps_asg (pv 0) (pg_tup rfl (pgs_cons (pg_name (i := 1) sc_is_plan.nd rfl (Or.inr rfl)) (pgs_cons (pg_name (i := 2) sc_is_plan.nd rfl (Or.inr rfl)) (pgs_cons (pg_name (i := 3) sc_is_plan.nd rfl (Or.inl rfl)) pgs_nil)))))
      (pss_cons (ps_if (PW.pt (pw_or (pt_not (pt_val (pe_callB call_isi (by rfl) (f_isinstance T) bb_isinstance (pa_cons (pv 2) (pa_cons (pe_bltn (v := .ty "tuple") (by rfl) (f_tuple T) bb_tuple rfl) pa_nil))))) (pw_or1 (pt_not (pt_chain op_le op_le pe_int (pe_callB call_len (by rfl) (f_len T) bb_len (pa_cons (pv 2) pa_nil)) (pgi (i_MOST_INKS T))))))) (pss_one (ps_ret pe_bl)) pss_nil)
      (pss_cons (ps_if (pt_not (pt_val (pe_callB (cr_all rfl) (by rfl) (f_all T) bb_all (pa_cons (pe_lc (own := [("stay", 4)]) rfl sc_is_plan.nd (pi_tup (pv 2)) (blkOk_by (own := [("stay", 4)]) (N := ["value", "cells", "stays", "writes", "stay", "write"]) (sc := defScope s_is_plan) (by decide +kernel)) (fun _ _ _ _ _ => (pg_name (i := 4) sc_is_plan.nd rfl (Or.inl rfl))) (fun _ _ _ _ _ => pts_nil) (fun _ _ _ _ _ => (pcall (d_is_from T) G_is_from (hr.mono (by decide)) (pa_cons (pv 4) (pa_cons pe_int (pa_cons (pgi (i_MOST_STAY T)) pa_nil)))))) pa_nil)))) (pss_one (ps_ret pe_bl)) pss_nil)
      (pss_cons (ps_if (PW.pt (pw_or (pt_not (pt_val (pe_callB call_isi (by rfl) (f_isinstance T) bb_isinstance (pa_cons (pv 3) (pa_cons (pe_bltn (v := .ty "tuple") (by rfl) (f_tuple T) bb_tuple rfl) pa_nil))))) (pw_or1 (pt_cmpR op_gt (pe_callB call_len (by rfl) (f_len T) bb_len (pa_cons (pv 3) pa_nil)) (pgi (i_MOST_WRITES T)) (nomark _))))) (pss_one (ps_ret pe_bl)) pss_nil)
      (pss_one (ps_ret (pe_callB (cr_all rfl) (by rfl) (f_all T) bb_all (pa_cons (pe_lc (own := [("write", 5)]) rfl sc_is_plan.nd (pi_tup (pv 3)) (blkOk_by (own := [("write", 5)]) (N := ["value", "cells", "stays", "writes", "stay", "write"]) (sc := defScope s_is_plan) (by decide +kernel)) (fun _ _ _ _ _ => (pg_name (i := 5) sc_is_plan.nd rfl (Or.inl rfl))) (fun _ _ _ _ _ => pts_nil) (fun _ _ _ _ _ => (pcall (d_is_write T) G_is_write (hr.mono (by decide)) (pa_cons (pv 1) (pa_cons (pv 2) (pa_cons (pv 5) pa_nil)))))) pa_nil))))))))), ?_⟩
  have hz : p.stays.length < sizeLine := Nat.lt_of_le_of_lt ok.n1 (by decide)
  have hv : vs.length = p.ws.length := paired_len hp
  have hz2 : vs.length < sizeLine := by rw [hv]; exact Nat.lt_of_le_of_lt ok.wn (by decide)
  refine ⟨_, rfl, _, _, _, _, _, rfl, .ty _, tyT ha, kit_tt, _, rfl, iteF ?_⟩
  refine ⟨_, rfl, _, 3, rfl, .inr ⟨_, ha, rfl⟩, rfl, _, rfl, iteNF rfl ?_⟩
  refine ⟨_, rfl, _, _, _, _, rfl, rfl, ha, rfl, _, _, _, rfl, ok.c0, ok.c1, _, rfl, iteF ?_⟩
  refine ⟨_, rfl, _, _, rfl, ha, rfl, _, _, rfl, _, _, rfl, _, _, rfl, rfl, ?_⟩
  refine ⟨_, rfl, _, _, _, _, _, rfl, .ty _, tyT hb, kit_tt, _, rfl, iteF ?_⟩
  refine ⟨_, rfl, _, _, rfl, .inr ⟨_, hb, rfl⟩, _, _, rfl, rfl, _, rfl, iteDT (by have := ok.n0; rw [List.length_map]; omega) ⟨_, _, rfl, rfl, _, rfl, iteNF (by have := ok.n1; rw [List.length_map]; omega) ?_⟩⟩
  refine ⟨_, rfl, b, rfl, ⟨_, hb⟩, fun D hD => lc_tup (xs := p.stays.map V.int) (fun i H' => Kp [] H H' ∧ H' D = some (.lst (List.replicate i (.bl true)))) ⟨.new hD, upd_same⟩ (fun i H' _ h => kpT hb h.1) ?_ ?_⟩
  · rintro i x H' hx ⟨k, hl⟩
    rw [List.getElem?_map] at hx
    obtain ⟨n, hn, rfl⟩ := Option.map_eq_some_iff.mp hx
    have hi : i < p.stays.length := (List.getElem?_eq_some_iff.mp hn).1
    obtain ⟨h1, h2⟩ := ok.st n (List.mem_of_getElem? hn)
    refine ⟨rfl, ?_⟩
    refine tyes ?_
    refine iteT ?_
    refine ⟨_, rfl, _, _, _, rfl, h1, h2, _, hl, by rw [List.length_replicate]; omega, k.putN hD, ?_⟩
    rw [upd_same, rep_snoc]
  rintro H1 ⟨k1, hl1⟩
  refine ⟨_, List.replicate p.stays.length true, rfl, SqL.of (by rw [hl1, List.map_replicate, List.length_map]), _, rfl, iteEF (by rw [all_rep]; rfl) ?_⟩
  refine ⟨_, rfl, _, _, _, _, _, rfl, .ty _, tyT (kpT hc k1), kit_tt, _, rfl, iteF ?_⟩
  refine ⟨_, rfl, _, _, rfl, .inr ⟨_, kpT hc k1, rfl⟩, _, _, rfl, rfl, _, rfl, iteDF (by rw [hv]; have := ok.wn; omega) ?_⟩
  refine ⟨_, rfl, c, rfl, ⟨_, kpT hc k1⟩, fun D hD => lc_tup (xs := vs) (fun i H' => Kp [] H1 H' ∧ H' D = some (.lst (List.replicate i (.bl true)))) ⟨.new hD, upd_same⟩ (fun i H' _ h => kpT (kpT hc k1) h.1) ?_ ?_⟩
  · rintro i x H' hx ⟨k, hl⟩
    obtain ⟨y, hy, r⟩ := paired_at hp hx
    have hi : i < vs.length := (List.getElem?_eq_some_iff.mp hx).1
    refine ⟨rfl, ?_⟩
    refine tyes ?_
    refine iteT ?_
    refine ⟨_, rfl, _, rfl, _, rfl, _, _, _, _, _, rfl, kpT hb (k1.trans k), r.kp (k1.trans k), by rw [List.length_map]; exact ok.ws y (List.mem_of_getElem? hy), by have := ok.c0; omega, _, hl, by rw [List.length_replicate]; omega, k.putN hD, ?_⟩
    rw [upd_same, rep_snoc]
  rintro H2 ⟨k2, hl2⟩
  refine ⟨_, List.replicate vs.length true, rfl, SqL.of (by rw [hl2, List.map_replicate]), ?_⟩
  rw [all_rep]
  exact q _ (k1.trans k2)
def sp_need_plan (K : PySem.W.Frag) : Sp := fun vs H Q _ => ∃ v p, vs = [v] ∧ IsPl K H v p ∧ p.Ok ∧ ∀ H', Kp [] H H' → Q .non H'
theorem sc_need_plan : FnScope ["value"] ["value"] (defScope s_need_plan) := ⟨rfl, rfl, rfl, by decide +kernel, rfl, by decide +kernel, by decide +kernel⟩
theorem ok_need_plan (T : Txt w K mg) : FnOk P w K mg base CX0 5 (He.ga K "need_plan") (fdA K (He.ga K "need_plan")) ["value"] (sp_need_plan K) := by
  have G_is_plan := ok_is_plan (P := P) (base := base) T
  refine (d_need_plan T).ok sc_need_plan (fun vs H Q E h => ?_) (fun cdv A outer s H vs Q E hr h => ?_)
  · obtain ⟨_, _, rfl, _⟩ := h; rfl
  obtain ⟨v, p, rfl, hp, ok, q⟩ := h
  refine ⟨_, (pss_one (ps_if (pt_not (pt_val (pcall (d_is_plan T) G_is_plan (hr.mono (by decide)) (pa_cons (pv 0) pa_nil)))) pss_never pss_nil)), ?_⟩
  exact ⟨_, rfl, _, _, rfl, hp, ok, fun H' k => ⟨_, rfl, iteF (q _ k)⟩⟩
def sp_stay_of (K : PySem.W.Frag) : Sp := fun vs H Q _ => ∃ (v : V) (p : Pl) (u : V) (x : Wr) (i : Nat) (s : Int), vs = [v, u] ∧ IsPl K H v p ∧ IsWr K H u x ∧ x.ink = (i : Int) ∧ p.stays[i]? = some s ∧ Q (.int s) H
theorem sc_stay_of : FnScope ["plan", "write"] ["plan", "write"] (defScope s_stay_of) := ⟨rfl, rfl, rfl, by decide +kernel, rfl, by decide +kernel, by decide +kernel⟩
theorem ok_stay_of (T : Txt w K mg) : FnOk P w K mg base CX0 1 (He.ga K "stay_of") (fdA K (He.ga K "stay_of")) ["plan", "write"] (sp_stay_of K) := by
  refine (d_stay_of T).ok sc_stay_of (fun vs H Q E h => ?_) (fun cdv A outer s H vs Q E hr h => ?_)
  · obtain ⟨_, _, _, _, _, _, rfl, _⟩ := h; rfl
  obtain ⟨v, p, u, x, i, n, rfl, ⟨a, b, c, vs, rfl, ha, hb, hc, hp⟩, ⟨d, rfl, hd⟩, hi, hn, q⟩ := h
  refine ⟨_, (pss_one (ps_ret (pe_ix ix_tup (pe_ix ix_tup (pv 0) pe_int (fun _ _ => rfl)) (pe_ix ix_tup (pv 1) pe_int (fun _ _ => rfl)) (fun _ _ => rfl)))), ?_⟩
  refine ⟨_, rfl, _, _, _, _, rfl, rfl, ha, rfl, _, rfl, _, _, _, _, rfl, rfl, hd, rfl, _, _, _, _, rfl, rfl, hb, ?_, q⟩
  rw [hi]
  exact atI_nat (by rw [List.getElem?_map, hn]; rfl)
end
end Ink
set_option Elab.async false
set_option linter.all false
set_option maxRecDepth 100000
set_option maxHeartbeats 4000000
namespace Ink
open PySem PySem.Spec PyProof.Rows L2
/-! ### a Bounds object -/
def tabT (l : Tab) : List (List Key × V) := l.map fun e => (pk (e.1.1 : Nat) (e.1.2 : Nat), .int e.2)
theorem pk_inj {a b c d : Nat} (h : pk (a : Int) (b : Int) = pk (c : Int) (d : Int)) : a = c ∧ b = d := by
  injection h with h1 h2
  injection h2 with h2 h3
  injection h1 with h1
  injection h2 with h2
  exact ⟨by omega, by omega⟩
theorem valV_tab (l : Tab) (x y : Nat) : valV (tabT l) (pk x y) = (tget l x y).map V.int := by
  induction l with
  | nil => rfl
  | cons e l ih =>
    unfold tget
    rw [List.find?_cons]
    by_cases q : e.1 = (x, y)
    · rw [show tabT (e :: l) = (pk (e.1.1 : Nat) (e.1.2 : Nat), V.int e.2) :: tabT l from rfl, valV_pos (by rw [q]), decide_eq_true q]
      rfl
    · rw [show tabT (e :: l) = (pk (e.1.1 : Nat) (e.1.2 : Nat), V.int e.2) :: tabT l from rfl, valV_neg (fun h => q (Prod.ext (pk_inj h).1 (pk_inj h).2)), decide_eq_false q]
      exact ih
theorem putK_tab (l : Tab) (x y : Nat) (c : Int) : putK (tabT l) (pk x y) (.int c) = tabT (tset l x y c) := by
  cases h : tget l x y with
  | none =>
    rw [putK_new _ (by rw [valV_tab, h]; rfl), tset_new h]
    unfold tabT
    rw [List.map_append]
    rfl
  | some d =>
    unfold putK
    rw [if_pos (by rw [valV_any, valV_tab, h]; rfl), tset_old h]
    unfold tabT
    rw [List.map_map, List.map_map]
    refine List.map_congr_left fun e _ => ?_
    by_cases q : e.1 = (x, y)
    · show (if pk (e.1.1 : Nat) (e.1.2 : Nat) = pk x y then _ else _) = _
      rw [if_pos (by rw [q])]
      show _ = (pk ((if e.1 = (x, y) then (e.1, c) else e).1.1 : Nat) ((if e.1 = (x, y) then (e.1, c) else e).1.2 : Nat), V.int (if e.1 = (x, y) then (e.1, c) else e).2)
      rw [if_pos q]
    · show (if pk (e.1.1 : Nat) (e.1.2 : Nat) = pk x y then _ else _) = _
      rw [if_neg (fun h => q (Prod.ext (pk_inj h).1 (pk_inj h).2))]
      show _ = (pk ((if e.1 = (x, y) then (e.1, c) else e).1.1 : Nat) ((if e.1 = (x, y) then (e.1, c) else e).1.2 : Nat), V.int (if e.1 = (x, y) then (e.1, c) else e).2)
      rw [if_neg q]
theorem tab_small {n : Nat} {l : Tab} (w : WF n l) (hn : n ≤ 8) : ∀ p ∈ tabT l, Small p.1 := by
  intro p hp
  obtain ⟨e, he, rfl⟩ := List.mem_map.mp hp
  have := w.rg e he
  exact ⟨_, _, rfl, by omega, by omega⟩
theorem tab_len {n : Nat} {l : Tab} (w : WF n l) (hn : n ≤ 7) : (tabT l).length < 50 := by
  unfold tabT
  rw [List.length_map]
  have h1 := w.len
  have h2 : n * n ≤ 7 * 7 := Nat.mul_le_mul hn hn
  omega
def bfs (n : Int) (d : Addr) : List (Str × V) := [("size", .int n), ("least", .ref d)]
theorem bfs_size (n : Int) (d : Addr) : (bfs n d).lookup ("size" : Str) = some (.int n) := by kernel_rfl
theorem bfs_least (n : Int) (d : Addr) : (bfs n d).lookup ("least" : Str) = some (.ref d) := by kernel_rfl
theorem bfs_put (n : Int) (d e : Addr) : putF "least" (.ref e) (bfs n d) = bfs n e := by kernel_rfl
theorem bfs_put0 (n : Int) (d : Addr) : putF "least" (.ref d) (putF "size" (.int n) []) = bfs n d := by kernel_rfl
theorem bfs_no (n : Int) (d : Addr) : (bfs n d).lookup ("put" : Str) = none ∧ (bfs n d).lookup ("between" : Str) = none ∧ (bfs n d).lookup ("copied" : Str) = none ∧ (bfs n d).lookup ("closed" : Str) = none ∧ (bfs n d).lookup ("told" : Str) = none ∧
    (bfs n d).lookup ("solved" : Str) = none ∧ (bfs n d).lookup ("ring_from" : Str) = none := by
  refine ⟨?_, ?_, ?_, ?_, ?_, ?_, ?_⟩ <;> kernel_rfl
structure BdAt (K : PySem.W.Frag) (H : Hp) (b d : Addr) (n : Nat) (l : Tab) : Prop where
  ins : ∃ dx, H b = some (.ins (He.ga K "Bounds") dx (bfs n d))
  dic : H d = some (.dT (tabT l))
theorem BdAt.ne {K : PySem.W.Frag} {H : Hp} {b d : Addr} {n : Nat} {l : Tab} (h : BdAt K H b d n l) : b ≠ d := by
  obtain ⟨⟨dx, h1⟩, h2⟩ := h
  exact ne_of h1 h2 (by intro q; cases q)
theorem BdAt.kp {K : PySem.W.Frag} {H H' : Hp} {b d : Addr} {n : Nat} {l : Tab} {S : List Addr} (h : BdAt K H b d n l) (k : Kp S H H') (h1 : b ∉ S) (h2 : d ∉ S) : BdAt K H' b d n l := by
  obtain ⟨⟨dx, i⟩, e⟩ := h
  exact ⟨⟨dx, k.keep _ _ i h1⟩, k.keep _ _ e h2⟩
section
variable {P : Program} {w : World} {K : PySem.W.Frag} {mg : Str → Option Value} {base : Heap}
def sp_Bounds_init (K : PySem.W.Frag) : Sp := fun vs H Q _ => ∃ (x dx : Addr) (n : Int), vs = [.ref x, .int n] ∧ H x = some (.ins (He.ga K "Bounds") dx []) ∧
  ∀ d, H d = none → Q .non (upd (upd (upd H x (.ins (He.ga K "Bounds") dx (putF "size" (.int n) []))) d (.dT [])) x (.ins (He.ga K "Bounds") dx (bfs n d)))
theorem sc_Bounds_init : FnScope ["self", "size"] ["self", "size"] (defScope s_Bounds_init) := ⟨rfl, rfl, rfl, by decide +kernel, rfl, by decide +kernel, by decide +kernel⟩
theorem ok_Bounds_init (T : Txt w K mg) : FnOk P w K mg base CX0 1 (He.ma K (He.ga K "Bounds") "__init__") (fdA K (He.ma K (He.ga K "Bounds") "__init__")) ["self", "size"] (sp_Bounds_init K) := by
  refine (m_Bounds_init T).ok sc_Bounds_init (fun vs H Q E h => ?_) (fun cdv A outer s H vs Q E hr h => ?_)
  · obtain ⟨_, _, _, rfl, _⟩ := h; rfl
  obtain ⟨x, dx, n, rfl, hx, q⟩ := h
  refine ⟨_, (pss_cons (ps_fld (pv 0) (pv 1) rfl)
      (pss_one (ps_fld (pv 0) pe_dnewT rfl))), ?_⟩
  refine ⟨_, rfl, _, rfl, x, _, dx, _, rfl, hx, cl_Bounds T, n_Bounds_size T, (by show 0 < 1000; decide), fun d hd => ?_⟩
  have hxd : x ≠ d := fun q => by rw [← q, upd_same] at hd; cases hd
  have hd0 : H d = none := by rw [upd_ne hxd.symm] at hd; exact hd
  have hx1 : upd (upd H x (.ins (He.ga K "Bounds") dx (putF "size" (.int n) []))) d (.dT []) x = some (.ins (He.ga K "Bounds") dx (putF "size" (.int n) [])) := by rw [upd_ne hxd, upd_same]
  refine ⟨_, rfl, x, _, dx, _, rfl, hx1, cl_Bounds T, n_Bounds_least T, (by show 1 < 1000; decide), ?_⟩
  rw [bfs_put0]
  exact q d hd0
def sp_Bounds_put (K : PySem.W.Frag) : Sp := fun vs H Q _ => ∃ (b d : Addr) (n : Nat) (l : Tab) (x y : Nat) (c : Int), vs = [.ref b, .int x, .int y, .int c] ∧ BdAt K H b d n l ∧ WF n l ∧ n ≤ 7 ∧
  ∀ H', Kp [d] H H' → H' d = some (.dT (tabT (tput l x y c))) → Q .non H'
theorem sc_Bounds_put : FnScope ["self", "x", "y", "c"] ["self", "x", "y", "c"] (defScope s_Bounds_put) := ⟨rfl, rfl, rfl, by decide +kernel, rfl, by decide +kernel, by decide +kernel⟩
theorem ok_Bounds_put (T : Txt w K mg) : FnOk P w K mg base CX0 1 (He.ma K (He.ga K "Bounds") "put") (fdA K (He.ma K (He.ga K "Bounds") "put")) ["self", "x", "y", "c"] (sp_Bounds_put K) := by
  refine (m_Bounds_put T).ok sc_Bounds_put (fun vs H Q E h => ?_) (fun cdv A outer s H vs Q E hr h => ?_)
  · obtain ⟨_, _, _, _, _, _, _, rfl, _⟩ := h; rfl
  obtain ⟨b, d, n, l, x, y, c, rfl, ⟨⟨dx, hb⟩, hd⟩, hw, hn, q⟩ := h
  refine ⟨_, (pss_one (ps_if (PW.pt (pw_or (pt_cmp (pc_dnotin (hu_of hr) (pe_tup (pa_cons (pv 1) (pa_cons (pv 2) pa_nil))) (pe_fld (pv 0) rfl))) (pw_or1 (pt_cmpR op_gt (pe_dget (hu_of hr) (pe_fld (pv 0) rfl) (pe_tup (pa_cons (pv 1) (pa_cons (pv 2) pa_nil))) (fun _ _ => rfl)) (pv 3) (nomark _))))) (pss_one (ps_dput (hu_of hr) (pe_fld (pv 0) rfl) (pe_tup (pa_cons (pv 1) (pa_cons (pv 2) pa_nil))) (pv 3) rfl)) pss_nil)), ?_⟩
  refine ⟨_, rfl, _, rfl, (by show 2 ≤ sizeLine; decide), fun p hp => ?_⟩
  have k1 : Kp [d] H (upd H p (.tup [.int x, .int y])) := .new hp
  have hd1 : upd H p (.tup [.int x, .int y]) d = some (.dT (tabT l)) := by rw [upd_ne (ne_of_none hd hp)]; exact hd
  have hb1 : upd H p (.tup [.int x, .int y]) b = some (.ins (He.ga K "Bounds") dx (bfs n d)) := by rw [upd_ne (ne_of_none hb hp)]; exact hb
  have hz := tab_len hw hn
  have store : ∀ H1 : Hp, Kp [d] H H1 → H1 d = some (.dT (tabT l)) → H1 b = some (.ins (He.ga K "Bounds") dx (bfs n d)) → tput l x y c = tset l x y c → ∀ p, H1 p = none →
      Kp [d] H (upd (upd H1 p (.tup [.int x, .int y])) d (.dT (putK (tabT l) (pk x y) (.int c)))) ∧ (upd (upd H1 p (.tup [.int x, .int y])) d (.dT (putK (tabT l) (pk x y) (.int c)))) d = some (.dT (tabT (tput l x y c))) := by
    intro H1 kk e1 e2 et p hp
    refine ⟨(kk.newT hp).trans (.put (by simp) (by rw [upd_ne (ne_of_none e1 hp)]; exact e1) rfl), ?_⟩
    rw [upd_same, putK_tab, et]
  refine ⟨_, rfl, b, _, dx, _, _, rfl, hb1, cl_Bounds T, n_Bounds_least T, bfs_least _ _, d, _, rfl, DGet.t (k := pk x y) hd1 upd_same, ?_⟩
  rw [valV_tab]
  cases hg : tget l x y with
  | none =>
    refine ⟨_, rfl, iteT ?_⟩
    refine iteT ?_
    refine ⟨_, rfl, _, rfl, b, _, dx, _, _, rfl, hb1, cl_Bounds T, n_Bounds_least T, bfs_least _ _, _, rfl, _, rfl, (by show 2 ≤ sizeLine; decide), fun p2 hp2 => ?_⟩
    have et : tput l x y c = tset l x y c := by unfold tput; rw [hg]
    obtain ⟨s1, s2⟩ := store _ k1 hd1 hb1 et p2 hp2
    refine ⟨d, _, rfl, DPut.t (k := pk x y) (by rw [upd_ne (ne_of_none hd1 hp2)]; exact hd1) upd_same (Nat.lt_trans hz (by decide)), ?_⟩
    exact q _ s1 s2
  | some v =>
    refine ⟨_, rfl, iteF ?_⟩
    refine ⟨_, rfl, b, _, dx, _, _, rfl, hb1, cl_Bounds T, n_Bounds_least T, bfs_least _ _, _, rfl, _, rfl, (by show 2 ≤ sizeLine; decide), fun p2 hp2 => ?_⟩
    have k2 := k1.newT (o := .tup [.int x, .int y]) hp2
    have hd2 : upd (upd H p (.tup [.int x, .int y])) p2 (.tup [.int x, .int y]) d = some (.dT (tabT l)) := by rw [upd_ne (ne_of_none hd1 hp2)]; exact hd1
    have hb2 : upd (upd H p (.tup [.int x, .int y])) p2 (.tup [.int x, .int y]) b = some (.ins (He.ga K "Bounds") dx (bfs n d)) := by rw [upd_ne (ne_of_none hb1 hp2)]; exact hb1
    have g : DGet (upd (upd H p (.tup [.int x, .int y])) p2 (.tup [.int x, .int y])) d (.ref p2) (some (.int v)) := by
      have := DGet.t (k := pk x y) hd2 (b := p2) upd_same
      rw [valV_tab, hg] at this
      exact this
    refine ⟨d, _, rfl, g, _, rfl, _, _, rfl, rfl, _, rfl, ite2 (fun hc => ?_) (fun hc => ?_)⟩
    · have hc' := of_decide_eq_true hc
      refine ⟨_, rfl, _, rfl, b, _, dx, _, _, rfl, hb2, cl_Bounds T, n_Bounds_least T, bfs_least _ _, _, rfl, _, rfl, (by show 2 ≤ sizeLine; decide), fun p3 hp3 => ?_⟩
      have et : tput l x y c = tset l x y c := by unfold tput; rw [hg]; exact if_pos hc'
      obtain ⟨s1, s2⟩ := store _ k2 hd2 hb2 et p3 hp3
      refine ⟨d, _, rfl, DPut.t (k := pk x y) (by rw [upd_ne (ne_of_none hd2 hp3)]; exact hd2) upd_same (Nat.lt_trans hz (by decide)), ?_⟩
      exact q _ s1 s2
    · have hc' : ¬ c < v := fun z => hc (decide_eq_true z)
      have et : tput l x y c = l := by unfold tput; rw [hg]; exact if_neg hc'
      refine q _ k2 ?_
      rw [et]
      exact hd2
def sp_Bounds_between (K : PySem.W.Frag) : Sp := fun vs H Q _ => ∃ (b d : Addr) (n : Nat) (l : Tab) (x y : Nat) (lo hi : Int), vs = [.ref b, .int x, .int y, .int lo, .int hi] ∧ BdAt K H b d n l ∧ WF n l ∧ n ≤ 7 ∧ x < n ∧ y < n ∧
  ∀ H', Kp [d] H H' → H' d = some (.dT (tabT (tput (tput l x y hi) y x (-lo)))) → Q .non H'
theorem sc_Bounds_between : FnScope ["self", "x", "y", "low", "high"] ["self", "x", "y", "low", "high"] (defScope s_Bounds_between) := ⟨rfl, rfl, rfl, by decide +kernel, rfl, by decide +kernel, by decide +kernel⟩
theorem ok_Bounds_between (T : Txt w K mg) : FnOk P w K mg base CX0 2 (He.ma K (He.ga K "Bounds") "between") (fdA K (He.ma K (He.ga K "Bounds") "between")) ["self", "x", "y", "low", "high"] (sp_Bounds_between K) := by
  have G_Bounds_put := ok_Bounds_put (P := P) (base := base) T
  refine (m_Bounds_between T).ok sc_Bounds_between (fun vs H Q E h => ?_) (fun cdv A outer s H vs Q E hr h => ?_)
  · obtain ⟨_, _, _, _, _, _, _, _, rfl, _⟩ := h; rfl
  obtain ⟨b, d, n, l, x, y, lo, hi, rfl, hB, hw, hn, hx, hy, q⟩ := h
  obtain ⟨dx, hb⟩ := hB.ins
  refine ⟨_, (pss_cons (ps_expr (pmeth (pv 0) (cl_Bounds T) (a_Bounds_put T) (m_Bounds_put T) G_Bounds_put (hr.mono (by decide)) (pa_cons (pv 1) (pa_cons (pv 2) (pa_cons (pv 4) pa_nil)))))
      (pss_one (ps_expr (pmeth (pv 0) (cl_Bounds T) (a_Bounds_put T) (m_Bounds_put T) G_Bounds_put (hr.mono (by decide)) (pa_cons (pv 2) (pa_cons (pv 1) (pa_cons (pe_un un_neg (pv 3)) pa_nil))))))), ?_⟩
  refine ⟨_, rfl, b, dx, _, rfl, hb, (bfs_no _ _).1, _, rfl, _, rfl, _, rfl, b, d, n, l, x, y, hi, rfl, hB, hw, hn, fun H1 k1 e1 => ?_⟩
  have hb1 := k1.keep _ _ hb (by have := hB.ne; simp [this])
  refine ⟨_, rfl, b, dx, _, rfl, hb1, (bfs_no _ _).1, _, rfl, _, rfl, _, rfl, _, rfl, b, d, n, _, y, x, -lo, rfl, ⟨⟨dx, hb1⟩, e1⟩, hw.tput hx hy hi, hn, fun H2 k2 e2 => ?_⟩
  exact q _ (k1.trans k2) e2
theorem upd_none {H : Hp} {a p : Addr} {o : HO} (h : upd H a o p = none) : p ≠ a ∧ H p = none := by
  have ne : p ≠ a := fun q => by rw [q, upd_same] at h; cases h
  exact ⟨ne, by rw [upd_ne ne] at h; exact h⟩
/-- a new Bounds -/
theorem made_Bounds {H : Hp} {x dx d : Addr} {n : Int} (hx : H x = none) (hdx : H dx = none) (ne : dx ≠ x)
    (hd : upd (upd H dx (.own x)) x (.ins (He.ga K "Bounds") dx []) d = none) :
    Kp [] H (upd (upd (upd (upd (upd H dx (.own x)) x (.ins (He.ga K "Bounds") dx [])) x (.ins (He.ga K "Bounds") dx (putF "size" (.int n) []))) d (.dT [])) x (.ins (He.ga K "Bounds") dx (bfs n d))) ∧ H d = none ∧ x ≠ d := by
  obtain ⟨n1, h1⟩ := upd_none hd
  obtain ⟨n2, h2⟩ := upd_none h1
  exact ⟨((((Kp.refl [] H).putN hdx).putN hx).putN hx |>.putN h2).putN hx, h2, n1.symm⟩
def sp_Bounds_copied (K : PySem.W.Frag) : Sp := fun vs H Q _ => ∃ (b d : Addr) (n : Nat) (l : Tab), vs = [.ref b] ∧ BdAt K H b d n l ∧ WF n l ∧ n ≤ 7 ∧
  ∀ H' b' d', Kp [] H H' → H b' = none → H d' = none → BdAt K H' b' d' n l → Q (.ref b') H'
theorem sc_Bounds_copied : FnScope ["self", "found"] ["self"] (defScope s_Bounds_copied) := ⟨rfl, rfl, rfl, by decide +kernel, rfl, by decide +kernel, by decide +kernel⟩
theorem ok_Bounds_copied (T : Txt w K mg) : FnOk P w K mg base CX0 3 (He.ma K (He.ga K "Bounds") "copied") (fdA K (He.ma K (He.ga K "Bounds") "copied")) ["self"] (sp_Bounds_copied K) := by
  have G_Bounds_init := ok_Bounds_init (P := P) (base := base) T
  refine (m_Bounds_copied T).ok sc_Bounds_copied (fun vs H Q E h => ?_) (fun cdv A outer s H vs Q E hr h => ?_)
  · obtain ⟨_, _, _, _, rfl, _⟩ := h; rfl
  obtain ⟨b, d, n, l, rfl, hB, hw, hn, q⟩ := h
  obtain ⟨dx, hb⟩ := hB.ins
  refine ⟨_, (pss_cons (ps_set (i := 1) sc_Bounds_copied.nd rfl (Or.inl rfl) (pmake (mk_Bounds T) (c_Bounds T) (m_Bounds_init T) G_Bounds_init (hr.mono (by decide)) (pa_cons (pe_fld (pv 0) rfl) pa_nil)))
      (pss_cons (ps_fld (pv 1) (pe_callTy (call_dictT (hu8 hr)) (by rfl) (f_dict T) bb_dict (pa_cons (pe_fld (pv 0) rfl) pa_nil)) rfl)
      (pss_one (ps_ret (pv 1))))), ?_⟩
  refine ⟨_, rfl, b, _, dx, _, _, rfl, hb, cl_Bounds T, n_Bounds_size T, bfs_size _ _, fun x dy hx hdy ne => ⟨x, dy, _, rfl, upd_same, fun e he => ⟨rfl, ?_⟩⟩⟩
  have he0 := (upd_none he).2
  obtain ⟨k1, he1, nxe⟩ := made_Bounds (K := K) (n := n) hx hdy ne (by
    have := upd_none he
    rw [upd_ne this.1]
    exact this.2)
  have hb1 := k1.keep _ _ hb (by simp)
  have hd1 := k1.keep _ _ hB.dic (by simp)
  refine ⟨_, rfl, b, _, dx, _, _, rfl, hb1, cl_Bounds T, n_Bounds_least T, bfs_least _ _, d, _, rfl, .inl hd1, tab_small hw (by omega), fun c hc => ?_⟩
  obtain ⟨ncx, hc1⟩ := upd_none hc
  have hcH : H c = none := k1.free hc
  have hx2 : upd (upd (upd (upd (upd (upd H dy (.own x)) x (.ins (He.ga K "Bounds") dy [])) x (.ins (He.ga K "Bounds") dy (putF "size" (.int n) []))) e (.dT [])) x (.ins (He.ga K "Bounds") dy (bfs n e))) c (.dT (tabT l)) x = some (.ins (He.ga K "Bounds") dy (bfs n e)) := by
    rw [upd_ne ncx.symm, upd_same]
  refine ⟨_, rfl, x, _, dy, _, rfl, hx2, cl_Bounds T, n_Bounds_least T, (by show 2 < 1000; decide), ?_⟩
  rw [bfs_put]
  refine ⟨_, rfl, q _ x c ((k1.putN hcH).putN hx) hx hcH ⟨⟨dy, upd_same⟩, ?_⟩⟩
  rw [upd_ne ncx, upd_same]
theorem perm_paired {α β : Type} {F : α → β → Prop} {bs bs' : List β} (hp : bs'.Perm bs) : ∀ {l : List α}, Paired F l bs → ∃ l', l'.Perm l ∧ Paired F l' bs' := by
  induction hp with
  | nil => intro l h; exact ⟨l, .refl _, h⟩
  | cons b _ ih =>
    intro l h
    cases h with
    | cons a h =>
      obtain ⟨l', p, q⟩ := ih h
      exact ⟨_ :: l', p.cons _, .cons a q⟩
  | swap b c r =>
    intro l h
    cases h with
    | cons a h =>
      cases h with
      | cons a2 h => exact ⟨_ :: _ :: _, .swap _ _ _, .cons a2 (.cons a h)⟩
  | trans _ _ ih1 ih2 =>
    intro l h
    obtain ⟨l', p, q⟩ := ih2 h
    obtain ⟨l2, p2, q2⟩ := ih1 q
    exact ⟨l2, p2.trans p, q2⟩
def IsTr (K : PySem.W.Frag) (H : Hp) (v : V) (e : Edge) : Prop := ∃ a, v = .ref a ∧ SqT K H a [.int (e.1.1 : Nat), .int (e.1.2 : Nat), .int e.2]
theorem IsTr.kp {S : List Addr} {H H' : Hp} {v : V} {e : Edge} (h : IsTr K H v e) (k : Kp S H H') : IsTr K H' v e := let ⟨a, q, s⟩ := h; ⟨a, q, kpT s k⟩
theorem tget_mem {n : Nat} {l : Tab} (w : WF n l) {e : Edge} (he : e ∈ l) : tget l e.1.1 e.1.2 = some e.2 := by
  cases h : tget l e.1.1 e.1.2 with
  | none => exact absurd rfl (tget_none h e he)
  | some c =>
    have := tget_some h
    have e2 := w.uniq this he rfl
    rw [← e2]
def sp_Bounds_told (K : PySem.W.Frag) : Sp := fun vs H Q _ => ∃ (b d : Addr) (n : Nat) (l : Tab), vs = [.ref b] ∧ BdAt K H b d n l ∧ WF n l ∧ n ≤ 7 ∧
  ∀ H' a vs ts, Kp [] H H' → H a = none → H' a = some (.lst vs) → Paired (IsTr K H') vs ts → ts.Perm l → Q (.ref a) H'
theorem sc_Bounds_told : FnScope ["self", "x", "y"] ["self"] (defScope s_Bounds_told) := ⟨rfl, rfl, rfl, by decide +kernel, rfl, by decide +kernel, by decide +kernel⟩
theorem ok_Bounds_told (T : Txt w K mg) : FnOk P w K mg base CX0 1 (He.ma K (He.ga K "Bounds") "told") (fdA K (He.ma K (He.ga K "Bounds") "told")) ["self"] (sp_Bounds_told K) := by
  refine (m_Bounds_told T).ok sc_Bounds_told (fun vs H Q E h => ?_) (fun cdv A outer s H vs Q E hr h => ?_)
  · obtain ⟨_, _, _, _, rfl, _⟩ := h; rfl
  obtain ⟨b, d, n, l, rfl, hB, hw, hn, q⟩ := h
  obtain ⟨dx, hb⟩ := hB.ins
  refine ⟨_, (pss_one (ps_ret (pe_lc (g := gTup K 2 (gCons (gName 1) (gCons (gName 2) gNil))) (own := [("x", 1), ("y", 2)]) rfl sc_Bounds_told.nd (pi_list (pe_callB (cr_sortedDT rfl) (by rfl) (f_sorted T) bb_sorted (pa_cons (pe_fld (pv 0) rfl) pa_nil))) (blkOk_by (own := [("x", 1), ("y", 2)]) (N := ["self", "x", "y"]) (sc := defScope s_Bounds_told) (by decide +kernel)) (fun _ _ _ _ _ => (pg_tup rfl (pgs_cons (pg_name (i := 1) sc_Bounds_told.nd rfl (Or.inl rfl)) (pgs_cons (pg_name (i := 2) sc_Bounds_told.nd rfl (Or.inl rfl)) pgs_nil)))) (fun _ _ _ _ _ => pts_nil) (fun _ _ _ _ _ => (pe_tup (pa_cons (pv 1) (pa_cons (pv 2) (pa_cons (pe_dget (hu_of hr) (pe_fldK (K := K) rfl (pv 0) rfl) (pe_tup (pa_cons (pv 1) (pa_cons (pv 2) pa_nil))) (fun _ _ => rfl)) pa_nil)))))))), ?_⟩
  have hz := tab_len hw hn
  refine ⟨_, rfl, b, _, dx, _, _, rfl, hb, cl_Bounds T, n_Bounds_least T, bfs_least _ _, d, _, rfl, .inl hB.dic, tab_small hw (by omega), by omega, fun p bs bs' hp hk hpm => ?_⟩
  have hk2 : Paired (fun (e : Edge) (b : Addr) => H b = some (.tup ((pk (e.1.1 : Nat) (e.1.2 : Nat)).map kV))) l bs := by
    have : ∀ (l : Tab) (bs : List Addr), IsKeys H (tabT l) bs → Paired (fun (e : Edge) (b : Addr) => H b = some (.tup ((pk (e.1.1 : Nat) (e.1.2 : Nat)).map kV))) l bs := by
      intro l
      induction l with
      | nil => intro bs h; cases h; exact .nil
      | cons e l ih => intro bs h; cases h with | cons h1 h2 => exact .cons h1 (ih _ h2)
    exact this l bs hk
  obtain ⟨ts, hts, hpr⟩ := perm_paired hpm hk2
  have hlen : bs'.length = ts.length := (paired_len hpr).symm
  have hlt : ts.length < 64 := by have := hts.length_eq; unfold tabT at hz; rw [List.length_map] at hz; omega
  refine ⟨p, rfl, ⟨_, SqL.of upd_same⟩, fun D hD => lc_list (xs := bs'.map V.ref) (fun i H' => Kp [] (upd H p (.lst (bs'.map V.ref))) H' ∧ ∃ vs, H' D = some (.lst vs) ∧ Paired (IsTr K H') vs (ts.take i)) ⟨.new hD, [], upd_same, .nil⟩ (fun i H' _ h => SqL.of (h.1.keep _ _ upd_same (by simp))) ?_ ?_⟩
  · rintro i x H' hx ⟨k, vs, hl, hv⟩
    rw [List.getElem?_map] at hx
    obtain ⟨t, ht, rfl⟩ := Option.map_eq_some_iff.mp hx
    obtain ⟨e, he, het⟩ := paired_at' hpr ht
    have hi : i < ts.length := (List.getElem?_eq_some_iff.mp he).1
    have hel : e ∈ l := hts.mem_iff.mp (List.mem_of_getElem? he)
    have hkp : Kp [] H H' := (Kp.new hp).trans k
    have htH : H' t = some (.tup [.int (e.1.1 : Nat), .int (e.1.2 : Nat)]) := hkp.tup _ _ het
    have hvl : vs.length = i := by rw [paired_len hv, List.length_take]; omega
    refine ⟨t, _, rfl, SqT.of htH, rfl, _, _, rfl, _, _, rfl, rfl, rfl, tyes ?_⟩
    refine iteT ?_
    have hbH := hkp.keep _ _ hb (by simp)
    have hdH := hkp.keep _ _ hB.dic (by simp)
    refine ⟨_, rfl, _, rfl, _, rfl, b, _, dx, _, _, rfl, hbH, cl_Bounds T, n_Bounds_least T, bfs_least _ _, _, rfl, _, rfl, (by show 2 ≤ sizeLine; decide), fun u hu => ?_⟩
    have g : DGet (upd H' u (.tup [.int (e.1.1 : Nat), .int (e.1.2 : Nat)])) d (.ref u) (some (.int e.2)) := by
      have := DGet.t (k := pk (e.1.1 : Nat) (e.1.2 : Nat)) (show upd H' u (.tup [.int (e.1.1 : Nat), .int (e.1.2 : Nat)]) d = some (.dT (tabT l)) by rw [upd_ne (ne_of_none hdH hu)]; exact hdH) (b := u) upd_same
      rw [valV_tab, tget_mem hw hel] at this
      exact this
    refine ⟨d, _, rfl, g, (by show 3 ≤ sizeLine; decide), fun r hr2 => ?_⟩
    obtain ⟨nru, hrn⟩ := upd_none hr2
    have hDn : H' D ≠ none := by rw [hl]; simp
    have e1 : upd (upd H' u (.tup [.int (e.1.1 : Nat), .int (e.1.2 : Nat)])) r (.tup [.int (e.1.1 : Nat), .int (e.1.2 : Nat), .int e.2]) D = some (.lst vs) := by
      rw [upd_ne (ne_of_none hl hrn), upd_ne (ne_of_none hl hu)]; exact hl
    have kk : Kp [] H' (upd (upd H' u (.tup [.int (e.1.1 : Nat), .int (e.1.2 : Nat)])) r (.tup [.int (e.1.1 : Nat), .int (e.1.2 : Nat), .int e.2])) := (Kp.new hu).newT hr2
    have kD : Kp [D] (upd (upd H' u (.tup [.int (e.1.1 : Nat), .int (e.1.2 : Nat)])) r (.tup [.int (e.1.1 : Nat), .int (e.1.2 : Nat), .int e.2])) (upd (upd (upd H' u (.tup [.int (e.1.1 : Nat), .int (e.1.2 : Nat)])) r (.tup [.int (e.1.1 : Nat), .int (e.1.2 : Nat), .int e.2])) D (.lst (vs ++ [V.ref r]))) := .put (by simp) e1 rfl
    refine ⟨_, e1, by rw [hvl]; exact Nat.lt_trans (Nat.lt_trans hi hlt) (by decide), (k.trans kk).putN hD, _, upd_same, ?_⟩
    rw [List.take_succ, he]
    refine paired_snoc (pkp hv fun _ _ z => (z.kp kk).kp kD) ⟨r, rfl, kpT (SqT.of upd_same) kD⟩
  · rintro H' ⟨k, vs, hl, hv⟩
    rw [List.length_map, hlen, List.take_length] at hv
    exact q _ _ _ ts ((Kp.new hp).trans k) (upd_none hD).2 hl hv hts
end
end Ink
set_option Elab.async false
set_option linter.all false
set_option maxRecDepth 100000
set_option maxHeartbeats 4000000
namespace Ink
open PySem PySem.Spec PyProof.Rows L2
section
variable {P : Program} {w : World} {K : PySem.W.Frag} {mg : Str → Option Value} {base : Heap}
theorem Kp.drop1 {S' : List Addr} {H H1 H2 : Hp} {f : Addr} (k : Kp S' H H1) (k2 : Kp [f] H1 H2) (h : H f = none) : Kp S' H H2 := k.drop k2 fun a ha => .inl (by rw [show a = f by simpa using ha]; exact h)
def ImpT (l m : Tab) : Prop := ∀ p, Sat l p → Sat m p
/-- a list of pairs (event, number) of which F holds -/
def PrL (K : PySem.W.Frag) (F : Nat → Int → Prop) (H : Hp) (vs : List V) : Prop := ∀ v ∈ vs, ∃ (a : Addr) (x : Nat) (c : Int), v = .ref a ∧ SqT K H a [.int x, .int c] ∧ F x c
theorem PrL.kp {F : Nat → Int → Prop} {H H' : Hp} {vs : List V} {S : List Addr} (h : PrL K F H vs) (k : Kp S H H') : PrL K F H' vs := fun v hv => let ⟨a, x, c, e, s, f⟩ := h v hv; ⟨a, x, c, e, kpT s k, f⟩
theorem PrL.snoc {F : Nat → Int → Prop} {H : Hp} {vs : List V} {v : V} (h : PrL K F H vs) (h2 : ∃ (a : Addr) (x : Nat) (c : Int), v = .ref a ∧ SqT K H a [.int x, .int c] ∧ F x c) : PrL K F H (vs ++ [v]) := fun u hu => by
  rcases List.mem_append.mp hu with q | q
  · exact h u q
  · have : u = v := by simpa using q
    rw [this]; exact h2
theorem dget_tab {H : Hp} {d u : Addr} {l : Tab} {x y : Nat} (h : H d = some (.dT (tabT l))) (hu : H u = some (.tup [.int x, .int y])) : DGet H d (.ref u) ((tget l x y).map V.int) := by
  have := DGet.t (k := pk (x : Int) (y : Int)) h hu
  rw [valV_tab] at this
  exact this
theorem dput_tab {H : Hp} {d u : Addr} {l : Tab} {x y : Nat} {c : Int} (h : H d = some (.dT (tabT l))) (hu : H u = some (.tup [.int x, .int y])) (hz : (tabT l).length < sizeLine) : DPut H d (.ref u) (.int c) (upd H d (.dT (tabT (tset l x y c)))) := by
  have := DPut.t (k := pk (x : Int) (y : Int)) (v := .int c) h hu hz
  rw [putK_tab] at this
  exact this
theorem sat_tset {n : Nat} {l : Tab} (w : WF n l) {x y : Nat} {c : Int} {p : Nat → Int} (h : Sat l p) (h2 : p x ≤ p y + c) : Sat (tset l x y c) p := by
  cases e : tget l x y with
  | none => rw [tset_new e]; exact sat_app.mpr ⟨h, h2⟩
  | some d =>
    rw [tset_old e]
    intro f hf
    obtain ⟨g, hg, rfl⟩ := List.mem_map.mp hf
    by_cases q : g.1 = (x, y)
    · rw [if_pos q]
      show p g.1.1 ≤ p g.1.2 + c
      rw [q]; exact h2
    · rw [if_neg q]; exact h g hg
def sp_Bounds_closed (K : PySem.W.Frag) : Sp := fun vs H Q _ => ∃ (b d : Addr) (n : Nat) (l : Tab), vs = [.ref b] ∧ BdAt K H b d n l ∧ WF n l ∧ n ≤ 7 ∧
  ∀ H' f lf, Kp [] H H' → H f = none → H' f = some (.dT (tabT lf)) → WF n lf → ImpT l lf → Q (.ref f) H'
theorem sc_Bounds_closed : FnScope ["self", "found", "middle", "ins", "x", "outs", "y", "c", "d"] ["self"] (defScope s_Bounds_closed) := ⟨rfl, rfl, rfl, by decide +kernel, rfl, by decide +kernel, by decide +kernel⟩
theorem ok_Bounds_closed (T : Txt w K mg) : FnOk P w K mg base CX0 1 (He.ma K (He.ga K "Bounds") "closed") (fdA K (He.ma K (He.ga K "Bounds") "closed")) ["self"] (sp_Bounds_closed K) := by
  refine (m_Bounds_closed T).ok sc_Bounds_closed (fun vs H Q E h => ?_) (fun cdv A outer s H vs Q E hr h => ?_)
  · obtain ⟨_, _, _, _, rfl, _⟩ := h; rfl
  obtain ⟨b, d, n, l, rfl, hB, hw, hn, q⟩ := h
  obtain ⟨dx, hb⟩ := hB.ins
  refine ⟨_, (pss_cons (ps_set (i := 1) sc_Bounds_closed.nd rfl (Or.inr rfl) (pe_callTy (call_dictT (hu8 hr)) (by rfl) (f_dict T) bb_dict (pa_cons (pe_fld (pv 0) rfl) pa_nil)))
      (pss_cons (ps_for PassesOwn.never rfl (pi_range1 (by rfl) (f_range T) (pa_cons (pe_fld (pv 0) rfl) pa_nil)) (pg_name (i := 2) sc_Bounds_closed.nd rfl (Or.inr rfl)) (pss_cons (ps_setLc (i := 3) (own := [("x", 4)]) rfl sc_Bounds_closed.nd rfl rfl (sw_true rfl rfl rfl (by decide +kernel)) (pi_range1 (by rfl) (f_range T) (pa_cons (pe_fld (pv 0) rfl) pa_nil)) (blkOk_by (own := [("x", 4)]) (N := ["self", "found", "middle", "ins", "x", "outs", "y", "c", "d"]) (sc := defScope s_Bounds_closed) (by decide +kernel)) (fun _ _ _ _ _ => (pg_name (i := 4) sc_Bounds_closed.nd rfl (Or.inl rfl))) (fun _ _ _ _ _ => (pts_one (pt_cmp (pc_din (hu_of hr) (pe_tup (pa_cons (pv 4) (pa_cons (pv 2) pa_nil))) (pv 1))))) (fun _ _ _ _ _ => (pe_tup (pa_cons (pv 4) (pa_cons (pe_dget (hu_of hr) (pv 1) (pe_tup (pa_cons (pv 4) (pa_cons (pv 2) pa_nil))) (fun _ _ => rfl)) pa_nil)))))
      (pss_cons (ps_setLc (i := 5) (own := [("y", 6)]) rfl sc_Bounds_closed.nd rfl rfl (sw_true rfl rfl rfl (by decide +kernel)) (pi_range1 (by rfl) (f_range T) (pa_cons (pe_fld (pv 0) rfl) pa_nil)) (blkOk_by (own := [("y", 6)]) (N := ["self", "found", "middle", "ins", "x", "outs", "y", "c", "d"]) (sc := defScope s_Bounds_closed) (by decide +kernel)) (fun _ _ _ _ _ => (pg_name (i := 6) sc_Bounds_closed.nd rfl (Or.inl rfl))) (fun _ _ _ _ _ => (pts_one (pt_cmp (pc_din (hu_of hr) (pe_tup (pa_cons (pv 2) (pa_cons (pv 6) pa_nil))) (pv 1))))) (fun _ _ _ _ _ => (pe_tup (pa_cons (pv 6) (pa_cons (pe_dget (hu_of hr) (pv 1) (pe_tup (pa_cons (pv 2) (pa_cons (pv 6) pa_nil))) (fun _ _ => rfl)) pa_nil)))))
      (pss_one (ps_for PassesOwn.never rfl (pi_list (pv 3)) (pg_tup rfl (pgs_cons (pg_name (i := 4) sc_Bounds_closed.nd rfl (Or.inl rfl)) (pgs_cons (pg_name (i := 7) sc_Bounds_closed.nd rfl (Or.inl rfl)) pgs_nil))) (pss_one (ps_for PassesOwn.never rfl (pi_list (pv 5)) (pg_tup rfl (pgs_cons (pg_name (i := 6) sc_Bounds_closed.nd rfl (Or.inl rfl)) (pgs_cons (pg_name (i := 8) sc_Bounds_closed.nd rfl (Or.inl rfl)) pgs_nil))) (pss_one (ps_if (PW.pt (pw_or (pt_cmp (pc_dnotin (hu_of hr) (pe_tup (pa_cons (pv 4) (pa_cons (pv 6) pa_nil))) (pv 1))) (pw_or1 (pt_cmpR op_gt (pe_dget (hu_of hr) (pv 1) (pe_tup (pa_cons (pv 4) (pa_cons (pv 6) pa_nil))) (fun _ _ => rfl)) (pe_op op_add (pv 7) (pv 8)) (nomark _))))) (pss_one (ps_dput (hu_of hr) (pv 1) (pe_tup (pa_cons (pv 4) (pa_cons (pv 6) pa_nil))) (pe_op op_add (pv 7) (pv 8)) rfl)) pss_nil)))))))))
      (pss_one (ps_ret (pv 1))))), ?_⟩
  refine ⟨_, rfl, b, _, dx, _, _, rfl, hb, cl_Bounds T, n_Bounds_least T, bfs_least _ _, d, _, rfl, .inl hB.dic, tab_small hw (by omega), fun f hf => ?_⟩
  have k0 : Kp [] H (upd H f (.dT (tabT l))) := .new hf
  have hb0 := k0.keep _ _ hb (by simp)
  refine ⟨_, rfl, b, _, dx, _, _, rfl, hb0, cl_Bounds T, n_Bounds_size T, bfs_size _ _, _, rfl, (by omega), (by omega), for_range (lo := 0) (n := n) (fun _ σ H' => ∃ lf o2 o3 o4 o5 o6 o7 o8, σ = [some (.ref b), some (.ref f), o2, o3, o4, o5, o6, o7, o8] ∧ Kp [] H H' ∧ H' f = some (.dT (tabT lf)) ∧ WF n lf ∧ ImpT l lf)
    ⟨l, _, _, _, _, _, _, _, rfl, k0, upd_same, hw, fun _ z => z⟩ ?_ ?_⟩
  · rintro m σ H1 hm ⟨lf, o2, o3, o4, o5, o6, o7, o8, rfl, k1, hf1, hwf, himp⟩
    rw [Int.zero_add]
    have hb1 := k1.keep _ _ hb (by simp)
    have hzf := tab_len hwf hn
    -- ins
    refine ⟨_, rfl, b, _, dx, _, _, rfl, hb1, cl_Bounds T, n_Bounds_size T, bfs_size _ _, _, rfl, (by omega), (by omega), fun D hD => lc_range (lo := 0) (n := n) (fun i H' => Kp [] H1 H' ∧ ∃ vs, H' D = some (.lst vs) ∧ PrL K (fun x c => x < n ∧ ∀ p, Sat l p → p x ≤ p m + c) H' vs ∧ vs.length ≤ i) ⟨.new hD, [], upd_same, (fun v hv => by cases hv), Nat.le_refl _⟩ ?_ ?_⟩
    · rintro i H2 hi ⟨k2, vs, hl, hv, hlen⟩
      rw [Int.zero_add]
      have hf2 := k2.keep _ _ hf1 (by simp)
      refine ⟨rfl, ?_⟩
      refine ⟨_, rfl, _, rfl, (by show 2 ≤ sizeLine; decide), fun u hu => ⟨_, rfl, f, _, rfl, dget_tab (x := i) (y := m) (by rw [upd_ne (ne_of_none hf2 hu)]; exact hf2) upd_same, ?_⟩⟩
      have ku : Kp [] H2 (upd H2 u (.tup [.int (i : Nat), .int (m : Nat)])) := .new hu
      have hlu := ku.keep _ _ hl (by simp)
      have hfu := ku.keep _ _ hf2 (by simp)
      cases hg : tget lf i m with
      | none => exact ⟨_, rfl, iteF ⟨k2.trans ku, vs, hlu, hv.kp ku, by omega⟩⟩
      | some c =>
        refine ⟨_, rfl, iteT ?_⟩
        refine ⟨_, rfl, _, rfl, _, rfl, _, rfl, (by show 2 ≤ sizeLine; decide), fun u2 hu2 => ?_⟩
        have ku2 := ku.newT (o := .tup [.int (i : Nat), .int (m : Nat)]) hu2
        have g : DGet (upd (upd H2 u (.tup [.int (i : Nat), .int (m : Nat)])) u2 (.tup [.int (i : Nat), .int (m : Nat)])) f (.ref u2) (some (.int c)) := by
          have := dget_tab (x := i) (y := m) (ku2.keep _ _ hf2 (by simp)) (u := u2) upd_same
          rw [hg] at this
          exact this
        refine ⟨f, _, rfl, g, (by show 2 ≤ sizeLine; decide), fun r hr2 => ?_⟩
        have ku3 := ku2.newT (o := .tup [.int (i : Nat), .int c]) hr2
        have hl3 := ku3.keep _ _ hl (by simp)
        have kD : Kp [D] _ (upd _ D (.lst (vs ++ [V.ref r]))) := .put (by simp) hl3 rfl
        refine ⟨_, hl3, small1000 (by omega), (k2.trans ku3).putN hD, _, upd_same, ?_, by rw [List.length_append, List.length_singleton]; omega⟩
        refine PrL.snoc ((hv.kp ku3).kp kD) ⟨r, i, c, rfl, kpT (SqT.of upd_same) kD, hi, fun p hp => ?_⟩
        have := himp p hp _ (tget_some hg)
        exact this
    rintro H2 ⟨k2, vsI, hlI, hvI, hlenI⟩
    have hD1 := hD
    have hf2 := k2.keep _ _ hf1 (by simp)
    have hb2 := k2.keep _ _ hb1 (by simp)
    refine ⟨_, rfl, b, _, dx, _, _, rfl, hb2, cl_Bounds T, n_Bounds_size T, bfs_size _ _, _, rfl, (by omega), (by omega), fun D2 hD2 => lc_range (lo := 0) (n := n) (fun i H' => Kp [] H2 H' ∧ ∃ vs, H' D2 = some (.lst vs) ∧ PrL K (fun y c => y < n ∧ ∀ p, Sat l p → p m ≤ p y + c) H' vs ∧ vs.length ≤ i) ⟨.new hD2, [], upd_same, (fun v hv => by cases hv), Nat.le_refl _⟩ ?_ ?_⟩
    · rintro i H3 hi ⟨k3, vs, hl, hv, hlen⟩
      rw [Int.zero_add]
      have hf3 := k3.keep _ _ hf2 (by simp)
      refine ⟨rfl, ?_⟩
      refine ⟨_, rfl, _, rfl, (by show 2 ≤ sizeLine; decide), fun u hu => ⟨_, rfl, f, _, rfl, dget_tab (x := m) (y := i) (by rw [upd_ne (ne_of_none hf3 hu)]; exact hf3) upd_same, ?_⟩⟩
      have ku : Kp [] H3 (upd H3 u (.tup [.int (m : Nat), .int (i : Nat)])) := .new hu
      have hlu := ku.keep _ _ hl (by simp)
      have hfu := ku.keep _ _ hf3 (by simp)
      cases hg : tget lf m i with
      | none => exact ⟨_, rfl, iteF ⟨k3.trans ku, vs, hlu, hv.kp ku, by omega⟩⟩
      | some c =>
        refine ⟨_, rfl, iteT ?_⟩
        refine ⟨_, rfl, _, rfl, _, rfl, _, rfl, (by show 2 ≤ sizeLine; decide), fun u2 hu2 => ?_⟩
        have ku2 := ku.newT (o := .tup [.int (m : Nat), .int (i : Nat)]) hu2
        have g : DGet (upd (upd H3 u (.tup [.int (m : Nat), .int (i : Nat)])) u2 (.tup [.int (m : Nat), .int (i : Nat)])) f (.ref u2) (some (.int c)) := by
          have := dget_tab (x := m) (y := i) (ku2.keep _ _ hf3 (by simp)) (u := u2) upd_same
          rw [hg] at this
          exact this
        refine ⟨f, _, rfl, g, (by show 2 ≤ sizeLine; decide), fun r hr2 => ?_⟩
        have ku3 := ku2.newT (o := .tup [.int (i : Nat), .int c]) hr2
        have hl3 := ku3.keep _ _ hl (by simp)
        have kD : Kp [D2] _ (upd _ D2 (.lst (vs ++ [V.ref r]))) := .put (by simp) hl3 rfl
        refine ⟨_, hl3, small1000 (by omega), (k3.trans ku3).putN hD2, _, upd_same, ?_, by rw [List.length_append, List.length_singleton]; omega⟩
        refine PrL.snoc ((hv.kp ku3).kp kD) ⟨r, i, c, rfl, kpT (SqT.of upd_same) kD, hi, fun p hp => ?_⟩
        have := himp p hp _ (tget_some hg)
        exact this
    rintro H3 ⟨k3, vsO, hlO, hvO, hlenO⟩
    have hf3 := k3.keep _ _ hf2 (by simp)
    have hlI3 := k3.keep _ _ hlI (by simp)
    have hfD : f ≠ D := ne_of hf3 hlI3 (by intro z; cases z)
    have hfD2 : f ≠ D2 := ne_of hf3 hlO (by intro z; cases z)
    refine ⟨_, rfl, D, rfl, ⟨_, SqL.of hlI3⟩, for_list (xs := vsI) (fun _ σ H' => ∃ lf o4 o6 o7 o8, σ = [some (.ref b), some (.ref f), some (.int (m : Nat)), some (.ref D), o4, some (.ref D2), o6, o7, o8] ∧ Kp [f] H3 H' ∧ H' f = some (.dT (tabT lf)) ∧ WF n lf ∧ ImpT l lf)
      ⟨lf, _, _, _, _, rfl, .refl _ _, hf3, hwf, himp⟩ (fun i σ H' _ h => by obtain ⟨_, _, _, _, _, _, k, _⟩ := h; exact SqL.of (k.keep _ _ hlI3 (by simp [hfD.symm]))) ?_ ?_⟩
    · rintro i v σ H4 hv ⟨lf4, o4, o6, o7, o8, rfl, k4, hf4, hwf4, himp4⟩
      obtain ⟨a, x, c, rfl, ha, hx, hxc⟩ := hvI v (List.mem_of_getElem? hv)
      have ha4 := kpT (kpT ha k3) k4
      have hlO4 := k4.keep _ _ hlO (by simp [hfD2.symm])
      refine ⟨a, _, rfl, ha4, rfl, _, _, rfl, _, _, rfl, rfl, ?_⟩
      refine ⟨_, rfl, D2, rfl, ⟨_, SqL.of hlO4⟩, for_list (xs := vsO) (fun _ σ H' => ∃ lf o6 o8, σ = [some (.ref b), some (.ref f), some (.int (m : Nat)), some (.ref D), some (.int (x : Nat)), some (.ref D2), o6, some (.int c), o8] ∧ Kp [f] H3 H' ∧ H' f = some (.dT (tabT lf)) ∧ WF n lf ∧ ImpT l lf)
        ⟨lf4, _, _, rfl, k4, hf4, hwf4, himp4⟩ (fun i σ H' _ h => by obtain ⟨_, _, _, _, k, _⟩ := h; exact SqL.of (k.keep _ _ hlO (by simp [hfD2.symm]))) ?_ ?_⟩
      · rintro j u σ H5 hu ⟨lf5, o6, o8, rfl, k5, hf5, hwf5, himp5⟩
        obtain ⟨a2, y, e, rfl, ha2, hy, hye⟩ := hvO u (List.mem_of_getElem? hu)
        have ha5 := kpT ha2 k5
        have hz5 := tab_len hwf5 hn
        refine ⟨a2, _, rfl, ha5, rfl, _, _, rfl, _, _, rfl, rfl, ?_⟩
        refine ⟨_, rfl, _, rfl, (by show 2 ≤ sizeLine; decide), fun u1 hu1 => ⟨_, rfl, f, _, rfl, dget_tab (x := x) (y := y) (by rw [upd_ne (ne_of_none hf5 hu1)]; exact hf5) upd_same, ?_⟩⟩
        have ku : Kp [f] H5 (upd H5 u1 (.tup [.int (x : Nat), .int (y : Nat)])) := .new hu1
        have hfu : upd H5 u1 (.tup [.int (x : Nat), .int (y : Nat)]) f = some (.dT (tabT lf5)) := by rw [upd_ne (ne_of_none hf5 hu1)]; exact hf5
        have fin : ∀ H6 : Hp, Kp [f] H5 H6 → H6 f = some (.dT (tabT lf5)) → ∀ u2, H6 u2 = none → Kp [f] H3 (upd (upd H6 u2 (.tup [.int (x : Nat), .int (y : Nat)])) f (.dT (tabT (tset lf5 x y (c + e))))) := fun H6 k6 e6 u2 hu2 =>
          (k5.trans (k6.newT hu2)).trans (.put (by simp) (by rw [upd_ne (ne_of_none e6 hu2)]; exact e6) rfl)
        have imp6 : ImpT l (tset lf5 x y (c + e)) := fun p hp => sat_tset hwf5 (himp5 p hp) (by have := hxc p hp; have := hye p hp; omega)
        cases hg : tget lf5 x y with
        | none =>
          refine ⟨_, rfl, iteT ?_⟩
          refine iteT ?_
          refine ⟨_, rfl, _, rfl, _, _, rfl, rfl, _, rfl, _, rfl, _, rfl, (by show 2 ≤ sizeLine; decide), fun u2 hu2 => ?_⟩
          refine ⟨f, _, rfl, dput_tab (x := x) (y := y) (by rw [upd_ne (ne_of_none hfu hu2)]; exact hfu) upd_same (Nat.lt_trans hz5 (by decide)), ?_⟩
          exact ⟨_, _, _, rfl, fin _ ku hfu u2 hu2, upd_same, hwf5.tset hx hy _, imp6⟩
        | some v0 =>
          refine ⟨_, rfl, iteF ?_⟩
          refine ⟨_, rfl, _, rfl, _, rfl, (by show 2 ≤ sizeLine; decide), fun u2 hu2 => ?_⟩
          have ku2 := ku.newT (o := .tup [.int (x : Nat), .int (y : Nat)]) hu2
          have hfu2 : upd (upd H5 u1 (.tup [.int (x : Nat), .int (y : Nat)])) u2 (.tup [.int (x : Nat), .int (y : Nat)]) f = some (.dT (tabT lf5)) := by rw [upd_ne (ne_of_none hfu hu2)]; exact hfu
          have g : DGet (upd (upd H5 u1 (.tup [.int (x : Nat), .int (y : Nat)])) u2 (.tup [.int (x : Nat), .int (y : Nat)])) f (.ref u2) (some (.int v0)) := by
            have := dget_tab (x := x) (y := y) hfu2 (u := u2) upd_same
            rw [hg] at this
            exact this
          refine ⟨f, _, rfl, g, _, rfl, _, rfl, _, _, rfl, rfl, _, _, rfl, rfl, _, rfl, ite2 (fun _ => ?_) (fun _ => ?_)⟩
          · refine ⟨_, rfl, _, rfl, _, _, rfl, rfl, _, rfl, _, rfl, _, rfl, (by show 2 ≤ sizeLine; decide), fun u3 hu3 => ?_⟩
            refine ⟨f, _, rfl, dput_tab (x := x) (y := y) (by rw [upd_ne (ne_of_none hfu2 hu3)]; exact hfu2) upd_same (Nat.lt_trans hz5 (by decide)), ?_⟩
            exact ⟨_, _, _, rfl, fin _ ku2 hfu2 u3 hu3, upd_same, hwf5.tset hx hy _, imp6⟩
          · exact ⟨_, _, _, rfl, k5.trans ku2, hfu2, hwf5, himp5⟩
      · rintro σ H5 ⟨lf5, o6, o8, rfl, k5, r5⟩
        exact ⟨lf5, _, _, _, _, rfl, k5, r5⟩
    · rintro σ H4 ⟨lf4, o4, o6, o7, o8, rfl, k4, r4⟩
      exact ⟨lf4, _, _, _, _, _, _, _, rfl, ((k1.trans k2).trans k3).drop1 k4 hf, r4⟩
  · rintro σ H1 ⟨lf, o2, o3, o4, o5, o6, o7, o8, rfl, k1, hf1, hwf, himp⟩
    exact ⟨_, rfl, q _ f lf k1 hf hf1 hwf himp⟩
end
end Ink
set_option Elab.async false
set_option linter.all false
set_option maxRecDepth 100000
set_option maxHeartbeats 4000000
namespace Ink
open PySem PySem.Spec PyProof.Rows L2
theorem ixN_nat {n i : Nat} (h : i < n) : ixN n (i : Int) = some i := by
  unfold ixN
  rw [if_pos (Int.natCast_nonneg _), if_pos (by omega)]
  rfl
def intL (n : Nat) (t : Nat → Int) : List V := (List.range n).map fun i => V.int (t i)
def optV : Option Nat → V
  | none => .non
  | some y => .int (y : Nat)
def optL (n : Nat) (a : Nat → Option Nat) : List V := (List.range n).map fun i => optV (a i)
theorem at_range {n i : Nat} {g : Nat → V} (h : i < n) : ((List.range n).map g)[i]? = some (g i) := by
  rw [List.getElem?_map, List.getElem?_range h]; rfl
theorem intL_at {n i : Nat} {t : Nat → Int} (h : i < n) : atI (intL n t) (i : Int) = some (.int (t i)) := atI_nat (at_range h)
theorem optL_at {n i : Nat} {a : Nat → Option Nat} (h : i < n) : atI (optL n a) (i : Int) = some (optV (a i)) := atI_nat (at_range h)
theorem set_range {α : Type} {n i : Nat} {f : Nat → α} {g : α → V} {v : α} : ((List.range n).map fun j => g (f j)).set i (g v) = (List.range n).map fun j => g (set1 f i v j) := by
  apply List.ext_getElem?
  intro j
  rw [List.getElem?_set, List.getElem?_map, List.getElem?_map, List.length_map, List.length_range]
  by_cases q : i = j
  · subst q
    rw [if_pos rfl]
    by_cases h : i < n
    · rw [if_pos h, List.getElem?_range h]
      show some (g v) = some (g (set1 f i v i))
      rw [set1_same]
    · rw [if_neg h, List.getElem?_eq_none (by rw [List.length_range]; omega)]; rfl
  · rw [if_neg q]
    cases e : (List.range n)[j]? with
    | none => rfl
    | some k =>
      have : k = j := by
        have := List.getElem?_eq_some_iff.mp e
        obtain ⟨h1, h2⟩ := this
        rw [List.getElem_range] at h2
        exact h2.symm
      subst this
      show some (g (f k)) = some (g (set1 f i v k))
      rw [set1_ne (Ne.symm q)]
theorem intL_set {n i : Nat} {t : Nat → Int} {v : Int} : (intL n t).set i (.int v) = intL n (set1 t i v) := set_range (g := V.int)
theorem optL_set {n i y : Nat} {a : Nat → Option Nat} : (optL n a).set i (.int (y : Nat)) = optL n (set1 a i (some y)) := set_range (g := optV) (v := some y)
theorem len_intL {n : Nat} {t : Nat → Int} : (intL n t).length = n := by unfold intL; rw [List.length_map, List.length_range]
theorem len_optL {n : Nat} {a : Nat → Option Nat} : (optL n a).length = n := by unfold optL; rw [List.length_map, List.length_range]
theorem rep_flat (n : Nat) (v : V) : (List.replicate ((n : Nat) : Int).toNat [v]).flatten = (List.range n).map fun _ => v := by
  rw [Int.toNat_natCast]
  apply List.ext_getElem?
  intro i
  have e : (List.replicate n [v]).flatten = List.replicate n v := by
    induction n with
    | zero => rfl
    | succ n ih => rw [List.replicate_succ, List.flatten_cons, ih, List.replicate_succ]; rfl
  rw [e, List.getElem?_replicate]
  by_cases h : i < n
  · rw [if_pos h, at_range h]
  · rw [if_neg h, List.getElem?_eq_none (by rw [List.length_map, List.length_range]; omega)]
theorem pass_snoc : ∀ (xs : List Edge) (k : Nat) (b : BS) (e : Edge), pass k (xs ++ [e]) b = relax (k + xs.length + 1) (pass k xs b) e
  | [], _, _, _ => rfl
  | x :: xs, k, b, e => by
    show pass (k + 1) (xs ++ [e]) (relax (k + 1) b x) = relax (k + (xs.length + 1) + 1) (pass (k + 1) xs (relax (k + 1) b x)) e
    rw [pass_snoc xs]
    rw [show k + 1 + xs.length + 1 = k + (xs.length + 1) + 1 by omega]
section
variable {P : Program} {w : World} {K : PySem.W.Frag} {mg : Str → Option Value} {base : Heap}
def sp_Bounds_ring_from (K : PySem.W.Frag) : Sp := fun vs H Q _ => ∃ (b d ah : Addr) (n : Nat) (l : Tab) (a : Nat → Option Nat) (g : Nat → Nat) (k : Nat), vs = [.ref b, .ref ah, .int (g 0 : Nat)] ∧ BdAt K H b d n l ∧ n ≤ 7 ∧ H ah = some (.lst (optL n a)) ∧
  (∀ i, a (g i) = some (g (i + 1))) ∧ (∀ i, g i < n) ∧ 0 < k ∧ k ≤ n ∧ g (n + k) = g n ∧
  ∀ H' r, Kp [] H H' → Q (.ref r) H'
theorem sc_Bounds_ring_from : FnScope ["self", "ahead", "event", "turn", "found", "here"] ["self", "ahead", "event"] (defScope s_Bounds_ring_from) := ⟨rfl, rfl, rfl, by decide +kernel, rfl, by decide +kernel, by decide +kernel⟩
theorem ok_Bounds_ring_from (T : Txt w K mg) : FnOk P w K mg base CX0 1 (He.ma K (He.ga K "Bounds") "ring_from") (fdA K (He.ma K (He.ga K "Bounds") "ring_from")) ["self", "ahead", "event"] (sp_Bounds_ring_from K) := by
  refine (m_Bounds_ring_from T).ok sc_Bounds_ring_from (fun vs H Q E h => ?_) (fun cdv A outer s H vs Q E hr h => ?_)
  · obtain ⟨_, _, _, _, _, _, _, _, rfl, _⟩ := h; rfl
  obtain ⟨b, d, ah, n, l, a, g, k, rfl, hB, hn, hah, hg, hgn, hk0, hk, hgk, q⟩ := h
  obtain ⟨dx, hb⟩ := hB.ins
  have atg : ∀ i, atI (optL n a) ((g i : Nat) : Int) = some (.int (g (i + 1) : Nat)) := fun i => by rw [optL_at (hgn i), hg i]; rfl
  refine ⟨_, (pss_cons (ps_for PassesOwn.never rfl (pi_range1 (by rfl) (f_range T) (pa_cons (pe_fld (pv 0) rfl) pa_nil)) (pg_name (i := 3) sc_Bounds_ring_from.nd rfl (Or.inl rfl)) (pss_one (ps_set (i := 2) sc_Bounds_ring_from.nd rfl (Or.inl rfl) (pe_ix ix_list (pv 1) (pv 2) (fun _ _ => rfl)))))
      (pss_cons (ps_par (i := 4) (j := 5) rfl sc_Bounds_ring_from.nd rfl rfl (by decide) rfl rfl (pa_cons (pe_lst (pa_cons (pv 2) pa_nil)) (pa_cons (pe_ix ix_list (pv 1) (pv 2) (fun _ _ => rfl)) pa_nil)) (by rfl))
      (pss_cons (ps_while PassesOwn.never (pt_cmpR op_ne (pv 5) (pv 2) (nomark _)) (pss_cons (ps_expr (pe_bm PySem.F.plainAttrs_list PySem.F.slot_list_append PySem.F.type_list_append mt_append (pv 4) (pa_cons (pv 5) pa_nil)))
      (pss_one (ps_set (i := 5) sc_Bounds_ring_from.nd rfl (Or.inl rfl) (pe_ix ix_list (pv 1) (pv 5) (fun _ _ => rfl))))))
      (pss_one (ps_ret (pe_callTy call_tuple_of (by rfl) (f_tuple T) bb_tuple (pa_cons (pv 4) pa_nil))))))), ?_⟩
  refine ⟨_, rfl, b, _, dx, _, _, rfl, hb, cl_Bounds T, n_Bounds_size T, bfs_size _ _, _, rfl, (by omega), (by omega), for_range (lo := 0) (n := n) (fun i σ H' => ∃ o3, σ = [some (.ref b), some (.ref ah), some (.int (g i : Nat)), o3, none, none] ∧ H' = H)
    ⟨_, rfl, rfl⟩ ?_ ?_⟩
  · rintro i σ H1 hi ⟨o3, rfl, rfl⟩
    exact ⟨_, rfl, _, rfl, ah, _, _, _, rfl, rfl, SqL.of hah, atg i, _, rfl, rfl⟩
  rintro σ H1 ⟨o3, rfl, rfl⟩
  refine ⟨_, rfl, (by show 1 ≤ sizeLine; decide), fun D hD => ?_⟩
  have hah1 : upd H1 D (.lst [V.int (g n : Nat)]) ah = some (.lst (optL n a)) := by rw [upd_ne (ne_of_none hah hD)]; exact hah
  refine ⟨_, rfl, _, rfl, ah, _, _, _, rfl, rfl, SqL.of hah1, atg n, _, _, rfl, ?_⟩
  refine ⟨fun m σ H' => ∃ j vs, m = k - j ∧ 1 ≤ j ∧ j ≤ k ∧ σ = [some (.ref b), some (.ref ah), some (.int (g n : Nat)), o3, some (.ref D), some (.int (g (n + j) : Nat))] ∧ H' D = some (.lst vs) ∧ vs.length = j ∧ Kp [] H1 H',
    ⟨_, 1, _, rfl, Nat.le_refl _, hk0, rfl, upd_same, rfl, .new hD⟩, ?_⟩
  rintro m σ H2 ⟨j, vs, rfl, hj1, hjk, rfl, hDl, hlen, k2⟩
  refine ⟨_, rfl, _, rfl, rfl, _, rfl, ?_⟩
  refine ite2 (fun hc => ?_) (fun hc => ?_)
  · have hjk2 : j ≠ k := fun e => by
      subst e
      rw [hgk] at hc
      simp at hc
    refine ⟨fun σ H' => ∃ vs, σ = [some (.ref b), some (.ref ah), some (.int (g n : Nat)), o3, some (.ref D), some (.int (g (n + (j + 1)) : Nat))] ∧ H' D = some (.lst vs) ∧ vs.length = j + 1 ∧ Kp [] H1 H', ?_, ?_⟩
    · rintro σ' H' ⟨vs', rfl, h1, h2, h3⟩
      exact ⟨k - (j + 1), by omega, j + 1, vs', rfl, by omega, by omega, rfl, h1, h2, h3⟩
    · refine ⟨_, rfl, .inl ⟨rfl, _, SqL.of hDl⟩, _, rfl, D, vs, _, rfl, rfl, hDl, small1000 (by omega), ?_⟩
      have hahn := (k2.putN (p := D) (o := .lst (vs ++ [V.int (g (n + j) : Nat)])) hD).keep _ _ hah (by simp)
      refine ⟨_, rfl, _, rfl, ah, _, _, _, rfl, rfl, SqL.of hahn, atg (n + j), _, rfl, upd_same, by rw [List.length_append, hlen]; rfl, k2.putN hD⟩
  · exact ⟨_, rfl, D, _, rfl, .inl ⟨SqL.of hDl, fun r hr => q _ r (k2.newT hr)⟩⟩
def sp_Bounds_solved (K : PySem.W.Frag) : Sp := fun vs H Q _ => ∃ (b d : Addr) (n : Nat) (l : Tab), vs = [.ref b] ∧ BdAt K H b d n l ∧ WF n l ∧ Ends2 n l ∧ 1 ≤ n ∧ n ≤ 7 ∧
  ∀ H' r r0 r1, Kp [] H H' → H' r = some (.tup [r0, r1]) →
    ((r0 = .non ∧ ∀ p, ¬ Sat l p) ∨ ∃ q p, r0 = .ref q ∧ H' q = some (.lst (intL n p)) ∧ H q = none ∧ p 0 = 0 ∧ Sat l p) → Q (.ref r) H'
theorem sc_Bounds_solved : FnScope ["self", "ticks", "ahead", "last", "turn", "x", "y", "c", "tick"] ["self"] (defScope s_Bounds_solved) := ⟨rfl, rfl, rfl, by decide +kernel, rfl, by decide +kernel, by decide +kernel⟩
theorem ok_Bounds_solved (T : Txt w K mg) : FnOk P w K mg base CX0 2 (He.ma K (He.ga K "Bounds") "solved") (fdA K (He.ma K (He.ga K "Bounds") "solved")) ["self"] (sp_Bounds_solved K) := by
  have G_Bounds_told := ok_Bounds_told (P := P) (base := base) T
  have G_Bounds_ring_from := ok_Bounds_ring_from (P := P) (base := base) T
  refine (m_Bounds_solved T).ok sc_Bounds_solved (fun vs H Q E h => ?_) (fun cdv A outer s H vs Q E hr h => ?_)
  · obtain ⟨_, _, _, _, rfl, _⟩ := h; rfl
  obtain ⟨b, d, n, l, rfl, hB, hw, he2, hn0, hn, q⟩ := h
  obtain ⟨dx, hb⟩ := hB.ins
  refine ⟨_, (pss_cons (ps_asg (pe_tup (pa_cons (pe_op op_rep (pe_lst (pa_cons pe_int pa_nil)) (pe_fld (pv 0) rfl)) (pa_cons (pe_op op_rep (pe_lst (pa_cons pe_non pa_nil)) (pe_fld (pv 0) rfl)) pa_nil))) (pg_tup rfl (pgs_cons (pg_name (i := 1) sc_Bounds_solved.nd rfl (Or.inr rfl)) (pgs_cons (pg_name (i := 2) sc_Bounds_solved.nd rfl (Or.inl rfl)) pgs_nil))))
      (pss_cons (ps_set (i := 3) sc_Bounds_solved.nd rfl (Or.inl rfl) pe_non)
      (pss_cons (ps_for PassesOwn.never rfl (pi_range1 (by rfl) (f_range T) (pa_cons (pe_op op_add (pe_fld (pv 0) rfl) pe_int) pa_nil)) (pg_name (i := 4) sc_Bounds_solved.nd rfl (Or.inl rfl)) (pss_cons (ps_set (i := 3) sc_Bounds_solved.nd rfl (Or.inl rfl) pe_non)
      (pss_cons (ps_for PassesOwn.never rfl (pi_list (pmeth0 (pv 0) (cl_Bounds T) (a_Bounds_told T) (m_Bounds_told T) G_Bounds_told (hr.mono (by decide)))) (pg_tup rfl (pgs_cons (pg_name (i := 5) sc_Bounds_solved.nd rfl (Or.inl rfl)) (pgs_cons (pg_name (i := 6) sc_Bounds_solved.nd rfl (Or.inl rfl)) (pgs_cons (pg_name (i := 7) sc_Bounds_solved.nd rfl (Or.inl rfl)) pgs_nil)))) (pss_one (ps_if (pt_cmpR op_lt (pe_op op_add (pe_ix ix_list (pv 1) (pv 6) (fun _ _ => rfl)) (pv 7)) (pe_ix ix_list (pv 1) (pv 5) (fun _ _ => rfl)) (nomark _)) (pss_one (ps_asg (pe_tup (pa_cons (pe_op op_add (pe_ix ix_list (pv 1) (pv 6) (fun _ _ => rfl)) (pv 7)) (pa_cons (pv 6) (pa_cons (pv 5) pa_nil)))) (pg_tup rfl (pgs_cons (pg_sub (pv 1) (pv 5) set_list) (pgs_cons (pg_sub (pv 2) (pv 5) set_list) (pgs_cons (pg_name (i := 3) sc_Bounds_solved.nd rfl (Or.inl rfl)) pgs_nil)))))) pss_nil)))
      (pss_one (ps_if (pt_cmpR op_isN (pv 3) pe_non (nomark _)) (pss_one (ps_ret (pe_tup (pa_cons (pe_lc (own := [("tick", 8)]) rfl sc_Bounds_solved.nd (pi_list (pv 1)) (blkOk_by (own := [("tick", 8)]) (N := ["self", "ticks", "ahead", "last", "turn", "x", "y", "c", "tick"]) (sc := defScope s_Bounds_solved) (by decide +kernel)) (fun _ _ _ _ _ => (pg_name (i := 8) sc_Bounds_solved.nd rfl (Or.inl rfl))) (fun _ _ _ _ _ => pts_nil) (fun _ _ _ _ _ => (pe_op op_sub (pv 8) (pe_ix (ix_listK (K := K) rfl) (pv 1) pe_int (fun _ _ => rfl))))) (pa_cons pe_non pa_nil))))) pss_nil)))))
      (pss_one (ps_ret (pe_tup (pa_cons pe_non (pa_cons (pmeth (pv 0) (cl_Bounds T) (a_Bounds_ring_from T) (m_Bounds_ring_from T) G_Bounds_ring_from (hr.mono (by decide)) (pa_cons (pv 2) (pa_cons (pv 3) pa_nil))) pa_nil)))))))), ?_⟩
  refine ⟨(by show 1 ≤ sizeLine; decide), fun p1 hp1 => ?_⟩
  have k1 : Kp [] H (upd H p1 (.lst [V.int 0])) := .new hp1
  have hb1 := k1.keep _ _ hb (by simp)
  refine ⟨_, rfl, b, _, dx, _, _, rfl, hb1, cl_Bounds T, n_Bounds_size T, bfs_size _ _, p1, _, _, rfl, rfl, upd_same, (by omega), (by omega), (by rw [Int.toNat_natCast]; exact Nat.le_of_lt (small1000 (by show 1 * n ≤ 1000; omega))), fun tk htk => ?_⟩
  rw [show (List.replicate ((n : Nat) : Int).toNat [V.int 0]).flatten = intL n bs0.t from rep_flat _ _]
  have k2 := k1.newT (p := tk) (o := .lst (intL n bs0.t)) htk
  refine ⟨(by show 1 ≤ sizeLine; decide), fun p3 hp3 => ?_⟩
  have k3 := k2.newT (p := p3) (o := .lst [V.non]) hp3
  have hb3 := k3.keep _ _ hb (by simp)
  refine ⟨_, rfl, b, _, dx, _, _, rfl, hb3, cl_Bounds T, n_Bounds_size T, bfs_size _ _, p3, _, _, rfl, rfl, upd_same, (by omega), (by omega), (by rw [Int.toNat_natCast]; exact Nat.le_of_lt (small1000 (by show 1 * n ≤ 1000; omega))), fun ah hah => ?_⟩
  rw [show (List.replicate ((n : Nat) : Int).toNat [V.non]).flatten = optL n bs0.a from rep_flat _ _]
  have k4 := k3.newT (p := ah) (o := .lst (optL n bs0.a)) hah
  have htkH : H tk = none := k1.free htk
  have hahH : H ah = none := k3.free hah
  have tk4 : upd (upd (upd (upd H p1 (.lst [V.int 0])) tk (.lst (intL n bs0.t))) p3 (.lst [V.non])) ah (.lst (optL n bs0.a)) tk = some (.lst (intL n bs0.t)) := by
    have e3 : upd (upd (upd H p1 (.lst [V.int 0])) tk (.lst (intL n bs0.t))) p3 (.lst [V.non]) tk = some (.lst (intL n bs0.t)) := by
      rw [upd_ne (ne_of_none upd_same hp3), upd_same]
    rw [upd_ne (ne_of_none e3 hah)]; exact e3
  have ne : tk ≠ ah := fun e => by
    subst e
    have : upd (upd (upd H p1 (.lst [V.int 0])) tk (.lst (intL n bs0.t))) p3 (.lst [V.non]) tk = some (.lst (intL n bs0.t)) := by
      rw [upd_ne (ne_of_none upd_same hp3), upd_same]
    exact absurd (this.symm.trans hah) (by simp)
  refine ⟨by show 2 ≤ sizeLine; decide, fun tp htp => ?_⟩
  have k5 := k4.newT (p := tp) (o := .tup [.ref tk, .ref ah]) htp
  refine ⟨tp, _, rfl, SqT.of upd_same, rfl, _, _, rfl, _, _, rfl, rfl, ?_⟩
  have hb5 := k5.keep _ _ hb (by simp)
  have tk5 := k5.trans (Kp.refl [] _)
  have e5t : upd (upd (upd (upd (upd H p1 (.lst [V.int 0])) tk (.lst (intL n bs0.t))) p3 (.lst [V.non])) ah (.lst (optL n bs0.a))) tp (.tup [.ref tk, .ref ah]) tk = some (.lst (intL n bs0.t)) := by
    rw [upd_ne (ne_of_none tk4 htp)]; exact tk4
  have e5a : upd (upd (upd (upd (upd H p1 (.lst [V.int 0])) tk (.lst (intL n bs0.t))) p3 (.lst [V.non])) ah (.lst (optL n bs0.a))) tp (.tup [.ref tk, .ref ah]) ah = some (.lst (optL n bs0.a)) := by
    rw [upd_ne (ne_of_none upd_same htp)]; exact upd_same
  generalize upd (upd (upd (upd (upd H p1 (.lst [V.int 0])) tk (.lst (intL n bs0.t))) p3 (.lst [V.non])) ah (.lst (optL n bs0.a))) tp (.tup [.ref tk, .ref ah]) = H5 at k5 hb5 e5t e5a ⊢
  refine ⟨_, rfl, b, _, dx, _, _, rfl, hb5, cl_Bounds T, n_Bounds_size T, bfs_size _ _, _, _, rfl, rfl, _, rfl, (by omega), (by omega), ?_⟩
  rw [show (n : Int) + 1 = ((n + 1 : Nat) : Int) by omega, Int.toNat_natCast]
  refine for_range (lo := 0) (n := n + 1) (fun R σ H' => ∃ bs o4 o5 o6 o7, σ = [some (.ref b), some (.ref tk), some (.ref ah), some (optV bs.last), o4, o5, o6, o7, none] ∧ Kp [] H H' ∧ H' tk = some (.lst (intL n bs.t)) ∧ H' ah = some (.lst (optL n bs.a)) ∧ Reach l R bs ∧ (R = 0 ∨ bs.last ≠ none))
    ⟨bs0, _, _, _, _, rfl, k5, e5t, e5a, .zero, .inl rfl⟩ ?_ ?_
  · rintro R σ H6 hR ⟨bs, o4, o5, o6, o7, rfl, k6, e6t, e6a, hreach, _⟩
    rw [Int.zero_add]
    have hB6 := hB.kp k6 (by simp) (by simp)
    obtain ⟨dx6, hb6⟩ := hB6.ins
    refine ⟨_, rfl, b, dx6, _, rfl, hb6, (bfs_no _ _).2.2.2.2.1, b, d, n, l, rfl, hB6, hw, hn, fun H7 ta vs ts k7 hta e7 hvs hts => ⟨ta, rfl, ⟨_, SqL.of e7⟩, ?_⟩⟩
    have e7t := k7.keep _ _ e6t (by simp)
    have e7a := k7.keep _ _ e6a (by simp)
    have nat : ta ≠ tk := fun e => by rw [e, e6t] at hta; cases hta
    have naa : ta ≠ ah := fun e => by rw [e, e6a] at hta; cases hta
    have hvl : vs.length = ts.length := paired_len hvs
    refine for_list (xs := vs) (fun i σ H' => ∃ o5 o6 o7, σ = [some (.ref b), some (.ref tk), some (.ref ah), some (optV (pass (R * l.length) (ts.take i) (clear bs)).last), some (.int (R : Nat)), o5, o6, o7, none] ∧ Kp [tk, ah] H7 H' ∧ H' tk = some (.lst (intL n (pass (R * l.length) (ts.take i) (clear bs)).t)) ∧ H' ah = some (.lst (optL n (pass (R * l.length) (ts.take i) (clear bs)).a)))
      ⟨_, _, _, rfl, .refl _ _, e7t, e7a⟩ (fun i σ H' _ h => by obtain ⟨_, _, _, _, k, _⟩ := h; exact SqL.of (k.keep _ _ e7 (by simp [nat, naa]))) ?_ ?_
    · rintro i v σ H8 hv ⟨o5, o6, o7, rfl, k8, e8t, e8a⟩
      obtain ⟨e, he, a, rfl, ha⟩ := paired_at hvs hv
      have hi : i < ts.length := (List.getElem?_eq_some_iff.mp he).1
      have hel : e ∈ l := hts.mem_iff.mp (List.mem_of_getElem? he)
      obtain ⟨hx, hy, _⟩ := he2 e hel
      have ha8 := kpT ha k8
      have est : pass (R * l.length) (ts.take (i + 1)) (clear bs) = relax (R * l.length + i + 1) (pass (R * l.length) (ts.take i) (clear bs)) e := by
        rw [List.take_succ, he]
        show pass (R * l.length) (ts.take i ++ [e]) (clear bs) = _
        rw [pass_snoc, List.length_take, Nat.min_eq_left (Nat.le_of_lt hi)]
      rw [est]
      generalize pass (R * l.length) (ts.take i) (clear bs) = c at *
      refine ⟨a, _, rfl, ha8, rfl, _, _, rfl, _, _, rfl, _, _, rfl, rfl, ?_⟩
      refine ⟨_, rfl, _, rfl, tk, _, _, _, rfl, rfl, SqL.of e8t, intL_at hy, _, rfl, _, _, rfl, rfl, _, rfl, _, rfl, tk, _, _, _, rfl, rfl, SqL.of e8t, intL_at hx, _, _, rfl, rfl, _, rfl, ite2 (fun hc => ?_) (fun hc => ?_)⟩
      · have hc' := of_decide_eq_true hc
        have er : relax (R * l.length + i + 1) c e = ⟨set1 c.t e.1.1 (c.t e.1.2 + e.2), set1 c.a e.1.1 (some e.1.2), set1 c.s e.1.1 (R * l.length + i + 1), some e.1.1⟩ := if_pos hc'
        rw [er]
        refine ⟨_, rfl, _, rfl, tk, _, _, _, rfl, rfl, SqL.of e8t, intL_at hy, _, rfl, _, _, rfl, rfl, _, rfl, _, rfl, (by show 3 ≤ sizeLine; decide), fun tp2 htp2 => ?_⟩
        have k9 := k8.newT (p := tp2) (o := .tup [V.int (c.t e.1.2 + e.2), .int (e.1.2 : Nat), .int (e.1.1 : Nat)]) htp2
        have e9t : upd H8 tp2 (.tup [V.int (c.t e.1.2 + e.2), .int (e.1.2 : Nat), .int (e.1.1 : Nat)]) tk = some (.lst (intL n c.t)) := by rw [upd_ne (ne_of_none e8t htp2)]; exact e8t
        have e9a : upd H8 tp2 (.tup [V.int (c.t e.1.2 + e.2), .int (e.1.2 : Nat), .int (e.1.1 : Nat)]) ah = some (.lst (optL n c.a)) := by rw [upd_ne (ne_of_none e8a htp2)]; exact e8a
        refine ⟨tp2, _, rfl, SqT.of upd_same, rfl, _, _, rfl, ?_⟩
        refine ⟨_, rfl, _, rfl, tk, _, _, _, rfl, rfl, e9t, ixN_nat (by rw [len_intL]; exact hx), ?_⟩
        rw [intL_set]
        have k10 := k9.trans (Kp.put (S := [tk, ah]) (p := tk) (o := .lst (intL n (set1 c.t e.1.1 (c.t e.1.2 + e.2)))) (by simp) e9t rfl)
        refine ⟨_, _, rfl, _, rfl, _, rfl, ah, _, _, _, rfl, rfl, (by rw [upd_ne ne.symm]; exact e9a), ixN_nat (by rw [len_optL]; exact hx), ?_⟩
        rw [optL_set]
        refine ⟨_, _, rfl, rfl, ?_⟩
        refine ⟨_, _, _, rfl, k10.trans (Kp.put (S := [tk, ah]) (p := ah) (by simp) (by rw [upd_ne ne.symm]; exact e9a) rfl), ?_, upd_same⟩
        rw [upd_ne ne]
        exact upd_same
      · have hc' : ¬ (c.t e.1.2 + e.2 < c.t e.1.1) := fun z => hc (decide_eq_true z)
        have er : relax (R * l.length + i + 1) c e = c := if_neg hc'
        rw [er]
        exact ⟨_, _, _, rfl, k8, e8t, e8a⟩
    · rintro σ H8 ⟨o5, o6, o7, rfl, k8, e8t, e8a⟩
      rw [hvl, List.take_length] at e8t e8a ⊢
      have hr' : Reach l (R + 1) (pass (R * l.length) ts (clear bs)) := .turn hreach hts
      generalize pass (R * l.length) ts (clear bs) = c at *
      have kH : Kp [] H H8 := (k6.trans k7).drop k8 (fun a ha => .inl (by
        have : a = tk ∨ a = ah := by simpa using ha
        rcases this with q | q
        · rw [q]; exact htkH
        · rw [q]; exact hahH))
      refine ⟨_, rfl, rfl, _, rfl, ?_⟩
      cases hlast : c.last with
      | some x =>
        refine iteDF (by intro z; cases z) ?_
        exact ⟨c, _, _, _, _, by rw [hlast], kH, e8t, e8a, hr', .inr (by rw [hlast]; simp)⟩
      | none =>
        refine iteDT rfl ?_
        have h0n : 0 < n := hn0
        refine ⟨_, rfl, tk, rfl, ⟨_, SqL.of e8t⟩, fun D hD => lc_list (xs := intL n c.t) (fun i H' => Kp [] H8 H' ∧ H' D = some (.lst ((intL n fun i => c.t i - c.t 0).take i))) ⟨.new hD, upd_same⟩ (fun i H' _ h => SqL.of (h.1.keep _ _ e8t (by simp))) ?_ ?_⟩
        · rintro i x H9 hx ⟨k9, e9⟩
          have hi : i < n := by have := (List.getElem?_eq_some_iff.mp hx).1; rw [len_intL] at this; exact this
          have hx2 : x = .int (c.t i) := by
            have := at_range (g := fun i => V.int (c.t i)) hi
            unfold intL at hx
            rw [this] at hx
            exact (Option.some.inj hx).symm
          subst hx2
          refine ⟨rfl, tyes ?_⟩
          refine iteT ?_
          refine ⟨_, rfl, _, rfl, tk, _, _, _, rfl, rfl, SqL.of (k9.keep _ _ e8t (by simp)), intL_at h0n, _, _, rfl, rfl, _, e9, (by rw [List.length_take, len_intL]; exact Nat.lt_of_le_of_lt (Nat.min_le_left _ _) (Nat.lt_trans (by omega) (by decide : 8 < sizeLine))), k9.putN hD, ?_⟩
          rw [upd_same, List.take_succ]
          rw [show (intL n fun i => c.t i - c.t 0)[i]? = some (V.int (c.t i - c.t 0)) from at_range hi]
          rfl
        · rintro H9 ⟨k9, e9⟩
          rw [len_intL, List.take_of_length_le (by rw [len_intL]; exact Nat.le_refl _)] at e9
          refine ⟨by show 2 ≤ sizeLine; decide, fun r hr2 => ?_⟩
          have hk9 := kH.trans k9
          refine q _ r _ _ (hk9.newT hr2) upd_same (.inr ⟨D, fun i => c.t i - c.t 0, rfl, ?_, kH.free hD, by show c.t 0 - c.t 0 = 0; omega, ?_⟩)
          · rw [upd_ne (ne_of_none e9 hr2)]; exact e9
          · intro e he
            have := quiet_sat hr' hlast e he
            show c.t e.1.1 - c.t 0 ≤ c.t e.1.2 - c.t 0 + e.2
            omega
  · rintro σ H6 ⟨bs, o4, o5, o6, o7, rfl, k6, e6t, e6a, hreach, hl⟩
    rcases hl with hl | hl
    · omega
    cases hlast : bs.last with
    | none => exact absurd hlast hl
    | some x =>
      obtain ⟨g, hg0, hga, hgn, k, hk0, hk, hgk⟩ := ring_there he2 hreach hlast
      have hB6 := hB.kp k6 (by simp) (by simp)
      obtain ⟨dx6, hb6⟩ := hB6.ins
      refine ⟨_, rfl, b, dx6, _, rfl, hb6, (bfs_no _ _).2.2.2.2.2.2, _, rfl, _, rfl, b, d, ah, n, l, bs.a, g, k, by rw [hg0]; rfl, hB6, hn, e6a, hga, hgn, hk0, hk, hgk, fun H7 r k7 => ?_⟩
      refine ⟨by show 2 ≤ sizeLine; decide, fun r2 hr2 => ?_⟩
      exact q _ r2 _ _ ((k6.trans k7).newT hr2) upd_same (.inl ⟨rfl, fun p hp => by
        have := feasible_quiet he2 hp hreach
        rw [this] at hlast
        cases hlast⟩)
end
end Ink
/-! What a look sees, by cases; plain Lean. -/
set_option linter.all false
namespace Ink
def Pl.stayOf (p : Pl) (i : Nat) : Int := ((p.ws[i]?).bind fun x => p.stays[x.ink.toNat]?).getD 0
def Pl.cellOf (p : Pl) (i : Nat) : Int := ((p.ws[i]?).map (·.cell)).getD (-1)
def Pl.signOf (p : Pl) (i : Nat) : Nat := ((p.ws[i]?).map (·.sign)).getD 46
/-- the event that the j-th look counts from -/
def prevEv (p : Pl) (r : Rdr) : Nat → Nat
  | 0 => match r.start with
    | none => 0
    | some s => s + 1
  | j + 1 => 1 + p.ws.length + j
structure BaseOk (p : Pl) (r : Rdr) (q : Nat → Int) : Prop where
  w : ∀ i x, p.ws[i]? = some x → x.low ≤ q (i + 1) - q i ∧ q (i + 1) - q i ≤ x.high
  l : ∀ j k, r.looks[j]? = some k → k.low ≤ q (1 + p.ws.length + j) - q (prevEv p r j) ∧ q (1 + p.ws.length + j) - q (prevEv p r j) ≤ k.high
abbrev Case := Nat × Option Nat
/-- the case's differences -/
structure CaseOk (p : Pl) (ev : Nat) (cell : Int) (c : Case) (q : Nat → Int) : Prop where
  d0 : 0 < c.1 → q c.1 ≤ q ev
  d1 : c.1 < p.ws.length → q ev ≤ q (c.1 + 1) - 1
  sh : ∀ s, c.2 = some s → q ev ≤ q (s + 1) + (p.stayOf s - 1)
  no : ∀ i, (∀ s, c.2 = some s → s < i) → i < c.1 → p.cellOf i = cell → q (i + 1) ≤ q ev - p.stayOf i
def IsCs (p : Pl) (cell : Int) (c : Case) : Prop := c.1 ≤ p.ws.length ∧ ∀ s, c.2 = some s → s < c.1 ∧ p.cellOf s = cell
def caseSign (p : Pl) (c : Case) : Nat := match c.2 with
  | none => 46
  | some s => p.signOf s
/-- the law's own look: the last of the first n writes that shows -/
def seenN (p : Pl) (q : Nat → Int) (cell tick : Int) : Nat → Nat
  | 0 => 46
  | n + 1 => if p.cellOf n = cell ∧ q (n + 1) ≤ tick ∧ tick < q (n + 1) + p.stayOf n then p.signOf n else seenN p q cell tick n
def Mono (p : Pl) (q : Nat → Int) : Prop := ∀ i, i < p.ws.length → q i ≤ q (i + 1)
theorem Mono.le {p : Pl} {q : Nat → Int} (m : Mono p q) : ∀ {i j : Nat}, i ≤ j → j ≤ p.ws.length → q i ≤ q j := by
  intro i j hij
  induction hij with
  | refl => intro _; exact Int.le_refl _
  | step h ih => intro hj; exact Int.le_trans (ih (by omega)) (m _ (by omega))
theorem seen_stay {p : Pl} {q : Nat → Int} {cell tick : Int} {a : Nat} : ∀ n, a ≤ n → (∀ i, a ≤ i → i < n → ¬ (p.cellOf i = cell ∧ q (i + 1) ≤ tick ∧ tick < q (i + 1) + p.stayOf i)) → seenN p q cell tick n = seenN p q cell tick a
  | 0, h, _ => by rw [show a = 0 by omega]
  | n + 1, h, hn => by
    by_cases e : a = n + 1
    · rw [e]
    · show (if _ then _ else _) = _
      rw [if_neg (hn n (by omega) (by omega))]
      exact seen_stay n (by omega) fun i h1 h2 => hn i h1 (by omega)
theorem case_seen {p : Pl} {q : Nat → Int} {ev : Nat} {cell : Int} {c : Case} (m : Mono p q) (hc : IsCs p cell c) (h : CaseOk p ev cell c q) : seenN p q cell (q ev) p.ws.length = caseSign p c := by
  obtain ⟨h1, h2⟩ := hc
  rw [seen_stay (a := c.1) _ h1 fun i hi hi2 z => by
    have := h.d1 (by omega)
    have := m.le (i := c.1 + 1) (j := i + 1) (by omega) (by omega)
    omega]
  unfold caseSign
  cases hs : c.2 with
  | none =>
    rw [seen_stay (a := 0) _ (Nat.zero_le _) fun i _ hi z => by
      have := h.no i (fun s hs2 => by rw [hs] at hs2; cases hs2) hi z.1
      omega]
    rfl
  | some s =>
    obtain ⟨h3, h4⟩ := h2 s hs
    rw [seen_stay (a := s + 1) _ h3 fun i hi hi2 z => by
      have := h.no i (fun t ht => by rw [hs] at ht; cases ht; omega) hi2 z.1
      omega]
    show (if _ then _ else _) = _
    rw [if_pos]
    refine ⟨h4, ?_, ?_⟩
    · have := m.le (i := s + 1) (j := c.1) h3 h1
      have := h.d0 (by omega)
      omega
    · have := h.sh s hs
      omega
theorem done_ex (q : Nat → Int) (t : Int) : ∀ n, ∃ d, d ≤ n ∧ (0 < d → q d ≤ t) ∧ (d < n → t ≤ q (d + 1) - 1)
  | 0 => ⟨0, by omega, by omega, by omega⟩
  | n + 1 => by
    obtain ⟨d, h1, h2, h3⟩ := done_ex q t n
    by_cases h : q (n + 1) ≤ t
    · exact ⟨n + 1, by omega, fun _ => h, by omega⟩
    · refine ⟨d, by omega, h2, fun hd => ?_⟩
      by_cases e : d = n
      · rw [e]; omega
      · exact h3 (by omega)
theorem shown_ex (p : Pl) (q : Nat → Int) (cell t : Int) : ∀ n, ∃ sh : Option Nat, (∀ s, sh = some s → s < n ∧ p.cellOf s = cell ∧ t ≤ q (s + 1) + (p.stayOf s - 1)) ∧
    ∀ i, (∀ s, sh = some s → s < i) → i < n → p.cellOf i = cell → q (i + 1) ≤ t - p.stayOf i
  | 0 => ⟨none, by simp, by omega⟩
  | n + 1 => by
    obtain ⟨sh, h1, h2⟩ := shown_ex p q cell t n
    by_cases h : p.cellOf n = cell ∧ t ≤ q (n + 1) + (p.stayOf n - 1)
    · refine ⟨some n, fun s hs => ?_, fun i hi hi2 => ?_⟩
      · cases hs; exact ⟨by omega, h⟩
      · have := hi n rfl; omega
    · refine ⟨sh, fun s hs => ?_, fun i hi hi2 hc => ?_⟩
      · have := h1 s hs; exact ⟨by omega, this.2⟩
      · by_cases e : i = n
        · subst e
          have : ¬ (t ≤ q (i + 1) + (p.stayOf i - 1)) := fun z => h ⟨hc, z⟩
          omega
        · exact h2 i hi (by omega) hc
theorem case_ex (p : Pl) (q : Nat → Int) (ev : Nat) (cell : Int) : ∃ c, IsCs p cell c ∧ CaseOk p ev cell c q := by
  obtain ⟨d, h1, h2, h3⟩ := done_ex q (q ev) p.ws.length
  obtain ⟨sh, h4, h5⟩ := shown_ex p q cell (q ev) d
  exact ⟨(d, sh), ⟨h1, fun s hs => ⟨(h4 s hs).1, (h4 s hs).2.1⟩⟩, ⟨h2, h3, fun s hs => (h4 s hs).2.2, h5⟩⟩
/-! ### readings -/
/-- what the j-th look sees -/
def seeJ (p : Pl) (r : Rdr) (q : Nat → Int) (j : Nat) : Nat := seenN p q (((r.looks[j]?).map (·.cell)).getD (-1)) (q (1 + p.ws.length + j)) p.ws.length
def readP (p : Pl) (r : Rdr) (q : Nat → Int) (n : Nat) : List Nat := (List.range n).map (seeJ p r q)
theorem readP_succ (p : Pl) (r : Rdr) (q : Nat → Int) (n : Nat) : readP p r q (n + 1) = readP p r q n ++ [seeJ p r q n] := by
  unfold readP
  rw [List.range_succ, List.map_append]
  rfl
/-- the readings that may be -/
def Rds (p : Pl) (r : Rdr) (z : List Nat) : Prop := ∃ q, BaseOk p r q ∧ readP p r q r.looks.length = z
theorem BaseOk.mono {p : Pl} {r : Rdr} {q : Nat → Int} (h : BaseOk p r q) (h0 : ∀ x ∈ p.ws, 0 ≤ x.low) : Mono p q := fun i hi => by
  have e : p.ws[i]? = some p.ws[i] := List.getElem?_eq_getElem hi
  have := h.w i _ e
  have := h0 _ (List.getElem_mem hi)
  omega
/-! the signs that there are: few -/
def signsOf (p : Pl) : List Nat := 46 :: p.ws.map (·.sign)
theorem seenN_mem (p : Pl) (q : Nat → Int) (cell tick : Int) : ∀ n, seenN p q cell tick n ∈ signsOf p
  | 0 => List.mem_cons_self
  | n + 1 => by
    unfold seenN
    split
    · unfold Pl.signOf
      cases e : p.ws[n]? with
      | none => exact List.mem_cons_self
      | some x => exact List.mem_cons_of_mem _ (List.mem_map.mpr ⟨x, List.mem_of_getElem? e, rfl⟩)
    · exact seenN_mem p q cell tick n
def wordsN (l : List Nat) : Nat → List (List Nat)
  | 0 => [[]]
  | n + 1 => (wordsN l n).flatMap fun w => l.map fun c => w ++ [c]
theorem wordsN_len (l : List Nat) : ∀ n, (wordsN l n).length = l.length ^ n
  | 0 => rfl
  | n + 1 => by
    unfold wordsN
    rw [List.length_flatMap]
    have : (List.map (fun a => (List.map (fun c => a ++ [c]) l).length) (wordsN l n)) = List.replicate (wordsN l n).length l.length := by
      rw [List.eq_replicate_iff]
      refine ⟨by rw [List.length_map], fun b hb => ?_⟩
      obtain ⟨a, _, rfl⟩ := List.mem_map.mp hb
      rw [List.length_map]
    rw [this, List.sum_replicate_nat, wordsN_len l n, Nat.pow_succ]
theorem readP_mem (p : Pl) (r : Rdr) (q : Nat → Int) : ∀ n, readP p r q n ∈ wordsN (signsOf p) n
  | 0 => List.mem_cons_self
  | n + 1 => by
    rw [readP_succ]
    exact List.mem_flatMap.mpr ⟨_, readP_mem p r q n, List.mem_map.mpr ⟨_, seenN_mem _ _ _ _ _, rfl⟩⟩
theorem nodup_sub_len {α : Type} [DecidableEq α] : ∀ {l m : List α}, l.Nodup → (∀ a ∈ l, a ∈ m) → l.length ≤ m.length
  | [], _, _, _ => Nat.zero_le _
  | a :: l, m, h, hs => by
    rw [List.nodup_cons] at h
    have hm := hs a List.mem_cons_self
    have : l.length ≤ (m.erase a).length := nodup_sub_len h.2 fun b hb => by
      have hne : b ≠ a := fun e => h.1 (e ▸ hb)
      exact (List.mem_erase_of_ne hne).mpr (hs b (List.mem_cons_of_mem _ hb))
    rw [List.length_erase_of_mem hm] at this
    have : 0 < m.length := List.length_pos_of_mem hm
    rw [List.length_cons]
    omega
theorem few {p : Pl} {r : Rdr} (ok : p.Ok) (ro : r.Ok p) {zs : List (List Nat)} (nd : zs.Nodup) (h : ∀ z ∈ zs, Rds p r z) : zs.length < 64 := by
  have h1 := nodup_sub_len nd (m := wordsN (signsOf p) r.looks.length) fun z hz => by
    obtain ⟨q, _, rfl⟩ := h z hz
    exact readP_mem p r q _
  rw [wordsN_len] at h1
  have h2 : (signsOf p).length ≤ 5 := by
    unfold signsOf
    rw [List.length_cons, List.length_map]
    have := ok.wn; omega
  have h3 : (signsOf p).length ^ r.looks.length ≤ 5 ^ r.looks.length := Nat.pow_le_pow_left h2 _
  have h4 : 5 ^ r.looks.length ≤ 5 ^ 2 := Nat.pow_le_pow_right (by omega) ro.n1
  omega
end Ink
set_option Elab.async false
set_option linter.all false
set_option maxRecDepth 100000
set_option maxHeartbeats 4000000
namespace Ink
open PySem PySem.Spec PyProof.Rows L2
section
variable {P : Program} {w : World} {K : PySem.W.Frag} {mg : Str → Option Value} {base : Heap}
def sp_is_look (K : PySem.W.Frag) : Sp := fun vs H Q _ => ∃ v p u k, vs = [v, u] ∧ IsPl K H v p ∧ IsLk K H u k ∧ k.Ok p.cells ∧ Q (.bl true) H
theorem sc_is_look : FnScope ["plan", "value"] ["plan", "value"] (defScope s_is_look) := ⟨rfl, rfl, rfl, by decide +kernel, rfl, by decide +kernel, by decide +kernel⟩
theorem ok_is_look (T : Txt w K mg) : FnOk P w K mg base CX0 3 (He.ga K "is_look") (fdA K (He.ga K "is_look")) ["plan", "value"] (sp_is_look K) := by
  have G_is_from := ok_is_from (P := P) (base := base) T
  refine (d_is_look T).ok sc_is_look (fun vs H Q E h => ?_) (fun cdv A outer s H vs Q E hr h => ?_)
  · obtain ⟨_, _, _, _, rfl, _⟩ := h; rfl
  obtain ⟨v, p, u, k, rfl, ⟨a, b, c, vs, rfl, ha, hb, hc, hp⟩, ⟨d, rfl, hd⟩, ok, q⟩ := h
  refine ⟨_, (pss_cons (ps_if (PW.pt (pw_or (pt_not (pt_val (pe_callB call_isi (by rfl) (f_isinstance T) bb_isinstance (pa_cons (pv 1) (pa_cons (pe_bltn (v := .ty "tuple") (by rfl) (f_tuple T) bb_tuple rfl) pa_nil))))) (pw_or (pt_cmpR op_ne (pe_callB call_len (by rfl) (f_len T) bb_len (pa_cons (pv 1) pa_nil)) pe_int (nomark _)) (pw_or1 (pt_not (pt_val (pcall (d_is_from T) G_is_from (hr.mono (by decide)) (pa_cons (pe_ix ix_tup (pv 1) pe_int (fun _ _ => rfl)) (pa_cons pe_int (pa_cons (pe_op op_sub (pe_ix ix_tup (pv 0) pe_int (fun _ _ => rfl)) pe_int) pa_nil)))))))))) (pss_one (ps_ret pe_bl)) pss_nil)
      (pss_one (ps_ret (pe_and (pcall (d_is_from T) G_is_from (hr.mono (by decide)) (pa_cons (pe_ix ix_tup (pv 1) pe_int (fun _ _ => rfl)) (pa_cons pe_int (pa_cons (pgi (i_MOST_WAIT T)) pa_nil)))) (pe_one (pcall (d_is_from T) G_is_from (hr.mono (by decide)) (pa_cons (pe_ix ix_tup (pv 1) pe_int (fun _ _ => rfl)) (pa_cons (pe_ix ix_tup (pv 1) pe_int (fun _ _ => rfl)) (pa_cons (pgi (i_MOST_WAIT T)) pa_nil))))))))), ?_⟩
  refine ⟨_, rfl, _, _, _, _, _, rfl, .ty _, tyT hd, kit_tt, _, rfl, iteF ?_⟩
  refine ⟨_, rfl, _, 3, rfl, .inr ⟨_, hd, rfl⟩, rfl, _, rfl, iteNF rfl ?_⟩
  refine ⟨_, rfl, _, _, _, _, rfl, rfl, hd, rfl, _, rfl, _, _, _, _, rfl, rfl, ha, rfl, _, _, rfl, rfl, ?_⟩
  refine ⟨_, _, _, rfl, ok.c0, by have := ok.c1; omega, _, rfl, iteF ?_⟩
  refine ⟨_, rfl, _, _, _, _, rfl, rfl, hd, rfl, _, _, _, rfl, ok.l0, by have := ok.l1; have := ok.h1; omega, _, rfl, ?_⟩
  exact ⟨_, rfl, _, _, _, _, rfl, rfl, hd, rfl, _, rfl, _, _, _, _, rfl, rfl, hd, rfl, _, _, _, rfl, ok.l1, ok.h1, q⟩
def sp_is_reader (K : PySem.W.Frag) : Sp := fun vs H Q _ => ∃ v p u r, vs = [v, u] ∧ IsPl K H v p ∧ p.Ok ∧ IsRdr K H u r ∧ r.Ok p ∧ ∀ H', Kp [] H H' → Q (.bl true) H'
theorem sc_is_reader : FnScope ["plan", "value", "start", "looks", "look"] ["plan", "value"] (defScope s_is_reader) := ⟨rfl, rfl, rfl, by decide +kernel, rfl, by decide +kernel, by decide +kernel⟩
theorem ok_is_reader (T : Txt w K mg) : FnOk P w K mg base CX0 4 (He.ga K "is_reader") (fdA K (He.ga K "is_reader")) ["plan", "value"] (sp_is_reader K) := by
  have G_is_from := ok_is_from (P := P) (base := base) T
  have G_is_look := ok_is_look (P := P) (base := base) T
  refine (d_is_reader T).ok sc_is_reader (fun vs H Q E h => ?_) (fun cdv A outer s H vs Q E hr h => ?_)
  · obtain ⟨_, _, _, _, rfl, _⟩ := h; rfl
  obtain ⟨v, p, u, r, rfl, hP, pok, ⟨d, e, ls, rfl, hd, he, hls⟩, ok, q⟩ := h
  have hP0 := hP
  obtain ⟨a, b, c, vs, rfl, ha, hb, hc, hp⟩ := hP
  refine ⟨_, (pss_cons (ps_if (PW.pt (pw_or (pt_not (pt_val (pe_callB call_isi (by rfl) (f_isinstance T) bb_isinstance (pa_cons (pv 1) (pa_cons (pe_bltn (v := .ty "tuple") (by rfl) (f_tuple T) bb_tuple rfl) pa_nil))))) (pw_or1 (pt_cmpR op_ne (pe_callB call_len (by rfl) (f_len T) bb_len (pa_cons (pv 1) pa_nil)) pe_int (nomark _))))) (pss_one (ps_ret pe_bl)) pss_nil)
      (pss_cons (ps_asg (pv 1) (pg_tup rfl (pgs_cons (pg_name (i := 2) sc_is_reader.nd rfl (Or.inl rfl)) (pgs_cons (pg_name (i := 3) sc_is_reader.nd rfl (Or.inl rfl)) pgs_nil))))
      (pss_cons (ps_if (PW.pt (pw_and (pt_cmpR op_notN (pv 2) pe_non (nomark _)) (pw_and1 (pt_not (pt_val (pcall (d_is_from T) G_is_from (hr.mono (by decide)) (pa_cons (pv 2) (pa_cons pe_int (pa_cons (pe_op op_sub (pe_callB call_len (by rfl) (f_len T) bb_len (pa_cons (pe_ix ix_tup (pv 0) pe_int (fun _ _ => rfl)) pa_nil)) pe_int) pa_nil))))))))) (pss_one (ps_ret pe_bl)) pss_nil)
      (pss_cons (ps_if (PW.pt (pw_or (pt_not (pt_val (pe_callB call_isi (by rfl) (f_isinstance T) bb_isinstance (pa_cons (pv 3) (pa_cons (pe_bltn (v := .ty "tuple") (by rfl) (f_tuple T) bb_tuple rfl) pa_nil))))) (pw_or1 (pt_not (pt_chain op_le op_le pe_int (pe_callB call_len (by rfl) (f_len T) bb_len (pa_cons (pv 3) pa_nil)) (pgi (i_MOST_LOOKS T))))))) (pss_one (ps_ret pe_bl)) pss_nil)
      (pss_one (ps_ret (pe_callB (cr_all rfl) (by rfl) (f_all T) bb_all (pa_cons (pe_lc (own := [("look", 4)]) rfl sc_is_reader.nd (pi_tup (pv 3)) (blkOk_by (own := [("look", 4)]) (N := ["plan", "value", "start", "looks", "look"]) (sc := defScope s_is_reader) (by decide +kernel)) (fun _ _ _ _ _ => (pg_name (i := 4) sc_is_reader.nd rfl (Or.inl rfl))) (fun _ _ _ _ _ => pts_nil) (fun _ _ _ _ _ => (pcall (d_is_look T) G_is_look (hr.mono (by decide)) (pa_cons (pv 0) (pa_cons (pv 4) pa_nil))))) pa_nil)))))))), ?_⟩
  have hv : vs.length = p.ws.length := paired_len hp
  have hl : ls.length = r.looks.length := paired_len hls
  refine ⟨_, rfl, _, _, _, _, _, rfl, .ty _, tyT hd, kit_tt, _, rfl, iteF ?_⟩
  refine ⟨_, rfl, _, 2, rfl, .inr ⟨_, hd, rfl⟩, rfl, _, rfl, iteNF rfl ?_⟩
  refine ⟨_, rfl, _, _, rfl, hd, rfl, _, _, rfl, _, _, rfl, rfl, ?_⟩
  refine ⟨_, rfl, rfl, _, rfl, ?_⟩
  have rest : ∀ Z : Prop, Z → Z := fun _ z => z
  have back : ∀ (D : Ends) (σ : L2.St), True := fun _ _ => trivial
  clear rest back
  cases hs : r.start with
  | none =>
    refine iteNF rfl ?_
    refine ⟨_, rfl, _, _, _, _, _, rfl, .ty _, tyT he, kit_tt, _, rfl, iteF ?_⟩
    refine ⟨_, rfl, _, _, rfl, .inr ⟨_, he, rfl⟩, _, _, rfl, rfl, _, rfl, iteDT (by have := ok.n0; omega) ⟨_, _, rfl, rfl, _, rfl, iteNF (by have := ok.n1; omega) ?_⟩⟩
    refine ⟨_, rfl, e, rfl, ⟨_, he⟩, fun D hD => lc_tup (xs := ls) (fun i H' => Kp [] H H' ∧ H' D = some (.lst (List.replicate i (.bl true)))) ⟨.new hD, upd_same⟩ (fun i H' _ h => kpT he h.1) ?_ ?_⟩
    · rintro i x H' hx ⟨k, hl2⟩
      obtain ⟨y, hy, rr⟩ := paired_at hls hx
      have hi : i < ls.length := (List.getElem?_eq_some_iff.mp hx).1
      refine ⟨rfl, ?_⟩
      refine tyes ?_
      refine iteT ?_
      refine ⟨_, rfl, _, rfl, _, p, _, y, rfl, hP0.kp k, rr.kp k, ok.ls y (List.mem_of_getElem? hy), _, hl2, by rw [List.length_replicate]; exact small1000 (by have := ok.n1; omega), k.putN hD, ?_⟩
      rw [upd_same, rep_snoc]
    rintro H1 ⟨k1, hl1⟩
    refine ⟨_, List.replicate ls.length true, rfl, SqL.of (by rw [hl1, List.map_replicate]), ?_⟩
    rw [all_rep]
    exact q _ k1
  | some n =>
    refine iteNT (by intro z; cases z) ?_
    refine ⟨_, rfl, _, rfl, _, _, _, _, rfl, rfl, ha, rfl, _, _, rfl, .inr ⟨_, hc, rfl⟩, _, _, rfl, rfl, _, _, _, rfl, by omega, by have := ok.st n hs; omega, _, rfl, iteF ?_⟩
    refine ⟨_, rfl, _, _, _, _, _, rfl, .ty _, tyT he, kit_tt, _, rfl, iteF ?_⟩
    refine ⟨_, rfl, _, _, rfl, .inr ⟨_, he, rfl⟩, _, _, rfl, rfl, _, rfl, iteDT (by have := ok.n0; omega) ⟨_, _, rfl, rfl, _, rfl, iteNF (by have := ok.n1; omega) ?_⟩⟩
    refine ⟨_, rfl, e, rfl, ⟨_, he⟩, fun D hD => lc_tup (xs := ls) (fun i H' => Kp [] H H' ∧ H' D = some (.lst (List.replicate i (.bl true)))) ⟨.new hD, upd_same⟩ (fun i H' _ h => kpT he h.1) ?_ ?_⟩
    · rintro i x H' hx ⟨k, hl2⟩
      obtain ⟨y, hy, rr⟩ := paired_at hls hx
      have hi : i < ls.length := (List.getElem?_eq_some_iff.mp hx).1
      refine ⟨rfl, ?_⟩
      refine tyes ?_
      refine iteT ?_
      refine ⟨_, rfl, _, rfl, _, p, _, y, rfl, hP0.kp k, rr.kp k, ok.ls y (List.mem_of_getElem? hy), _, hl2, by rw [List.length_replicate]; exact small1000 (by have := ok.n1; omega), k.putN hD, ?_⟩
      rw [upd_same, rep_snoc]
    rintro H1 ⟨k1, hl1⟩
    refine ⟨_, List.replicate ls.length true, rfl, SqL.of (by rw [hl1, List.map_replicate]), ?_⟩
    rw [all_rep]
    exact q _ k1
def sp_need_reader (K : PySem.W.Frag) : Sp := fun vs H Q _ => ∃ v p u r, vs = [v, u] ∧ IsPl K H v p ∧ p.Ok ∧ IsRdr K H u r ∧ r.Ok p ∧ ∀ H', Kp [] H H' → Q .non H'
theorem sc_need_reader : FnScope ["plan", "value"] ["plan", "value"] (defScope s_need_reader) := ⟨rfl, rfl, rfl, by decide +kernel, rfl, by decide +kernel, by decide +kernel⟩
theorem ok_need_reader (T : Txt w K mg) : FnOk P w K mg base CX0 6 (He.ga K "need_reader") (fdA K (He.ga K "need_reader")) ["plan", "value"] (sp_need_reader K) := by
  have G_need_plan := ok_need_plan (P := P) (base := base) T
  have G_is_reader := ok_is_reader (P := P) (base := base) T
  refine (d_need_reader T).ok sc_need_reader (fun vs H Q E h => ?_) (fun cdv A outer s H vs Q E hr h => ?_)
  · obtain ⟨_, _, _, _, rfl, _⟩ := h; rfl
  obtain ⟨v, p, u, r, rfl, hP, pok, hR, ok, q⟩ := h
  refine ⟨_, (pss_cons (ps_expr (pcall (d_need_plan T) G_need_plan (hr.mono (by decide)) (pa_cons (pv 0) pa_nil)))
      (pss_one (ps_if (pt_not (pt_val (pcall (d_is_reader T) G_is_reader (hr.mono (by decide)) (pa_cons (pv 0) (pa_cons (pv 1) pa_nil))))) pss_never pss_nil))), ?_⟩
  refine ⟨_, rfl, _, _, rfl, hP, pok, fun H1 k1 => ?_⟩
  exact ⟨_, rfl, _, rfl, _, p, _, r, rfl, hP.kp k1, pok, hR.kp k1, ok, fun H2 k2 => ⟨_, rfl, iteF (q _ (k1.trans k2))⟩⟩
/-! ### cases -/
def IsCV (K : PySem.W.Frag) (H : Hp) (v : V) (c : Case) : Prop := ∃ a, v = .ref a ∧ SqT K H a [.int (c.1 : Nat), startV c.2]
theorem IsCV.kp {S : List Addr} {H H' : Hp} {v : V} {c : Case} (h : IsCV K H v c) (k : Kp S H H') : IsCV K H' v c := let ⟨a, e, s⟩ := h; ⟨a, e, kpT s k⟩
def sp_sign_of (K : PySem.W.Frag) : Sp := fun vs H Q _ => ∃ v p u cell c, vs = [v, u] ∧ IsPl K H v p ∧ IsCV K H u c ∧ IsCs p cell c ∧ Q (.str (sg (caseSign p c))) H
theorem sc_sign_of : FnScope ["plan", "case"] ["plan", "case"] (defScope s_sign_of) := ⟨rfl, rfl, rfl, by decide +kernel, rfl, by decide +kernel, by decide +kernel⟩
theorem ok_sign_of (T : Txt w K mg) : FnOk P w K mg base CX0 1 (He.ga K "sign_of") (fdA K (He.ga K "sign_of")) ["plan", "case"] (sp_sign_of K) := by
  refine (d_sign_of T).ok sc_sign_of (fun vs H Q E h => ?_) (fun cdv A outer s H vs Q E hr h => ?_)
  · obtain ⟨_, _, _, _, _, rfl, _⟩ := h; rfl
  obtain ⟨v, p, u, cell, cs, rfl, ⟨a, b, c, vs, rfl, ha, hb, hc, hp⟩, ⟨d, rfl, hd⟩, hcs, q⟩ := h
  refine ⟨_, (pss_one (ps_ret (pe_ifExp (pt_cmpR op_isN (pe_ix ix_tup (pv 1) pe_int (fun _ _ => rfl)) pe_non (nomark _)) (pgs (i_BARE T)) (pe_ix ix_tup (pe_ix ix_tup (pe_ix ix_tup (pv 0) pe_int (fun _ _ => rfl)) (pe_ix ix_tup (pv 1) pe_int (fun _ _ => rfl)) (fun _ _ => rfl)) pe_int (fun _ _ => rfl))))), ?_⟩
  refine ⟨_, rfl, _, _, _, _, rfl, rfl, hd, rfl, rfl, _, rfl, ?_⟩
  cases hs : cs.2 with
  | none =>
    refine iteDT rfl ?_
    unfold caseSign at q
    rw [hs] at q
    exact q
  | some n =>
    refine iteDF (by intro z; cases z) ?_
    have hn : n < p.ws.length := by have := hcs.2 n hs; have := hcs.1; omega
    obtain ⟨x, hx, f, rfl, hf⟩ := paired_at' hp (List.getElem?_eq_getElem hn)
    refine ⟨_, rfl, _, _, _, _, rfl, rfl, ha, rfl, _, rfl, _, _, _, _, rfl, rfl, hd, rfl, _, _, _, _, rfl, (by rw [hs]; rfl), hc, atI_nat hx, _, _, _, _, rfl, rfl, hf, rfl, ?_⟩
    unfold caseSign Pl.signOf at q
    rw [hs] at q
    dsimp only at q
    rw [List.getElem?_eq_getElem hn] at q
    exact q
def sp_cases_at (K : PySem.W.Frag) : Sp := fun vs H Q _ => ∃ v p cell, vs = [v, .int cell] ∧ IsPl K H v p ∧ p.Ok ∧ ∀ H' a cv cs, Kp [] H H' → H a = none → H' a = some (.lst cv) → Paired (IsCV K H') cv cs → (∀ c ∈ cs, IsCs p cell c) → (∀ c, IsCs p cell c → c ∈ cs) → cs.length ≤ 25 → Q (.ref a) H'
theorem sc_cases_at : FnScope ["plan", "cell", "found", "done", "at"] ["plan", "cell"] (defScope s_cases_at) := ⟨rfl, rfl, rfl, by decide +kernel, rfl, by decide +kernel, by decide +kernel⟩
theorem ok_cases_at (T : Txt w K mg) : FnOk P w K mg base CX0 1 (He.ga K "cases_at") (fdA K (He.ga K "cases_at")) ["plan", "cell"] (sp_cases_at K) := by
  refine (d_cases_at T).ok sc_cases_at (fun vs H Q E h => ?_) (fun cdv A outer s H vs Q E hr h => ?_)
  · obtain ⟨_, _, _, rfl, _⟩ := h; rfl
  obtain ⟨v, p, cell, rfl, ⟨a, b, c, vs, rfl, ha, hb, hc, hp⟩, ok, q⟩ := h
  have hv : vs.length = p.ws.length := paired_len hp
  have hwn := ok.wn
  refine ⟨_, (pss_cons (ps_set (i := 2) sc_cases_at.nd rfl (Or.inl rfl) (pe_lst pa_nil))
      (pss_cons (ps_for PassesOwn.never rfl (pi_range1 (by rfl) (f_range T) (pa_cons (pe_op op_add (pe_callB call_len (by rfl) (f_len T) bb_len (pa_cons (pe_ix ix_tup (pv 0) pe_int (fun _ _ => rfl)) pa_nil)) pe_int) pa_nil)) (pg_name (i := 3) sc_cases_at.nd rfl (Or.inr rfl)) (pss_cons (ps_expr (pe_bm PySem.F.plainAttrs_list PySem.F.slot_list_append PySem.F.type_list_append mt_append (pv 2) (pa_cons (pe_tup (pa_cons (pv 3) (pa_cons pe_non pa_nil))) pa_nil)))
      (pss_one (ps_expr (pe_bm PySem.F.plainAttrs_list PySem.F.slot_list_extend PySem.F.type_list_extend mt_extend (pv 2) (pa_cons (pe_lc (own := [("at", 4)]) rfl sc_cases_at.nd (pi_range1 (by rfl) (f_range T) (pa_cons (pv 3) pa_nil)) (blkOk_by (own := [("at", 4)]) (N := ["plan", "cell", "found", "done", "at"]) (sc := defScope s_cases_at) (by decide +kernel)) (fun _ _ _ _ _ => (pg_name (i := 4) sc_cases_at.nd rfl (Or.inl rfl))) (fun _ _ _ _ _ => (pts_one (pt_cmpR op_eq (pe_ix (ix_tupK (K := K) rfl) (pe_ix (ix_tupK (K := K) rfl) (pe_ix (ix_tupK (K := K) rfl) (pv 0) pe_int (fun _ _ => rfl)) (pv 4) (fun _ _ => rfl)) pe_int (fun _ _ => rfl)) (pv 1) (nomark _)))) (fun _ _ _ _ _ => (pe_tup (pa_cons (pv 3) (pa_cons (pv 4) pa_nil))))) pa_nil))))))
      (pss_one (ps_ret (pv 2))))), ?_⟩
  refine ⟨by show 0 ≤ sizeLine; decide, fun f hf => ?_⟩
  have kf0 : Kp [] H (upd H f (.lst [])) := .new hf
  refine ⟨_, rfl, _, _, _, _, rfl, rfl, kpT ha kf0, rfl, _, _, rfl, .inr ⟨_, kpT hc kf0, rfl⟩, _, _, rfl, rfl, _, rfl, (by omega), (by omega), ?_⟩
  rw [show ((vs.length : Nat) : Int) + 1 = ((p.ws.length + 1 : Nat) : Int) by omega, Int.toNat_natCast]
  refine for_range (lo := 0) (n := p.ws.length + 1) (fun n σ H' => ∃ o3 o4 cv cs, σ = [some (.ref a), some (.int cell), some (.ref f), o3, o4] ∧ Kp [] H H' ∧ H' f = some (.lst cv) ∧ Paired (IsCV K H') cv cs ∧ (∀ c ∈ cs, IsCs p cell c) ∧ (∀ c, IsCs p cell c → c.1 < n → c ∈ cs) ∧ cs.length ≤ n * 5)
    ⟨_, _, [], [], rfl, .new hf, upd_same, .nil, (fun c h => by cases h), (fun c _ h => by omega), by simp⟩ ?_ ?_
  · rintro n σ H1 hn ⟨o3, o4, cv, cs, rfl, k1, hf1, hcv, h1, h2, h3⟩
    rw [Int.zero_add]
    have hcl : cv.length = cs.length := paired_len hcv
    refine ⟨_, rfl, .inl ⟨rfl, _, SqL.of hf1⟩, _, rfl, by show 2 ≤ sizeLine; decide, fun t ht => ?_⟩
    have hft : upd H1 t (.tup [.int (n : Nat), .non]) f = some (.lst cv) := by rw [upd_ne (ne_of_none hf1 ht)]; exact hf1
    have kt := k1.newT (o := .tup [.int (n : Nat), .non]) ht
    refine ⟨f, _, _, rfl, rfl, hft, small1000 (by omega), ?_⟩
    have kf : Kp [f] (upd H1 t (.tup [.int (n : Nat), .non])) (upd (upd H1 t (.tup [.int (n : Nat), .non])) f (.lst (cv ++ [V.ref t]))) := .put (by simp) hft rfl
    have hcv2 : Paired (IsCV K (upd (upd H1 t (.tup [.int (n : Nat), .non])) f (.lst (cv ++ [V.ref t])))) (cv ++ [V.ref t]) (cs ++ [(n, none)]) :=
      paired_snoc (pkp hcv fun _ _ z => (z.kp (.new (S := []) ht)).kp kf) ⟨t, rfl, kpT (SqT.of upd_same) kf⟩
    have k2 : Kp [] H (upd (upd H1 t (.tup [.int (n : Nat), .non])) f (.lst (cv ++ [V.ref t]))) := kt.putN hf
    have hf2 : (upd (upd H1 t (.tup [.int (n : Nat), .non])) f (.lst (cv ++ [V.ref t]))) f = some (.lst (cv ++ [V.ref t])) := upd_same
    generalize upd (upd H1 t (.tup [.int (n : Nat), .non])) f (.lst (cv ++ [V.ref t])) = H2 at k2 hcv2 kf hf2 ⊢
    refine ⟨_, rfl, .inl ⟨rfl, _, SqL.of hf2⟩, _, rfl, _, rfl, (by omega), (by omega), fun D hD => ?_⟩
    rw [Int.toNat_natCast]
    refine lc_range (lo := 0) (n := n) (fun i H' => Kp [] H2 H' ∧ ∃ dv ds, H' D = some (.lst dv) ∧ Paired (IsCV K H') dv ds ∧ (∀ c ∈ ds, IsCs p cell c) ∧ (∀ s, s < i → p.cellOf s = cell → (n, some s) ∈ ds) ∧ ds.length ≤ i) ⟨.new hD, [], [], upd_same, .nil, (fun c h => by cases h), (fun s h => by omega), Nat.le_refl _⟩ ?_ ?_
    · rintro i H3 hi ⟨k3, dv, ds, hD3, hdv, g1, g2, g3⟩
      rw [Int.zero_add]
      have hin : i < p.ws.length := by omega
      obtain ⟨x, hx, e, rfl, he⟩ := paired_at' hp (List.getElem?_eq_getElem hin)
      have k03 := k2.trans k3
      have hcell : p.cellOf i = (p.ws[i]).cell := by unfold Pl.cellOf; rw [List.getElem?_eq_getElem hin]; rfl
      refine ⟨rfl, ?_⟩
      refine ⟨_, rfl, _, _, _, _, rfl, rfl, kpT ha k03, rfl, _, rfl, _, _, _, _, rfl, rfl, kpT hc k03, atI_nat hx, _, _, _, _, rfl, rfl, kpT he k03, rfl, _, rfl, rfl, _, rfl, ?_⟩
      have hdl : dv.length = ds.length := paired_len hdv
      refine ite2 (fun hq => ?_) (fun hq => ?_)
      · have hq' : p.cellOf i = cell := by rw [hcell]; simpa using hq
        refine ⟨_, rfl, _, rfl, by show 2 ≤ sizeLine; decide, fun u hu => ?_⟩
        have hDu : upd H3 u (.tup [.int (n : Nat), .int (i : Nat)]) D = some (.lst dv) := by rw [upd_ne (ne_of_none hD3 hu)]; exact hD3
        have kD : Kp [D] (upd H3 u (.tup [.int (n : Nat), .int (i : Nat)])) (upd (upd H3 u (.tup [.int (n : Nat), .int (i : Nat)])) D (.lst (dv ++ [V.ref u]))) := .put (by simp) hDu rfl
        refine ⟨_, hDu, small1000 (by omega), (k3.newT hu).putN hD, _, ds ++ [(n, some i)], upd_same, paired_snoc (pkp hdv fun _ _ z => (z.kp (.new (S := []) hu)).kp kD) ⟨u, rfl, kpT (SqT.of upd_same) kD⟩, fun c hc => ?_, fun s hs hsc => ?_, by rw [List.length_append, List.length_singleton]; omega⟩
        · rcases List.mem_append.mp hc with z | z
          · exact g1 c z
          · have : c = (n, some i) := by simpa using z
            subst this
            exact ⟨by show n ≤ _; omega, fun s hs => by cases hs; exact ⟨hi, hq'⟩⟩
        · by_cases e : s = i
          · subst e; simp
          · exact List.mem_append_left _ (g2 s (by omega) hsc)
      · have hq' : ¬ p.cellOf i = cell := by rw [hcell]; simpa using hq
        exact ⟨k3, dv, ds, hD3, hdv, g1, fun s hs hsc => g2 s (by
          have : s ≠ i := fun e => hq' (e ▸ hsc)
          omega) hsc, by omega⟩
    rintro H3 ⟨k3, dv, ds, hD3, hdv, g1, g2, g3⟩
    have hf3 := k3.keep _ _ hf2 (by simp)
    have hdl : dv.length = ds.length := paired_len hdv
    refine ⟨f, D, _, _, rfl, rfl, hf3, hD3, Nat.le_of_lt (small1000 (by rw [List.length_append, List.length_singleton]; omega)), ?_⟩
    have kf3 : Kp [f] H3 (upd H3 f (.lst (cv ++ [V.ref t] ++ dv))) := .put (by simp) hf3 rfl
    refine ⟨_, _, cv ++ [V.ref t] ++ dv, cs ++ [(n, none)] ++ ds, rfl, (k2.trans k3).putN hf, upd_same, paired_app (pkp hcv2 fun _ _ z => (z.kp k3).kp kf3) (pkp hdv fun _ _ z => z.kp kf3), fun c hc => ?_, fun c hc hlt => ?_, by rw [List.length_append, List.length_append, List.length_singleton]; omega⟩
    · rcases List.mem_append.mp hc with z | z
      · rcases List.mem_append.mp z with y | y
        · exact h1 c y
        · have : c = (n, none) := by simpa using y
          subst this
          exact ⟨by show n ≤ _; omega, fun s hs => by cases hs⟩
      · exact g1 c z
    · by_cases e : c.1 < n
      · exact List.mem_append_left _ (List.mem_append_left _ (h2 c hc e))
      · have e2 : c.1 = n := by omega
        obtain ⟨c1, c2⟩ := c
        dsimp only at e2
        subst e2
        cases c2 with
        | none => exact List.mem_append_left _ (by simp)
        | some s =>
          have := hc.2 s rfl
          exact List.mem_append_right _ (g2 s this.1 this.2)
  · rintro σ H1 ⟨o3, o4, cv, cs, rfl, k1, hf1, hcv, h1, h2, h3⟩
    exact ⟨_, rfl, q _ f cv cs k1 hf hf1 hcv h1 (fun c hc => h2 c hc (by have := hc.1; omega)) (by omega)⟩
end
end Ink
set_option Elab.async false
set_option linter.all false
set_option maxRecDepth 100000
set_option maxHeartbeats 4000000
namespace Ink
open PySem PySem.Spec PyProof.Rows L2
theorem sat_nil (q : Nat → Int) : Sat [] q := fun e h => by cases h
theorem Ends2.nil (n : Nat) : Ends2 n [] := fun e h => by cases h
theorem Ends2.snoc {n : Nat} {l : List Edge} (h : Ends2 n l) {x y : Nat} {c : Int} (hx : x < n) (hy : y < n) (hxy : x ≠ y) : Ends2 n (l ++ [((x, y), c)]) := fun e he => by
  rcases List.mem_append.mp he with q | q
  · exact h e q
  · have : e = ((x, y), c) := by simpa using q
    subst this; exact ⟨hx, hy, hxy⟩
theorem Ends2.tset {n : Nat} {l : Tab} (h : Ends2 n l) {x y : Nat} {c : Int} (hx : x < n) (hy : y < n) (hxy : x ≠ y) : Ends2 n (tset l x y c) := by
  cases e : tget l x y with
  | none => rw [tset_new e]; exact h.snoc hx hy hxy
  | some d =>
    rw [tset_old e]
    intro f hf
    obtain ⟨g, hg, rfl⟩ := List.mem_map.mp hf
    have := h g hg
    split <;> exact this
theorem Ends2.tput {n : Nat} {l : Tab} (h : Ends2 n l) {x y : Nat} {c : Int} (hx : x < n) (hy : y < n) (hxy : x ≠ y) : Ends2 n (tput l x y c) := by
  unfold Ink.tput
  split
  · exact h.tset hx hy hxy
  · split
    · exact h.tset hx hy hxy
    · exact h
theorem stay_at {p : Pl} (ok : p.Ok) {n : Nat} (h : n < p.ws.length) : ((p.ws[n]).ink = ((p.ws[n]).ink.toNat : Nat)) ∧ p.stays[(p.ws[n]).ink.toNat]? = some (p.stayOf n) := by
  have w := ok.ws _ (List.getElem_mem h)
  have h0 := w.i0
  have h1 := w.i1
  refine ⟨by omega, ?_⟩
  unfold Pl.stayOf
  rw [List.getElem?_eq_getElem h]
  show _ = some ((p.stays[(p.ws[n]).ink.toNat]?).getD 0)
  rw [List.getElem?_eq_getElem (by omega)]
  rfl
theorem cell_at {p : Pl} {n : Nat} (h : n < p.ws.length) : p.cellOf n = (p.ws[n]).cell := by unfold Pl.cellOf; rw [List.getElem?_eq_getElem h]; rfl
section
variable {P : Program} {w : World} {K : PySem.W.Frag} {mg : Str → Option Value} {base : Heap}
/-- the list of triples at f -/
def TAt (K : PySem.W.Frag) (H0 : Hp) (f : Addr) (H : Hp) (ts : List Edge) : Prop := Kp [] H0 H ∧ ∃ tv, H f = some (.lst tv) ∧ Paired (IsTr K H) tv ts
theorem TAt.app {H0 H : Hp} {f t : Addr} {ts : List Edge} {tv : List V} {x y : Nat} {c : Int} (k : Kp [] H0 H) (h0 : H0 f = none) (hf : H f = some (.lst tv)) (hp : Paired (IsTr K H) tv ts) (ht : H t = none) :
    upd H t (.tup [.int (x : Nat), .int (y : Nat), .int c]) f = some (.lst tv) ∧ TAt K H0 f (upd (upd H t (.tup [.int (x : Nat), .int (y : Nat), .int c])) f (.lst (tv ++ [.ref t]))) (ts ++ [((x, y), c)]) := by
  have e : upd H t (.tup [.int (x : Nat), .int (y : Nat), .int c]) f = some (.lst tv) := by rw [upd_ne (ne_of_none hf ht)]; exact hf
  have kf : Kp [f] (upd H t (.tup [.int (x : Nat), .int (y : Nat), .int c])) (upd (upd H t (.tup [.int (x : Nat), .int (y : Nat), .int c])) f (.lst (tv ++ [.ref t]))) := .put (by simp) e rfl
  exact ⟨e, (k.newT ht).putN h0, _, upd_same, paired_snoc (pkp hp fun _ _ z => (z.kp (.new (S := []) ht)).kp kf) ⟨t, rfl, kpT (SqT.of upd_same) kf⟩⟩
def sp_case_told (K : PySem.W.Frag) : Sp := fun vs H Q _ => ∃ (v u : V) (p : Pl) (n ev : Nat) (cell : Int) (cs : Case), vs = [v, .int ev, .int cell, u] ∧ IsPl K H v p ∧ p.Ok ∧ IsCV K H u cs ∧ IsCs p cell cs ∧ p.ws.length < ev ∧ ev < n ∧
  ∀ H' a ts, H a = none → TAt K H a H' ts → Ends2 n ts → ts.length ≤ 8 → (∀ q, Sat ts q ↔ CaseOk p ev cell cs q) → Q (.ref a) H'
theorem sc_case_told : FnScope ["plan", "event", "cell", "case", "done", "shown", "writes", "found", "at"] ["plan", "event", "cell", "case"] (defScope s_case_told) := ⟨rfl, rfl, rfl, by decide +kernel, rfl, by decide +kernel, by decide +kernel⟩
theorem ok_case_told (T : Txt w K mg) : FnOk P w K mg base CX0 2 (He.ga K "case_told") (fdA K (He.ga K "case_told")) ["plan", "event", "cell", "case"] (sp_case_told K) := by
  have G_stay_of := ok_stay_of (P := P) (base := base) T
  refine (d_case_told T).ok sc_case_told (fun vs H Q E h => ?_) (fun cdv A outer s H vs Q E hr h => ?_)
  · obtain ⟨_, _, _, _, _, _, _, rfl, _⟩ := h; rfl
  obtain ⟨v, u, p, n, ev, cell, cs, rfl, hP, ok, ⟨d, rfl, hd⟩, hcs, hev, hevn, q⟩ := h
  have hP0 := hP
  obtain ⟨a, b, c, vs, rfl, ha, hb, hc, hp⟩ := hP
  have hv : vs.length = p.ws.length := paired_len hp
  have hwn := ok.wn
  have hd1 := hcs.1
  refine ⟨_, (pss_cons (ps_asg (pv 3) (pg_tup rfl (pgs_cons (pg_name (i := 4) sc_case_told.nd rfl (Or.inl rfl)) (pgs_cons (pg_name (i := 5) sc_case_told.nd rfl (Or.inl rfl)) pgs_nil))))
      (pss_cons (ps_par (i := 6) (j := 7) rfl sc_case_told.nd rfl rfl (by decide) rfl rfl (pa_cons (pe_ix ix_tup (pv 0) pe_int (fun _ _ => rfl)) (pa_cons (pe_lst pa_nil) pa_nil)) (by rfl))
      (pss_cons (ps_cut (ps_if (pt_cmpR op_gt (pv 4) pe_int (nomark _)) (pss_one (ps_expr (pe_bm PySem.F.plainAttrs_list PySem.F.slot_list_append PySem.F.type_list_append mt_append (pv 7) (pa_cons (pe_tup (pa_cons (pv 4) (pa_cons (pv 1) (pa_cons pe_int pa_nil)))) pa_nil)))) pss_nil))
      (pss_cons (ps_cut (ps_if (pt_cmpR op_lt (pv 4) (pe_callB call_len (by rfl) (f_len T) bb_len (pa_cons (pv 6) pa_nil)) (nomark _)) (pss_one (ps_expr (pe_bm PySem.F.plainAttrs_list PySem.F.slot_list_append PySem.F.type_list_append mt_append (pv 7) (pa_cons (pe_tup (pa_cons (pv 1) (pa_cons (pe_op op_add (pv 4) pe_int) (pa_cons (pe_un un_neg pe_int) pa_nil)))) pa_nil)))) pss_nil))
      (pss_cons (ps_cut (ps_if (pt_cmpR op_notN (pv 5) pe_non (nomark _)) (pss_one (ps_expr (pe_bm PySem.F.plainAttrs_list PySem.F.slot_list_append PySem.F.type_list_append mt_append (pv 7) (pa_cons (pe_tup (pa_cons (pv 1) (pa_cons (pe_op op_add (pv 5) pe_int) (pa_cons (pe_op op_sub (pcall (d_stay_of T) G_stay_of (hr.mono (by decide)) (pa_cons (pv 0) (pa_cons (pe_ix ix_tup (pv 6) (pv 5) (fun _ _ => rfl)) pa_nil))) pe_int) pa_nil)))) pa_nil)))) pss_nil))
      (pss_cons (ps_for PassesOwn.never rfl (pi_range2 (by rfl) (f_range T) (pa_cons (pe_cut (pe_ifExp (pt_cmpR op_isN (pv 5) pe_non (nomark _)) pe_int (pe_op op_add (pv 5) pe_int))) (pa_cons (pv 4) pa_nil))) (pg_name (i := 8) sc_case_told.nd rfl (Or.inl rfl)) (pss_one (ps_if (pt_cmpR op_eq (pe_ix ix_tup (pe_ix ix_tup (pv 6) (pv 8) (fun _ _ => rfl)) pe_int (fun _ _ => rfl)) (pv 2) (nomark _)) (pss_one (ps_expr (pe_bm PySem.F.plainAttrs_list PySem.F.slot_list_append PySem.F.type_list_append mt_append (pv 7) (pa_cons (pe_tup (pa_cons (pe_op op_add (pv 8) pe_int) (pa_cons (pv 1) (pa_cons (pe_un un_neg (pcall (d_stay_of T) G_stay_of (hr.mono (by decide)) (pa_cons (pv 0) (pa_cons (pe_ix ix_tup (pv 6) (pv 8) (fun _ _ => rfl)) pa_nil)))) pa_nil)))) pa_nil)))) pss_nil)))
      (pss_one (ps_ret (pv 7))))))))), ?_⟩
  refine ⟨_, rfl, _, _, rfl, hd, rfl, _, _, rfl, _, _, rfl, rfl, ?_⟩
  refine ⟨_, rfl, _, _, _, _, rfl, rfl, ha, rfl, by show 0 ≤ sizeLine; decide, fun f hf => ?_⟩
  refine ⟨_, _, rfl, ?_⟩
  have T0 : TAt K H f (upd H f (.lst [])) [] := ⟨.new hf, [], upd_same, .nil⟩
  generalize upd H f (.lst []) = H0 at T0 ⊢
  -- done > 0
  refine ⟨fun σ H' => ∃ ts, σ = [some (.ref a), some (.int (ev : Nat)), some (.int cell), some (.ref d), some (.int (cs.1 : Nat)), some (startV cs.2), some (.ref c), some (.ref f), none] ∧ TAt K H f H' ts ∧ Ends2 n ts ∧ ts.length ≤ 1 ∧ ∀ q, Sat ts q ↔ (0 < cs.1 → q cs.1 ≤ q ev), ?_, ?_⟩
  · refine ⟨_, rfl, _, _, rfl, rfl, _, rfl, ite2 (fun h => ?_) (fun h => ?_)⟩
    · have h' := of_decide_eq_true h
      obtain ⟨k0, tv, hf0, htv⟩ := T0
      refine ⟨_, rfl, .inl ⟨rfl, _, SqL.of hf0⟩, _, rfl, _, rfl, by show 3 ≤ sizeLine; decide, fun t ht => ?_⟩
      obtain ⟨e1, T1⟩ := TAt.app (x := cs.1) (y := ev) (c := 0) k0 hf hf0 htv ht
      have hl : tv.length = ([] : List Edge).length := paired_len htv
      refine ⟨f, _, _, rfl, rfl, e1, small1000 (by rw [hl]; decide), ?_⟩
      refine ⟨_, rfl, T1, (Ends2.nil n).snoc (by omega) hevn (by omega), Nat.le_refl _, fun q => ?_⟩
      rw [sat_app]
      refine ⟨fun z _ => by have : q cs.1 ≤ q ev + 0 := z.2; omega, fun z => ⟨sat_nil q, by have := z (by omega); show q cs.1 ≤ q ev + 0; omega⟩⟩
    · have h' : ¬ _ := fun z => h (decide_eq_true z)
      exact ⟨_, rfl, T0, Ends2.nil n, Nat.zero_le _, fun q => ⟨fun _ z => absurd (by omega) h', fun _ => sat_nil q⟩⟩
  rintro σ1 H1 ⟨ts1, rfl, T1, en1, hl1, sat1⟩
  -- done < len(writes)
  refine ⟨fun σ H' => ∃ ts, σ = [some (.ref a), some (.int (ev : Nat)), some (.int cell), some (.ref d), some (.int (cs.1 : Nat)), some (startV cs.2), some (.ref c), some (.ref f), none] ∧ TAt K H f H' ts ∧ Ends2 n ts ∧ ts.length ≤ 2 ∧ ∀ q, Sat ts q ↔ (0 < cs.1 → q cs.1 ≤ q ev) ∧ (cs.1 < p.ws.length → q ev ≤ q (cs.1 + 1) - 1), ?_, ?_⟩
  · refine ⟨_, rfl, _, rfl, _, _, rfl, .inr ⟨_, kpT hc T1.1, rfl⟩, _, _, rfl, rfl, _, rfl, ite2 (fun h => ?_) (fun h => ?_)⟩
    · have h' := of_decide_eq_true h
      obtain ⟨k0, tv, hf0, htv⟩ := T1
      refine ⟨_, rfl, .inl ⟨rfl, _, SqL.of hf0⟩, _, rfl, _, rfl, _, _, rfl, rfl, _, rfl, by show 3 ≤ sizeLine; decide, fun t ht => ?_⟩
      obtain ⟨e1, T2⟩ := TAt.app (x := ev) (y := cs.1 + 1) (c := -1) k0 hf hf0 htv ht
      have hl : tv.length = ts1.length := paired_len htv
      refine ⟨f, _, _, rfl, rfl, e1, small1000 (by omega), ?_⟩
      refine ⟨_, rfl, T2, en1.snoc hevn (by omega) (by omega), by rw [List.length_append, List.length_singleton]; omega, fun q => ?_⟩
      rw [sat_app, sat1]
      refine ⟨fun z => ⟨z.1, fun _ => by have : q ev ≤ q (cs.1 + 1) + -1 := z.2; omega⟩, fun z => ⟨z.1, by have := z.2 (by omega); show q ev ≤ q (cs.1 + 1) + -1; omega⟩⟩
    · have h' : ¬ _ := fun z => h (decide_eq_true z)
      exact ⟨_, rfl, T1, en1, Nat.le_succ_of_le hl1, fun q => ⟨fun z => ⟨(sat1 q).mp z, fun y => absurd (by omega) h'⟩, fun z => (sat1 q).mpr z.1⟩⟩
  rintro σ2 H2 ⟨ts2, rfl, T2, en2, hl2, sat2⟩
  -- shown is not None
  refine ⟨fun σ H' => ∃ ts, σ = [some (.ref a), some (.int (ev : Nat)), some (.int cell), some (.ref d), some (.int (cs.1 : Nat)), some (startV cs.2), some (.ref c), some (.ref f), none] ∧ TAt K H f H' ts ∧ Ends2 n ts ∧ ts.length ≤ 3 ∧ ∀ q, Sat ts q ↔ ((0 < cs.1 → q cs.1 ≤ q ev) ∧ (cs.1 < p.ws.length → q ev ≤ q (cs.1 + 1) - 1)) ∧ ∀ s, cs.2 = some s → q ev ≤ q (s + 1) + (p.stayOf s - 1), ?_, ?_⟩
  · refine ⟨_, rfl, rfl, _, rfl, ?_⟩
    cases hs : cs.2 with
    | none =>
      refine iteNF rfl ?_
      exact ⟨_, rfl, T2, en2, Nat.le_succ_of_le hl2, fun q => ⟨fun z => ⟨(sat2 q).mp z, fun s hs => by cases hs⟩, fun z => (sat2 q).mpr z.1⟩⟩
    | some s =>
      refine iteNT (by intro z; cases z) ?_
      obtain ⟨hs1, hs2⟩ := hcs.2 s hs
      have hsn : s < p.ws.length := by omega
      obtain ⟨k0, tv, hf0, htv⟩ := T2
      obtain ⟨x, hx, hxw⟩ := paired_at' hp (List.getElem?_eq_getElem hsn)
      obtain ⟨st1, st2⟩ := stay_at ok hsn
      refine ⟨_, rfl, .inl ⟨rfl, _, SqL.of hf0⟩, _, rfl, _, rfl, _, _, rfl, rfl, _, rfl, _, rfl, _, rfl, _, _, _, _, rfl, rfl, kpT hc k0, atI_nat hx, _, p, _, p.ws[s], _, _, rfl, hP0.kp k0, hxw.kp k0, st1, st2, _, _, rfl, rfl, by show 3 ≤ sizeLine; decide, fun t ht => ?_⟩
      obtain ⟨e1, T3⟩ := TAt.app (x := ev) (y := s + 1) (c := p.stayOf s - 1) k0 hf hf0 htv ht
      have hl : tv.length = ts2.length := paired_len htv
      refine ⟨f, _, _, rfl, rfl, e1, small1000 (by omega), ?_⟩
      refine ⟨_, rfl, T3, en2.snoc hevn (by omega) (by omega), by rw [List.length_append, List.length_singleton]; omega, fun q => ?_⟩
      rw [sat_app, sat2]
      refine ⟨fun z => ⟨z.1, fun s' e => by cases e; exact z.2⟩, fun z => ⟨z.1, z.2 s rfl⟩⟩
  rintro σ3 H3 ⟨ts3, rfl, T3, en3, hl3, sat3⟩
  -- the writes behind it
  refine ⟨fun v H' => H' = H3 ∧ ∃ lo : Nat, v = .int (lo : Nat) ∧ lo ≤ cs.1 ∧ ∀ i, (∀ s, cs.2 = some s → s < i) ↔ lo ≤ i, ?_, ?_⟩
  · refine ⟨_, rfl, rfl, _, rfl, ?_⟩
    cases hs : cs.2 with
    | none => exact iteDT rfl ⟨rfl, 0, rfl, Nat.zero_le _, fun i => ⟨fun _ => Nat.zero_le _, fun _ s e => by cases e⟩⟩
    | some s =>
      refine iteDF (by intro z; cases z) ⟨_, rfl, _, _, rfl, rfl, rfl, s + 1, rfl, (hcs.2 s hs).1, fun i => ⟨fun z => z s rfl, fun z s' e => by cases e; exact z⟩⟩
  rintro lv H3' ⟨rfl, lo, rfl, hlo, hlo2⟩
  refine ⟨_, rfl, _, _, rfl, ⟨by omega, by omega, by omega, by omega⟩, ?_⟩
  refine for_range (lo := (lo : Int)) (n := ((cs.1 : Int) - (lo : Int)).toNat) (fun i σ H' => ∃ ts o8, σ = [some (.ref a), some (.int (ev : Nat)), some (.int cell), some (.ref d), some (.int (cs.1 : Nat)), some (startV cs.2), some (.ref c), some (.ref f), o8] ∧ TAt K H f H' ts ∧ Ends2 n ts ∧ ts.length ≤ 3 + i ∧ ∀ q, Sat ts q ↔ (((0 < cs.1 → q cs.1 ≤ q ev) ∧ (cs.1 < p.ws.length → q ev ≤ q (cs.1 + 1) - 1)) ∧ ∀ s, cs.2 = some s → q ev ≤ q (s + 1) + (p.stayOf s - 1)) ∧ ∀ j, lo ≤ j → j < lo + i → p.cellOf j = cell → q (j + 1) ≤ q ev - p.stayOf j)
    ⟨ts3, _, rfl, T3, en3, hl3, fun q => ⟨fun z => ⟨(sat3 q).mp z, fun j h1 h2 => by omega⟩, fun z => (sat3 q).mpr z.1⟩⟩ ?_ ?_
  · rintro i σ H4 hi ⟨ts4, o8, rfl, T4, en4, hl4, sat4⟩
    rw [show (lo : Int) + (i : Int) = ((lo + i : Nat) : Int) by omega]
    have hin : lo + i < p.ws.length := by omega
    obtain ⟨k0, tv, hf0, htv⟩ := T4
    obtain ⟨x, hx, hxw⟩ := paired_at' hp (List.getElem?_eq_getElem hin)
    have hxw0 := hxw
    obtain ⟨e, rfl, he⟩ := hxw
    obtain ⟨st1, st2⟩ := stay_at ok hin
    refine ⟨_, rfl, _, rfl, _, _, _, _, rfl, rfl, kpT hc k0, atI_nat hx, _, _, _, _, rfl, rfl, kpT he k0, rfl, _, rfl, rfl, _, rfl, ite2 (fun h => ?_) (fun h => ?_)⟩
    · have hq : p.cellOf (lo + i) = cell := by rw [cell_at hin]; simpa using h
      refine ⟨_, rfl, .inl ⟨rfl, _, SqL.of hf0⟩, _, rfl, _, _, rfl, rfl, _, rfl, _, rfl, _, rfl, _, rfl, _, _, _, _, rfl, rfl, kpT hc k0, atI_nat hx, _, p, _, p.ws[lo + i], _, _, rfl, hP0.kp k0, hxw0.kp k0, st1, st2, _, rfl, by show 3 ≤ sizeLine; decide, fun t ht => ?_⟩
      obtain ⟨e1, T5⟩ := TAt.app (x := lo + i + 1) (y := ev) (c := -p.stayOf (lo + i)) k0 hf hf0 htv ht
      have hl : tv.length = ts4.length := paired_len htv
      refine ⟨f, _, _, rfl, rfl, e1, small1000 (by omega), ?_⟩
      refine ⟨_, _, rfl, T5, en4.snoc (by omega) hevn (by omega), by rw [List.length_append, List.length_singleton]; omega, fun q => ?_⟩
      rw [sat_app, sat4]
      refine ⟨fun z => ⟨z.1.1, fun j h1 h2 h3 => ?_⟩, fun z => ⟨⟨z.1, fun j h1 h2 h3 => z.2 j h1 (by omega) h3⟩, ?_⟩⟩
      · by_cases ej : j = lo + i
        · have h9 : q (lo + i + 1) ≤ q ev + -p.stayOf (lo + i) := z.2
          rw [ej]; omega
        · exact z.1.2 j h1 (by omega) h3
      · have := z.2 (lo + i) (by omega) (by omega) hq
        show q (lo + i + 1) ≤ q ev + -p.stayOf (lo + i)
        omega
    · have hq : ¬ p.cellOf (lo + i) = cell := by rw [cell_at hin]; simpa using h
      refine ⟨_, _, rfl, ⟨k0, tv, hf0, htv⟩, en4, by omega, fun q => ?_⟩
      rw [sat4]
      refine ⟨fun z => ⟨z.1, fun j h1 h2 h3 => z.2 j h1 (by
        have : j ≠ lo + i := fun e => hq (e ▸ h3)
        omega) h3⟩, fun z => ⟨z.1, fun j h1 h2 h3 => z.2 j h1 (by omega) h3⟩⟩
  · rintro σ H4 ⟨ts4, o8, rfl, T4, en4, hl4, sat4⟩
    refine ⟨_, rfl, q _ f ts4 hf T4 en4 (by omega) fun q => ?_⟩
    rw [sat4]
    refine ⟨fun z => ⟨z.1.1.1, z.1.1.2, z.1.2, fun i h1 h2 h3 => z.2 i ((hlo2 i).mp h1) (by omega) h3⟩, fun z => ⟨⟨⟨z.d0, z.d1⟩, z.sh⟩, fun j h1 h2 h3 => z.no j ((hlo2 j).mpr h1) (by omega) h3⟩⟩
end
end Ink
set_option Elab.async false
set_option linter.all false
set_option maxRecDepth 100000
set_option maxHeartbeats 4000000
namespace Ink
open PySem PySem.Spec PyProof.Rows L2
theorem sat_take {ts : List Edge} {i : Nat} {e : Edge} (h : ts[i]? = some e) {q : Nat → Int} : Sat (ts.take (i + 1)) q ↔ Sat (ts.take i) q ∧ q e.1.1 ≤ q e.1.2 + e.2 := by
  rw [List.take_succ, h]
  exact sat_app
section
variable {P : Program} {w : World} {K : PySem.W.Frag} {mg : Str → Option Value} {base : Heap}
def sp_put_case (K : PySem.W.Frag) : Sp := fun vs H Q _ => ∃ (v u : V) (p : Pl) (b d : Addr) (n ev : Nat) (l : Tab) (cell : Int) (cs : Case), vs = [v, .ref b, .int ev, .int cell, u] ∧ IsPl K H v p ∧ p.Ok ∧ IsCV K H u cs ∧ IsCs p cell cs ∧ p.ws.length < ev ∧ ev < n ∧
  BdAt K H b d n l ∧ WF n l ∧ Ends2 n l ∧ n ≤ 7 ∧ ∀ H' l', Kp [d] H H' → BdAt K H' b d n l' → WF n l' → Ends2 n l' → (∀ q, Sat l' q ↔ Sat l q ∧ CaseOk p ev cell cs q) → Q .non H'
theorem sc_put_case : FnScope ["plan", "bounds", "event", "cell", "case", "x", "y", "c"] ["plan", "bounds", "event", "cell", "case"] (defScope s_put_case) := ⟨rfl, rfl, rfl, by decide +kernel, rfl, by decide +kernel, by decide +kernel⟩
theorem ok_put_case (T : Txt w K mg) : FnOk P w K mg base CX0 3 (He.ga K "put_case") (fdA K (He.ga K "put_case")) ["plan", "bounds", "event", "cell", "case"] (sp_put_case K) := by
  have G_case_told := ok_case_told (P := P) (base := base) T
  have G_Bounds_put := ok_Bounds_put (P := P) (base := base) T
  refine (d_put_case T).ok sc_put_case (fun vs H Q E h => ?_) (fun cdv A outer s H vs Q E hr h => ?_)
  · obtain ⟨_, _, _, _, _, _, _, _, _, _, rfl, _⟩ := h; rfl
  obtain ⟨v, u, p, b, d, n, ev, l, cell, cs, rfl, hP, ok, hu, hcs, hev, hevn, hB, hw, he2, hn, q⟩ := h
  refine ⟨_, (pss_one (ps_for PassesOwn.never rfl (pi_list (pcall (d_case_told T) G_case_told (hr.mono (by decide)) (pa_cons (pv 0) (pa_cons (pv 2) (pa_cons (pv 3) (pa_cons (pv 4) pa_nil)))))) (pg_tup rfl (pgs_cons (pg_name (i := 5) sc_put_case.nd rfl (Or.inl rfl)) (pgs_cons (pg_name (i := 6) sc_put_case.nd rfl (Or.inl rfl)) (pgs_cons (pg_name (i := 7) sc_put_case.nd rfl (Or.inl rfl)) pgs_nil)))) (pss_one (ps_expr (pmeth (pv 1) (cl_Bounds T) (a_Bounds_put T) (m_Bounds_put T) G_Bounds_put (hr.mono (by decide)) (pa_cons (pv 5) (pa_cons (pv 6) (pa_cons (pv 7) pa_nil)))))))), ?_⟩
  refine ⟨_, rfl, _, rfl, _, rfl, _, rfl, v, u, p, n, ev, cell, cs, rfl, hP, ok, hu, hcs, hev, hevn, fun H1 t ts ht T1 en1 hl1 sat1 => ?_⟩
  obtain ⟨k1, tv, ht1, htv⟩ := T1
  have hB1 := hB.kp k1 (by simp) (by simp)
  have htd : t ≠ d := fun e => by rw [e, hB.dic] at ht; cases ht
  have htl : tv.length = ts.length := paired_len htv
  refine ⟨t, rfl, ⟨_, SqL.of ht1⟩, for_list (xs := tv) (fun i σ H' => ∃ o5 o6 o7 l', σ = [some v, some (.ref b), some (.int (ev : Nat)), some (.int cell), some u, o5, o6, o7] ∧ Kp [d] H1 H' ∧ BdAt K H' b d n l' ∧ WF n l' ∧ Ends2 n l' ∧ ∀ q, Sat l' q ↔ Sat l q ∧ Sat (ts.take i) q)
    ⟨_, _, _, l, rfl, .refl _ _, hB1, hw, he2, fun q => ⟨fun z => ⟨z, sat_nil q⟩, fun z => z.1⟩⟩ (fun i σ H' _ h => by obtain ⟨_, _, _, _, _, k, _⟩ := h; exact SqL.of (k.keep _ _ ht1 (by simp [htd]))) ?_ ?_⟩
  · rintro i y σ H2 hy ⟨o5, o6, o7, l', rfl, k2, hB2, hw2, he2', sat2⟩
    obtain ⟨e, he, a, rfl, ha⟩ := paired_at htv hy
    have ha2 := kpT ha k2
    obtain ⟨hx1, hx2, hx3⟩ := en1 e (List.mem_of_getElem? he)
    refine ⟨a, _, rfl, ha2, rfl, _, _, rfl, _, _, rfl, _, _, rfl, rfl, ?_⟩
    obtain ⟨dx, hb2⟩ := hB2.ins
    refine ⟨_, rfl, b, dx, _, rfl, hb2, (bfs_no _ _).1, _, rfl, _, rfl, _, rfl, b, d, n, l', _, _, _, rfl, hB2, hw2, hn, fun H3 k3 e3 => ?_⟩
    have hb3 := k3.keep _ _ hb2 (by have := hB2.ne; simp [this])
    refine ⟨_, _, _, _, rfl, k2.trans k3, ⟨⟨dx, hb3⟩, e3⟩, hw2.tput hx1 hx2 _, he2'.tput hx1 hx2 hx3, fun q => ?_⟩
    rw [sat_tput hw2, sat2, sat_take he]
    exact ⟨fun z => ⟨z.1.1, z.1.2, z.2⟩, fun z => ⟨⟨z.1, z.2.1⟩, z.2.2⟩⟩
  · rintro σ H2 ⟨o5, o6, o7, l', rfl, k2, hB2, hw2, he2', sat2⟩
    refine q H2 l' ((k1.mono0).trans k2) hB2 hw2 he2' fun q => ?_
    rw [sat2, htl, List.take_length, sat1]
def sp_may_be (K : PySem.W.Frag) : Sp := fun vs H Q _ => ∃ (f t : Addr) (n : Nat) (lf : Tab) (tv : List V) (ts : List Edge), vs = [.ref f, .ref t] ∧ H f = some (.dT (tabT lf)) ∧ WF n lf ∧ n ≤ 7 ∧ H t = some (.lst tv) ∧ Paired (IsTr K H) tv ts ∧ ts.length ≤ 8 ∧
  ∀ H' r, Kp [] H H' → (r = false → ∀ q, Sat lf q → ¬ Sat ts q) → Q (.bl r) H'
theorem sc_may_be : FnScope ["closed", "told", "x", "y", "c"] ["closed", "told"] (defScope s_may_be) := ⟨rfl, rfl, rfl, by decide +kernel, rfl, by decide +kernel, by decide +kernel⟩
theorem ok_may_be (T : Txt w K mg) : FnOk P w K mg base CX0 1 (He.ga K "may_be") (fdA K (He.ga K "may_be")) ["closed", "told"] (sp_may_be K) := by
  refine (d_may_be T).ok sc_may_be (fun vs H Q E h => ?_) (fun cdv A outer s H vs Q E hr h => ?_)
  · obtain ⟨_, _, _, _, _, _, rfl, _⟩ := h; rfl
  obtain ⟨f, t, n, lf, tv, ts, rfl, hf, hw, hn, ht, htv, hl, q⟩ := h
  have htl : tv.length = ts.length := paired_len htv
  refine ⟨_, (pss_one (ps_ret (pe_callB (cr_all rfl) (by rfl) (f_all T) bb_all (pa_cons (pe_lc (g := gTup K 3 (gCons (gName 2) (gCons (gName 3) (gCons (gName 4) gNil)))) (own := [("x", 2), ("y", 3), ("c", 4)]) rfl sc_may_be.nd (pi_list (pv 1)) (blkOk_by (own := [("x", 2), ("y", 3), ("c", 4)]) (N := ["closed", "told", "x", "y", "c"]) (sc := defScope s_may_be) (by decide +kernel)) (fun _ _ _ _ _ => (pg_tup rfl (pgs_cons (pg_name (i := 2) sc_may_be.nd rfl (Or.inl rfl)) (pgs_cons (pg_name (i := 3) sc_may_be.nd rfl (Or.inl rfl)) (pgs_cons (pg_name (i := 4) sc_may_be.nd rfl (Or.inl rfl)) pgs_nil))))) (fun _ _ _ _ _ => pts_nil) (fun _ _ _ _ _ => (pe_or (pe_cmp (pc_dnotin (hu_of hr) (pe_tup (pa_cons (pv 3) (pa_cons (pv 2) pa_nil))) (pv 0))) (pe_one (pe_cmpR op_ge (pe_op op_add (pe_dget (hu_of hr) (pv 0) (pe_tup (pa_cons (pv 3) (pa_cons (pv 2) pa_nil))) (fun _ _ => rfl)) (pv 4)) pe_int (nomark _)))))) pa_nil)))), ?_⟩
  refine ⟨_, rfl, t, rfl, ⟨_, SqL.of ht⟩, fun D hD => lc_list (xs := tv) (fun i H' => Kp [] H H' ∧ ∃ bs : List Bool, H' D = some (.lst (bs.map V.bl)) ∧ bs.length = i ∧ (bs.all id = false → ∀ q, Sat lf q → ¬ Sat ts q)) ⟨.new hD, [], upd_same, rfl, fun z => by cases z⟩ (fun i H' _ h => SqL.of (h.1.keep _ _ ht (by simp))) ?_ ?_⟩
  · rintro i y H1 hy ⟨k1, bs, hD1, hbl, hbs⟩
    obtain ⟨e, he, a, rfl, ha⟩ := paired_at htv hy
    have hi : i < ts.length := (List.getElem?_eq_some_iff.mp he).1
    have hel : e ∈ ts := List.mem_of_getElem? he
    refine ⟨a, _, rfl, kpT ha k1, rfl, _, _, rfl, _, _, rfl, _, _, rfl, rfl, rfl, tyes ?_⟩
    refine iteT ?_
    have hf1 := k1.keep _ _ hf (by simp)
    have fin : ∀ H2 : Hp, Kp [] H H2 → H2 D = some (.lst (bs.map V.bl)) → ∀ r : Bool, (r = false → ∀ q, Sat lf q → ¬ Sat ts q) →
        ∃ acc, H2 D = some (.lst acc) ∧ acc.length < sizeLine ∧ Kp [] H (upd H2 D (.lst (acc ++ [V.bl r]))) ∧ ∃ bs : List Bool, (upd H2 D (.lst (acc ++ [V.bl r]))) D = some (.lst (bs.map V.bl)) ∧ bs.length = i + 1 ∧ (bs.all id = false → ∀ q, Sat lf q → ¬ Sat ts q) := fun H2 k2 e2 r hr => by
      refine ⟨_, e2, small1000 (by rw [List.length_map]; omega), k2.putN hD, bs ++ [r], by rw [upd_same, List.map_append]; rfl, by rw [List.length_append, hbl]; rfl, fun z => ?_⟩
      rw [List.all_append, Bool.and_eq_false_iff] at z
      rcases z with z | z
      · exact hbs z
      · exact hr (by simpa using z)
    refine ⟨_, rfl, _, rfl, by show 2 ≤ sizeLine; decide, fun u hu => ?_⟩
    have ku := k1.newT (o := .tup [.int (e.1.2 : Nat), .int (e.1.1 : Nat)]) hu
    have hDu : upd H1 u (.tup [.int (e.1.2 : Nat), .int (e.1.1 : Nat)]) D = some (.lst (bs.map V.bl)) := by rw [upd_ne (ne_of_none hD1 hu)]; exact hD1
    have hfu := ku.keep _ _ hf (by simp)
    refine ⟨_, rfl, f, _, rfl, dget_tab (x := e.1.2) (y := e.1.1) hfu upd_same, ?_⟩
    cases hg : tget lf e.1.2 e.1.1 with
    | none => exact ⟨_, rfl, iteT (fin _ ku hDu true (fun z => by cases z))⟩
    | some c =>
      refine ⟨_, rfl, iteF ?_⟩
      refine ⟨_, rfl, _, rfl, _, rfl, by show 2 ≤ sizeLine; decide, fun u2 hu2 => ?_⟩
      have ku2 := ku.newT (o := .tup [.int (e.1.2 : Nat), .int (e.1.1 : Nat)]) hu2
      have hfu2 := ku2.keep _ _ hf (by simp)
      have g := dget_tab (x := e.1.2) (y := e.1.1) hfu2 (u := u2) upd_same
      rw [hg] at g
      have hDu2 : upd (upd H1 u (.tup [.int (e.1.2 : Nat), .int (e.1.1 : Nat)])) u2 (.tup [.int (e.1.2 : Nat), .int (e.1.1 : Nat)]) D = some (.lst (bs.map V.bl)) := by rw [upd_ne (ne_of_none hDu hu2)]; exact hDu
      refine ⟨f, _, rfl, g, _, rfl, _, _, rfl, rfl, _, _, rfl, rfl, ?_⟩
      refine fin _ ku2 hDu2 _ fun z q h1 h2 => ?_
      have z' := of_decide_eq_false z
      have h3 := h1 _ (tget_some hg)
      have h4 := h2 e hel
      have h5 : q e.1.2 ≤ q e.1.1 + c := h3
      omega
  rintro H1 ⟨k1, bs, hD1, hbl, hbs⟩
  exact ⟨_, bs, rfl, SqL.of hD1, q _ _ k1 hbs⟩
end
end Ink
set_option Elab.async false
set_option linter.all false
set_option maxRecDepth 100000
set_option maxHeartbeats 4000000
namespace Ink
open PySem PySem.Spec PyProof.Rows L2
/-- the first i differences of the plan, the first j of the reader -/
structure BaseTo (p : Pl) (r : Rdr) (i j : Nat) (q : Nat → Int) : Prop where
  w : ∀ m x, m < i → p.ws[m]? = some x → x.low ≤ q (m + 1) - q m ∧ q (m + 1) - q m ≤ x.high
  l : ∀ m k, m < j → r.looks[m]? = some k → k.low ≤ q (1 + p.ws.length + m) - q (prevEv p r m) ∧ q (1 + p.ws.length + m) - q (prevEv p r m) ≤ k.high
section
variable {P : Program} {w : World} {K : PySem.W.Frag} {mg : Str → Option Value} {base : Heap}
def sp_bounds_of (K : PySem.W.Frag) : Sp := fun vs H Q _ => ∃ v u p r, vs = [v, u] ∧ IsPl K H v p ∧ p.Ok ∧ IsRdr K H u r ∧ r.Ok p ∧
  ∀ H' b d l, Kp [] H H' → H b = none → H d = none → BdAt K H' b d (1 + p.ws.length + r.looks.length) l → WF (1 + p.ws.length + r.looks.length) l → Ends2 (1 + p.ws.length + r.looks.length) l → (∀ q, Sat l q ↔ BaseOk p r q) → Q (.ref b) H'
theorem sc_bounds_of : FnScope ["plan", "reader", "writes", "looks", "found", "at", "write", "ahead", "look"] ["plan", "reader"] (defScope s_bounds_of) := ⟨rfl, rfl, rfl, by decide +kernel, rfl, by decide +kernel, by decide +kernel⟩
theorem ok_bounds_of (T : Txt w K mg) : FnOk P w K mg base CX0 3 (He.ga K "bounds_of") (fdA K (He.ga K "bounds_of")) ["plan", "reader"] (sp_bounds_of K) := by
  have G_Bounds_init := ok_Bounds_init (P := P) (base := base) T
  have G_Bounds_between := ok_Bounds_between (P := P) (base := base) T
  refine (d_bounds_of T).ok sc_bounds_of (fun vs H Q E h => ?_) (fun cdv A outer s H vs Q E hr h => ?_)
  · obtain ⟨_, _, _, _, rfl, _⟩ := h; rfl
  obtain ⟨v, u, p, r, rfl, ⟨a, b, c, vs, rfl, ha, hb, hc, hp⟩, ok, ⟨e, f, ls, rfl, he, hf, hls⟩, ro, q⟩ := h
  have hv : vs.length = p.ws.length := paired_len hp
  have hl : ls.length = r.looks.length := paired_len hls
  have hwn := ok.wn
  have hln := ro.n1
  refine ⟨_, (pss_cons (ps_par (i := 2) (j := 3) rfl sc_bounds_of.nd rfl rfl (by decide) rfl rfl (pa_cons (pe_ix ix_tup (pv 0) pe_int (fun _ _ => rfl)) (pa_cons (pe_ix ix_tup (pv 1) pe_int (fun _ _ => rfl)) pa_nil)) (by rfl))
      (pss_cons (ps_set (i := 4) sc_bounds_of.nd rfl (Or.inl rfl) (pmake (mk_Bounds T) (c_Bounds T) (m_Bounds_init T) G_Bounds_init (hr.mono (by decide)) (pa_cons (pe_op op_add (pe_op op_add pe_int (pe_callB call_len (by rfl) (f_len T) bb_len (pa_cons (pv 2) pa_nil))) (pe_callB call_len (by rfl) (f_len T) bb_len (pa_cons (pv 3) pa_nil))) pa_nil)))
      (pss_cons (ps_for PassesOwn.never rfl (pi_enumT (by rfl) (f_enumerate T) (pa_cons (pv 2) pa_nil)) (pg_tup rfl (pgs_cons (pg_name (i := 5) sc_bounds_of.nd rfl (Or.inl rfl)) (pgs_cons (pg_name (i := 6) sc_bounds_of.nd rfl (Or.inl rfl)) pgs_nil))) (pss_one (ps_expr (pmeth (pv 4) (cl_Bounds T) (a_Bounds_between T) (m_Bounds_between T) G_Bounds_between (hr.mono (by decide)) (pa_cons (pe_op op_add (pv 5) pe_int) (pa_cons (pv 5) (pa_cons (pe_ix ix_tup (pv 6) pe_int (fun _ _ => rfl)) (pa_cons (pe_ix ix_tup (pv 6) pe_int (fun _ _ => rfl)) pa_nil))))))))
      (pss_cons (ps_set (i := 7) sc_bounds_of.nd rfl (Or.inl rfl) (pe_cut (pe_ifExp (pt_cmpR op_isN (pe_ix ix_tup (pv 1) pe_int (fun _ _ => rfl)) pe_non (nomark _)) pe_int (pe_op op_add (pe_ix ix_tup (pv 1) pe_int (fun _ _ => rfl)) pe_int))))
      (pss_cons (ps_for PassesOwn.never rfl (pi_enumT (by rfl) (f_enumerate T) (pa_cons (pv 3) pa_nil)) (pg_tup rfl (pgs_cons (pg_name (i := 5) sc_bounds_of.nd rfl (Or.inl rfl)) (pgs_cons (pg_name (i := 8) sc_bounds_of.nd rfl (Or.inl rfl)) pgs_nil))) (pss_cons (ps_expr (pmeth (pv 4) (cl_Bounds T) (a_Bounds_between T) (m_Bounds_between T) G_Bounds_between (hr.mono (by decide)) (pa_cons (pe_op op_add (pe_op op_add pe_int (pe_callB call_len (by rfl) (f_len T) bb_len (pa_cons (pv 2) pa_nil))) (pv 5)) (pa_cons (pv 7) (pa_cons (pe_ix ix_tup (pv 8) pe_int (fun _ _ => rfl)) (pa_cons (pe_ix ix_tup (pv 8) pe_int (fun _ _ => rfl)) pa_nil))))))
      (pss_one (ps_set (i := 7) sc_bounds_of.nd rfl (Or.inl rfl) (pe_op op_add (pe_op op_add pe_int (pe_callB call_len (by rfl) (f_len T) bb_len (pa_cons (pv 2) pa_nil))) (pv 5))))))
      (pss_one (ps_ret (pv 4)))))))), ?_⟩
  refine ⟨_, rfl, _, _, _, _, rfl, rfl, ha, rfl, _, rfl, _, _, _, _, rfl, rfl, he, rfl, _, _, rfl, ?_⟩
  refine ⟨_, rfl, _, _, rfl, .inr ⟨_, hc, rfl⟩, _, _, rfl, rfl, _, rfl, _, _, rfl, .inr ⟨_, hf, rfl⟩, _, _, rfl, rfl, fun x dy hx hdy ne => ⟨x, dy, _, rfl, upd_same, fun d hd => ?_⟩⟩
  have hz : (1 : Int) + (vs.length : Nat) + (ls.length : Nat) = ((1 + p.ws.length + r.looks.length : Nat) : Int) := by rw [hv, hl]; omega
  rw [hz]
  generalize hN : 1 + p.ws.length + r.looks.length = N at q ⊢
  have hN7 : N ≤ 7 := by omega
  obtain ⟨k1, hd1, nxd⟩ := made_Bounds (K := K) (n := (N : Int)) hx hdy ne hd
  have hB1 : BdAt K (upd (upd (upd (upd (upd H dy (.own x)) x (.ins (He.ga K "Bounds") dy [])) x (.ins (He.ga K "Bounds") dy (putF "size" (.int (N : Int)) []))) d (.dT [])) x (.ins (He.ga K "Bounds") dy (bfs (N : Int) d))) x d N [] :=
    ⟨⟨dy, upd_same⟩, by rw [upd_ne nxd.symm]; exact upd_same⟩
  have wf0 : WF N [] := ⟨List.nodup_nil, fun e h => by cases h⟩
  refine ⟨rfl, ?_⟩
  refine ⟨_, rfl, c, vs, rfl, kpT hc k1, for_it walk_enumG (fun i σ H' => ∃ o5 o6 l, σ = [some (.ref a), some (.ref e), some (.ref c), some (.ref f), some (.ref x), o5, o6, none, none] ∧ Kp [] H H' ∧ BdAt K H' x d N l ∧ WF N l ∧ Ends2 N l ∧ ∀ q, Sat l q ↔ BaseTo p r i 0 q)
    ⟨_, _, [], rfl, k1, hB1, wf0, Ends2.nil N, fun q => ⟨fun _ => ⟨fun m _ h => by omega, fun m _ h => by omega⟩, fun _ => sat_nil q⟩⟩ (fun i σ H' _ h => by obtain ⟨_, _, _, _, k, _⟩ := h; exact kpT hc k) ?_ ?_⟩
  · rintro i y σ H2 H3 hi ⟨o5, o6, l, rfl, k2, hB2, hw2, he2, sat2⟩ ⟨t, y0, z, rfl, ht, rfl, h1, h2⟩
    cases h1
    have hin : i < p.ws.length := by omega
    obtain ⟨wr, hwr, g, rfl, hg⟩ := paired_at hp h2
    have k3 := k2.newT (p := t) (o := .tup [.int (i : Nat), .ref g]) ht
    refine ⟨t, _, rfl, SqT.of upd_same, rfl, _, _, rfl, _, _, rfl, rfl, ?_⟩
    have hB3 := hB2.kp (.new (S := []) (p := t) (o := .tup [.int (i : Nat), .ref g]) ht) (by simp) (by simp)
    obtain ⟨dx, hb3⟩ := hB3.ins
    refine ⟨_, rfl, x, dx, _, rfl, hb3, (bfs_no _ _).2.1, _, rfl, _, _, rfl, rfl, _, rfl, _, rfl, _, _, _, _, rfl, rfl, kpT hg k3, rfl, _, rfl, _, _, _, _, rfl, rfl, kpT hg k3, rfl, x, d, N, l, i + 1, i, _, _, rfl, hB3, hw2, hN7, by omega, by omega, fun H4 k4 e4 => ?_⟩
    have hb4 := k4.keep _ _ hb3 (by have := hB3.ne; simp [this])
    have hw3 := hw2.tput (x := i + 1) (y := i) (by omega) (by omega) wr.high
    refine ⟨_, _, _, rfl, (k3.trans (.refl [] _)).drop k4 (fun b hb => .inl (by rw [show b = d by simpa using hb]; exact hd1)), ⟨⟨dx, hb4⟩, e4⟩, hw3.tput (by omega) (by omega) _, (he2.tput (by omega) (by omega) (by omega)).tput (by omega) (by omega) (by omega), fun q => ?_⟩
    rw [sat_tput hw3, sat_tput hw2, sat2]
    refine ⟨fun z => ⟨fun m y hm hy => ?_, fun m _ h => by omega⟩, fun z => ?_⟩
    · by_cases em : m = i
      · subst em
        rw [hwr] at hy; cases hy
        exact ⟨by omega, by omega⟩
      · exact z.1.1.w m y (by omega) hy
    · have := z.w i wr (by omega) hwr
      exact ⟨⟨⟨fun m y hm hy => z.w m y (by omega) hy, fun m _ h => by omega⟩, by omega⟩, by omega⟩
  rintro σ H2 ⟨o5, o6, l, rfl, k2, hB2, hw2, he2, sat2⟩
  -- ahead
  refine ⟨fun v H' => H' = H2 ∧ v = .int (prevEv p r 0 : Nat), ?_, ?_⟩
  · refine ⟨_, rfl, _, _, _, _, rfl, rfl, kpT he k2, rfl, rfl, _, rfl, ?_⟩
    unfold prevEv
    cases hs : r.start with
    | none => exact iteDT rfl ⟨rfl, rfl⟩
    | some s =>
      exact iteDF (by intro z; cases z) ⟨_, rfl, _, _, _, _, rfl, rfl, kpT he k2, (by rw [hs]; rfl), _, _, rfl, rfl, rfl, rfl⟩
  rintro v H' ⟨rfl, rfl⟩
  have hp0 : prevEv p r 0 < 1 + p.ws.length := by
    show (match r.start with | none => 0 | some s => s + 1) < _
    cases hs : r.start with
    | none => show 0 < _; omega
    | some s => have := ro.st s hs; show s + 1 < _; omega
  refine ⟨_, rfl, f, ls, rfl, kpT hf k2, for_it walk_enumG (fun i σ H' => ∃ o5 o6 o8 l, σ = [some (.ref a), some (.ref e), some (.ref c), some (.ref f), some (.ref x), o5, o6, some (.int (prevEv p r i : Nat)), o8] ∧ Kp [] H H' ∧ BdAt K H' x d N l ∧ WF N l ∧ Ends2 N l ∧ ∀ q, Sat l q ↔ BaseTo p r p.ws.length i q)
    ⟨_, _, _, l, rfl, k2, hB2, hw2, he2, fun q => by rw [sat2, hv]⟩ (fun i σ H' _ h => by obtain ⟨_, _, _, _, _, k, _⟩ := h; exact kpT hf k) ?_ ?_⟩
  · rintro i y σ H2 H3 hi ⟨o5, o6, o8, l, rfl, k2, hB2, hw2, he2, sat2⟩ ⟨t, y0, z, rfl, ht, rfl, h1, h2⟩
    cases h1
    have hin : i < r.looks.length := by omega
    obtain ⟨lk, hlk, g, rfl, hg⟩ := paired_at hls h2
    have k3 := k2.newT (p := t) (o := .tup [.int (i : Nat), .ref g]) ht
    have hpi : prevEv p r i < 1 + p.ws.length + i := by
      cases i with
      | zero => exact hp0
      | succ i => show 1 + p.ws.length + i < _; omega
    refine ⟨t, _, rfl, SqT.of upd_same, rfl, _, _, rfl, _, _, rfl, rfl, ?_⟩
    have hB3 := hB2.kp (.new (S := []) (p := t) (o := .tup [.int (i : Nat), .ref g]) ht) (by simp) (by simp)
    obtain ⟨dx, hb3⟩ := hB3.ins
    have hz2 : (1 : Int) + (vs.length : Nat) + (i : Nat) = ((1 + p.ws.length + i : Nat) : Int) := by rw [hv]; omega
    refine ⟨_, rfl, x, dx, _, rfl, hb3, (bfs_no _ _).2.1, _, rfl, _, _, rfl, .inr ⟨_, kpT hc k3, rfl⟩, _, _, rfl, rfl, _, rfl, _, _, rfl, rfl, _, rfl, _, rfl, _, _, _, _, rfl, rfl, kpT hg k3, rfl, _, rfl, _, _, _, _, rfl, rfl, kpT hg k3, rfl, x, d, N, l, 1 + p.ws.length + i, prevEv p r i, lk.low, lk.high, (by rw [← hz2]; rfl), hB3, hw2, hN7, by omega, by omega, fun H4 k4 e4 => ?_⟩
    have hb4 := k4.keep _ _ hb3 (by have := hB3.ne; simp [this])
    have hw3 := hw2.tput (x := 1 + p.ws.length + i) (y := prevEv p r i) (by omega) (by omega) lk.high
    have k5 : Kp [] H H4 := k3.drop k4 (fun b hb => .inl (by rw [show b = d by simpa using hb]; exact hd1))
    refine ⟨_, rfl, _, _, rfl, .inr ⟨_, kpT hc k5, rfl⟩, _, _, rfl, rfl, _, rfl, _, _, rfl, rfl, ?_⟩
    refine ⟨_, _, _, _, by rw [show ((prevEv p r (i + 1) : Nat) : Int) = (1 : Int) + (vs.length : Nat) + (i : Nat) from hz2.symm]; rfl, k5, ⟨⟨dx, hb4⟩, e4⟩, hw3.tput (by omega) (by omega) _, (he2.tput (by omega) (by omega) (by omega)).tput (by omega) (by omega) (by omega), fun q => ?_⟩
    rw [sat_tput hw3, sat_tput hw2, sat2]
    refine ⟨fun z => ⟨z.1.1.w, fun m y hm hy => ?_⟩, fun z => ?_⟩
    · by_cases em : m = i
      · subst em
        rw [hlk] at hy; cases hy
        exact ⟨by omega, by omega⟩
      · exact z.1.1.l m y (by omega) hy
    · have := z.l i lk (by omega) hlk
      exact ⟨⟨⟨z.w, fun m y hm hy => z.l m y (by omega) hy⟩, by omega⟩, by omega⟩
  rintro σ H3 ⟨o5, o6, o8, l, rfl, k3, hB3, hw3, he3, sat3⟩
  refine ⟨_, rfl, q H3 x d l k3 hx hd1 hB3 hw3 he3 fun q => ?_⟩
  rw [sat3, hl]
  exact ⟨fun z => ⟨fun i x h => z.w i x (List.getElem?_eq_some_iff.mp h).1 h, fun j k h => z.l j k (List.getElem?_eq_some_iff.mp h).1 h⟩, fun z => ⟨fun m x _ h => z.w m x h, fun m k _ h => z.l m k h⟩⟩
end
end Ink
set_option Elab.async false
set_option linter.all false
set_option pp.maxSteps 150
set_option maxRecDepth 100000
set_option maxHeartbeats 4000000
namespace Ink
open PySem PySem.Spec PyProof.Rows L2
def strL (l : List Nat) : Str := ⟨l.toArray⟩
theorem strL_inj {a b : List Nat} (h : strL a = strL b) : a = b := by
  have : a.toArray = b.toArray := congrArg Str.cps h
  exact congrArg Array.toList this
theorem strL_nil : strL [] = Str.ofString "" := by decide +kernel
theorem strL_app (a b : List Nat) : strL a ++ strL b = strL (a ++ b) := by
  show Str.mk (a.toArray ++ b.toArray) = Str.mk (a ++ b).toArray
  rw [List.append_toArray]
theorem strL_len (a : List Nat) : (strL a).length = a.length := rfl
theorem sg_str (c : Nat) : sg c = strL [c] := rfl
theorem seeJ_at {p : Pl} {r : Rdr} {q : Nat → Int} {j : Nat} (h : j < r.looks.length) : seeJ p r q j = seenN p q (r.looks[j]).cell (q (1 + p.ws.length + j)) p.ws.length := by
  unfold seeJ
  rw [List.getElem?_eq_getElem h]
  rfl
theorem putK_le {κ : Type} [DecidableEq κ] (c : List (κ × V)) (k : κ) (x : V) : (putK c k x).length ≤ c.length + 1 := by
  unfold putK
  split
  · rw [List.length_map]; omega
  · rw [List.length_append, List.length_singleton]; omega
abbrev Lot := Tab × List Nat
abbrev nEv (p : Pl) (r : Rdr) : Nat := 1 + p.ws.length + r.looks.length
/-- a lot behind j looks -/
structure LotOk (p : Pl) (r : Rdr) (j : Nat) (x : Lot) : Prop where
  wf : WF (nEv p r) x.1
  e2 : Ends2 (nEv p r) x.1
  ex : 0 < j → ∃ q, Sat x.1 q
  is : ∀ q, Sat x.1 q → BaseOk p r q ∧ readP p r q j = x.2
  ln : x.2.length = j
def LotV (K : PySem.W.Frag) (n : Nat) (H : Hp) (v : V) (x : Lot) : Prop := ∃ a b d, v = .ref a ∧ SqT K H a [.ref b, .str (strL x.2)] ∧ BdAt K H b d n x.1
theorem LotV.kp {K : PySem.W.Frag} {n : Nat} {S : List Addr} {H H' : Hp} {v : V} {x : Lot} (h : LotV K n H v x) (k : Kp S H H') (hS : ∀ a ∈ S, H a = none ∨ ∃ xs, H a = some (.lst xs)) : LotV K n H' v x := by
  obtain ⟨a, b, d, e, s, hB⟩ := h
  refine ⟨a, b, d, e, kpT s k, hB.kp k (fun m => ?_) (fun m => ?_)⟩
  · obtain ⟨dx, hb⟩ := hB.ins
    rcases hS b m with z | ⟨xs, z⟩ <;> rw [hb] at z <;> cases z
  · have hd := hB.dic
    rcases hS d m with z | ⟨xs, z⟩ <;> rw [hd] at z <;> cases z
/-- later, behind i lots and m cases of the next -/
structure LateOk (p : Pl) (r : Rdr) (j : Nat) (D : (Nat → Int) → Prop) (ls : List Lot) : Prop where
  all : ∀ x ∈ ls, LotOk p r (j + 1) x
  cov : ∀ q, BaseOk p r q → D q → ∃ x ∈ ls, Sat x.1 q
theorem LateOk.mono {p : Pl} {r : Rdr} {j : Nat} {D D' : (Nat → Int) → Prop} {ls : List Lot} (h : LateOk p r j D ls) (hd : ∀ q, BaseOk p r q → D' q → D q) : LateOk p r j D' ls := ⟨h.all, fun q hq d => h.cov q hq (hd q hq d)⟩
def LateAt (K : PySem.W.Frag) (p : Pl) (r : Rdr) (H0 : Hp) (la : Addr) (H : Hp) (ls : List Lot) : Prop := Kp [la] H0 H ∧ ∃ lv, H la = some (.lst lv) ∧ Paired (LotV K (nEv p r) H) lv ls
/-- what led_choices gives -/
def Led (K : PySem.W.Frag) (p : Pl) (r : Rdr) (H : Hp) (D : Addr) : Prop := ∃ (kvs : List (Key × V)) (zs : List (List Nat)), H D = some (.dK kvs) ∧ kvs.map (·.1) = zs.map (fun z => Sum.inr (strL z)) ∧ zs.Nodup ∧ (∀ z, z ∈ zs ↔ Rds p r z) ∧
  ∀ e ∈ kvs, ∃ q t, e.2 = .ref q ∧ H q = some (.lst (intL (nEv p r) t))
section
variable {P : Program} {w : World} {K : PySem.W.Frag} {mg : Str → Option Value} {base : Heap}
def sp_led_choices (K : PySem.W.Frag) : Sp := fun vs H Q _ => ∃ v u p r, vs = [v, u, .non] ∧ IsPl K H v p ∧ p.Ok ∧ IsRdr K H u r ∧ r.Ok p ∧
  ∀ H' D, Kp [] H H' → H D = none → Led K p r H' D → Q (.ref D) H'
theorem sc_led_choices : FnScope ["plan", "reader", "fits", "lots", "at", "look", "later", "event", "bounds", "told", "closed", "case", "sign", "more"] ["plan", "reader", "fits"] (defScope s_led_choices) := ⟨rfl, rfl, rfl, by decide +kernel, rfl, by decide +kernel, by decide +kernel⟩
set_option maxHeartbeats 8000000 in
theorem ok_led_choices (T : Txt w K mg) : FnOk P w K mg base CX0 4 (He.ga K "led_choices") (fdA K (He.ga K "led_choices")) ["plan", "reader", "fits"] (sp_led_choices K) := by
  have G_bounds_of := ok_bounds_of (P := P) (base := base) T
  have G_Bounds_closed := ok_Bounds_closed (P := P) (base := base) T
  have G_Bounds_copied := ok_Bounds_copied (P := P) (base := base) T
  have G_Bounds_solved := ok_Bounds_solved (P := P) (base := base) T
  have G_cases_at := ok_cases_at (P := P) (base := base) T
  have G_sign_of := ok_sign_of (P := P) (base := base) T
  have G_case_told := ok_case_told (P := P) (base := base) T
  have G_may_be := ok_may_be (P := P) (base := base) T
  have G_put_case := ok_put_case (P := P) (base := base) T
  refine (d_led_choices T).ok sc_led_choices (fun vs H Q E h => ?_) (fun cdv A outer s H vs Q E hr h => ?_)
  · obtain ⟨_, _, _, _, rfl, _⟩ := h; rfl
  obtain ⟨v, u, p, r, rfl, hP, ok, hR, ro, q⟩ := h
  have hP0 := hP
  have hR0 := hR
  obtain ⟨a, b, c, vs, rfl, ha, hb, hc, hp⟩ := hP
  obtain ⟨e, f, ks, rfl, he, hf, hks⟩ := hR
  have hv : vs.length = p.ws.length := paired_len hp
  have hl : ks.length = r.looks.length := paired_len hks
  have hwn := ok.wn
  have hln := ro.n1
  have hln0 := ro.n0
  have hN7 : nEv p r ≤ 7 := by show 1 + p.ws.length + r.looks.length ≤ 7; omega
  have hlow : ∀ x ∈ p.ws, 0 ≤ x.low := fun x hx => (ok.ws x hx).l0
  refine ⟨_, (pss_cons (ps_set (i := 3) sc_led_choices.nd rfl (Or.inl rfl) (pe_lst (pa_cons (pe_tup (pa_cons (pcall (d_bounds_of T) G_bounds_of (hr.mono (by decide)) (pa_cons (pv 0) (pa_cons (pv 1) pa_nil))) (pa_cons pe_str pa_nil))) pa_nil)))
      (pss_cons (ps_for PassesOwn.never rfl (pi_enumT (by rfl) (f_enumerate T) (pa_cons (pe_ix ix_tup (pv 1) pe_int (fun _ _ => rfl)) pa_nil)) (pg_tup rfl (pgs_cons (pg_name (i := 4) sc_led_choices.nd rfl (Or.inl rfl)) (pgs_cons (pg_name (i := 5) sc_led_choices.nd rfl (Or.inl rfl)) pgs_nil))) (pss_cons (ps_par (i := 6) (j := 7) rfl sc_led_choices.nd rfl rfl (by decide) rfl rfl (pa_cons (pe_lst pa_nil) (pa_cons (pe_op op_add (pe_op op_add pe_int (pe_callB call_len (by rfl) (f_len T) bb_len (pa_cons (pe_ix ix_tup (pv 0) pe_int (fun _ _ => rfl)) pa_nil))) (pv 4)) pa_nil)) (by rfl))
      (pss_cons (ps_for PassesOwn.never rfl (pi_list (pv 3)) (pg_tup rfl (pgs_cons (pg_name (i := 8) sc_led_choices.nd rfl (Or.inl rfl)) (pgs_cons (pg_name (i := 9) sc_led_choices.nd rfl (Or.inl rfl)) pgs_nil))) (pss_cons (ps_set (i := 10) sc_led_choices.nd rfl (Or.inl rfl) (pmeth0 (pv 8) (cl_Bounds T) (a_Bounds_closed T) (m_Bounds_closed T) G_Bounds_closed (hr.mono (by decide))))
      (pss_one (ps_for PassesOwn.never rfl (pi_list (pcall (d_cases_at T) G_cases_at (hr.mono (by decide)) (pa_cons (pv 0) (pa_cons (pe_ix ix_tup (pv 5) pe_int (fun _ _ => rfl)) pa_nil)))) (pg_name (i := 11) sc_led_choices.nd rfl (Or.inl rfl)) (pss_cons (ps_set (i := 12) sc_led_choices.nd rfl (Or.inl rfl) (pcall (d_sign_of T) G_sign_of (hr.mono (by decide)) (pa_cons (pv 0) (pa_cons (pv 11) pa_nil))))
      (pss_one (ps_if (PW.pt (pw_and (PW.pt (pw_or (pt_cmpR op_isN (pv 2) pe_non (nomark _)) (pw_or1 pt_no))) (pw_and1 (pt_val (pcall (d_may_be T) G_may_be (hr.mono (by decide)) (pa_cons (pv 10) (pa_cons (pcall (d_case_told T) G_case_told (hr.mono (by decide)) (pa_cons (pv 0) (pa_cons (pv 7) (pa_cons (pe_ix ix_tup (pv 5) pe_int (fun _ _ => rfl)) (pa_cons (pv 11) pa_nil))))) pa_nil))))))) (pss_cons (ps_set (i := 13) sc_led_choices.nd rfl (Or.inl rfl) (pmeth0 (pv 8) (cl_Bounds T) (a_Bounds_copied T) (m_Bounds_copied T) G_Bounds_copied (hr.mono (by decide))))
      (pss_cons (ps_expr (pcall (d_put_case T) G_put_case (hr.mono (by decide)) (pa_cons (pv 0) (pa_cons (pv 13) (pa_cons (pv 7) (pa_cons (pe_ix ix_tup (pv 5) pe_int (fun _ _ => rfl)) (pa_cons (pv 11) pa_nil)))))))
      (pss_one (ps_if (pt_cmpR op_notN (pe_ix ix_tup (pmeth0 (pv 13) (cl_Bounds T) (a_Bounds_solved T) (m_Bounds_solved T) G_Bounds_solved (hr.mono (by decide))) pe_int (fun _ _ => rfl)) pe_non (nomark _)) (pss_one (ps_expr (pe_bm PySem.F.plainAttrs_list PySem.F.slot_list_append PySem.F.type_list_append mt_append (pv 6) (pa_cons (pe_tup (pa_cons (pv 13) (pa_cons (pe_op op_add_str (pv 9) (pv 12)) pa_nil))) pa_nil)))) pss_nil)))) pss_nil)))))))
      (pss_one (ps_set (i := 3) sc_led_choices.nd rfl (Or.inl rfl) (pv 6))))))
      (pss_one (ps_ret (pe_dc (g := gTup K 2 (gCons (gName 8) (gCons (gName 9) gNil))) (own := [("bounds", 8), ("told", 9)]) rfl sc_led_choices.nd (pi_list (pv 3)) (blkOk_by (own := [("bounds", 8), ("told", 9)]) (N := ["plan", "reader", "fits", "lots", "at", "look", "later", "event", "bounds", "told", "closed", "case", "sign", "more"]) (sc := defScope s_led_choices) (by decide +kernel)) (fun _ _ _ _ _ => (pg_tup rfl (pgs_cons (pg_name (i := 8) sc_led_choices.nd rfl (Or.inl rfl)) (pgs_cons (pg_name (i := 9) sc_led_choices.nd rfl (Or.inl rfl)) pgs_nil)))) (fun _ _ _ _ _ => pts_nil) (fun _ _ _ _ _ => (pv 9)) (fun _ _ _ _ _ => (pe_ix (ix_tupK (K := K) rfl) (pmeth0K (K := K) rfl (pv 8) (cl_Bounds T) (a_Bounds_solved T) (m_Bounds_solved T) G_Bounds_solved (hr.mono (by decide))) pe_int (fun _ _ => rfl)))))))), ?_⟩
  refine ⟨_, rfl, _, rfl, _, _, p, r, rfl, hP0, ok, hR0, ro, fun H1 b0 d0 l0 k1 hb0 hd0 hB1 hw1 he1 sat1 => ⟨by show 2 ≤ sizeLine; decide, fun t0 ht0 => ⟨by show 1 ≤ sizeLine; decide, fun lo hlo => ?_⟩⟩⟩
  have k2 : Kp [] H (upd (upd H1 t0 (.tup [.ref b0, .str (Str.ofString "")])) lo (.lst [.ref t0])) := (k1.newT ht0).newT hlo
  have lot0 : LotV K (nEv p r) (upd (upd H1 t0 (.tup [.ref b0, .str (Str.ofString "")])) lo (.lst [.ref t0])) (.ref t0) (l0, []) := by
    have kn : Kp [] H1 (upd (upd H1 t0 (.tup [.ref b0, .str (Str.ofString "")])) lo (.lst [.ref t0])) := (Kp.new ht0).newT hlo
    refine ⟨t0, b0, d0, rfl, ?_, hB1.kp kn (by simp) (by simp)⟩
    have : SqT K (upd H1 t0 (.tup [.ref b0, .str (Str.ofString "")])) t0 [.ref b0, .str (Str.ofString "")] := SqT.of upd_same
    rw [show strL (l0, ([] : List Nat)).2 = Str.ofString "" from strL_nil]
    exact kpT this (Kp.new (S := []) hlo)
  have hlo1 : (upd (upd H1 t0 (.tup [.ref b0, .str (Str.ofString "")])) lo (.lst [.ref t0])) lo = some (.lst [.ref t0]) := upd_same
  have hloH : H lo = none := (k1.newT ht0).free hlo
  generalize upd (upd H1 t0 (.tup [.ref b0, .str (Str.ofString "")])) lo (.lst [.ref t0]) = H2 at k2 lot0 hlo1 ⊢
  refine ⟨_, rfl, _, _, _, _, rfl, rfl, kpT he k2, rfl, f, ks, rfl, kpT hf k2, for_it walk_enumG (fun j σ H' => ∃ lo lv ls o4 o5 o6 o7 o8 o9 o10 o11 o12 o13, σ = [some (.ref a), some (.ref e), some .non, some (.ref lo), o4, o5, o6, o7, o8, o9, o10, o11, o12, o13] ∧ Kp [] H H' ∧ H lo = none ∧ H' lo = some (.lst lv) ∧ Paired (LotV K (nEv p r) H') lv ls ∧ (∀ x ∈ ls, LotOk p r j x) ∧ (∀ q, BaseOk p r q → ∃ x ∈ ls, Sat x.1 q) ∧ ls.length ≤ 25 ^ j)
    ⟨lo, _, [(l0, [])], _, _, _, _, _, _, _, _, _, _, rfl, k2, hloH, hlo1, .cons lot0 .nil, fun x hx => ?_, fun q hq => ⟨_, List.mem_cons_self, (sat1 q).mpr hq⟩, Nat.le_refl _⟩ (fun i σ H' _ h => by obtain ⟨_, _, _, _, _, _, _, _, _, _, _, _, _, _, k, _⟩ := h; exact kpT hf k) ?_ ?_⟩
  · have : x = (l0, []) := by simpa using hx
    subst this
    exact ⟨hw1, he1, fun z => by omega, fun q hq => ⟨(sat1 q).mp hq, rfl⟩, rfl⟩
  · rintro j y σ H3 H3' hj ⟨lo, lv, ls, o4, o5, o6, o7, o8, o9, o10, o11, o12, o13, rfl, k3, hlo, hlv, hpl, hok, hcov, hlen⟩ ⟨t, y0, z, rfl, ht, rfl, h1, h2⟩
    cases h1
    have hjn : j < r.looks.length := by omega
    obtain ⟨lk, hlk, g, rfl, hg⟩ := paired_at hks h2
    have hlk' : r.looks[j] = lk := by rw [List.getElem?_eq_getElem hjn] at hlk; exact Option.some.inj hlk
    have k4 := k3.newT (p := t) (o := .tup [.int (j : Nat), .ref g]) ht
    have hlen25 : ls.length ≤ 25 := by
      have : 25 ^ j ≤ 25 ^ 1 := Nat.pow_le_pow_right (by omega) (by omega)
      omega
    have kt : Kp [] H3 (upd H3 t (.tup [.int (j : Nat), .ref g])) := .new ht
    have hlv4 := kt.keep _ _ hlv (by simp)
    have hpl4 := pkp hpl fun _ _ z => z.kp kt (by simp)
    have ht4 : SqT K (upd H3 t (.tup [.int (j : Nat), .ref g])) t [.int (j : Nat), .ref g] := SqT.of upd_same
    generalize upd H3 t (.tup [.int (j : Nat), .ref g]) = H4 at k4 hlv4 hpl4 ht4 ⊢
    refine ⟨t, _, rfl, ht4, rfl, _, _, rfl, _, _, rfl, rfl, ?_⟩
    refine ⟨by show 0 ≤ sizeLine; decide, fun la hla => ?_⟩
    have k5 := k4.newT (p := la) (o := .lst []) hla
    have hlaH : H la = none := k4.free hla
    have kla : Kp [] H4 (upd H4 la (.lst [])) := .new hla
    have hlv5 := kla.keep _ _ hlv4 (by simp)
    have hpl5 := pkp hpl4 fun _ _ z => z.kp kla (by simp)
    have hla5 : (upd H4 la (.lst [])) la = some (.lst []) := upd_same
    have nla : lo ≠ la := fun e => by rw [e, hla] at hlv4; cases hlv4
    generalize upd H4 la (.lst []) = H5 at k5 hlv5 hpl5 hla5 ⊢
    have hz : (1 : Int) + (vs.length : Nat) + (j : Nat) = ((1 + p.ws.length + j : Nat) : Int) := by rw [hv]; omega
    refine ⟨_, rfl, _, _, _, _, rfl, rfl, kpT ha k5, rfl, _, _, rfl, .inr ⟨_, kpT hc k5, rfl⟩, _, _, rfl, rfl, _, rfl, _, _, rfl, rfl, _, _, rfl, ?_⟩
    have hev : p.ws.length < 1 + p.ws.length + j := by omega
    have hevn : 1 + p.ws.length + j < nEv p r := by show _ < 1 + p.ws.length + r.looks.length; omega
    have hlvl : lv.length = ls.length := paired_len hpl5
    refine ⟨_, rfl, lo, rfl, ⟨_, SqL.of hlv5⟩, for_list (xs := lv) (fun i σ H' => ∃ ls' o8 o9 o10 o11 o12 o13, σ = [some (.ref a), some (.ref e), some .non, some (.ref lo), some (.int (j : Nat)), some (.ref g), some (.ref la), some (.int (1 + p.ws.length + j : Nat)), o8, o9, o10, o11, o12, o13] ∧ LateAt K p r H5 la H' ls' ∧ LateOk p r j (fun q => ∃ y ∈ ls.take i, Sat y.1 q) ls' ∧ ls'.length ≤ i * 25)
      ⟨[], _, _, _, _, _, _, (by rw [← hz]; rfl), ⟨.refl _ _, [], hla5, .nil⟩, ⟨(fun x hx => by cases hx), fun q _ h => by obtain ⟨y, hy, _⟩ := h; simp at hy⟩, by simp⟩ (fun i σ H' _ h => by obtain ⟨_, _, _, _, _, _, _, _, k, _⟩ := h; exact SqL.of (k.1.keep _ _ hlv5 (by simp [nla]))) ?_ ?_⟩
    · rintro i y σ H6 hy ⟨ls', o8, o9, o10, o11, o12, o13, rfl, L6, late6, hlen6⟩
      obtain ⟨x, hx, hxv⟩ := paired_at hpl5 hy
      have hil : i < ls.length := (List.getElem?_eq_some_iff.mp hx).1
      have hxm : x ∈ ls := List.mem_of_getElem? hx
      obtain ⟨xwf, xe2, xex, xis, xln⟩ := hok x hxm
      have hxv6 := hxv.kp L6.1 (fun a ha => .inr ⟨[], by rw [show a = la by simpa using ha]; exact hla5⟩)
      obtain ⟨tx, bx, dx, rfl, htx, hBx⟩ := hxv6
      obtain ⟨dq, hbx⟩ := hBx.ins
      refine ⟨tx, _, rfl, htx, rfl, _, _, rfl, _, _, rfl, rfl, ?_⟩
      refine ⟨_, rfl, bx, dq, _, rfl, hbx, (bfs_no _ _).2.2.2.1, bx, dx, nEv p r, x.1, rfl, hBx, xwf, hN7, fun H7 fc lf k7 hfc hfc7 wlf imp => ?_⟩
      have k57 : Kp [la] H5 H7 := L6.1.trans k7.mono0
      have kH7 : Kp [] H H7 := k5.drop1 k57 hlaH
      refine ⟨_, rfl, _, rfl, _, _, _, _, rfl, rfl, kpT hg kH7, rfl, _, p, lk.cell, rfl, hP0.kp kH7, ok, fun H8 ca cv cs k8 hca hca8 hcv hcs1 hcs2 hcl => ⟨ca, rfl, ⟨_, SqL.of hca8⟩, ?_⟩⟩
      obtain ⟨k6, lv6, hla6, hlp6⟩ := L6
      have hla7 := k7.keep _ _ hla6 (by simp)
      have hla8 := k8.keep _ _ hla7 (by simp)
      have nca : ca ≠ la := fun e => by rw [e, hla7] at hca; cases hca
      have hfc8 := k8.keep _ _ hfc7 (by simp)
      have nfc : fc ≠ la := fun e => by rw [e, hla6] at hfc; cases hfc
      have hBx8 := (hBx.kp k7 (by simp) (by simp)).kp k8 (by simp) (by simp)
      have htx8 := kpT (kpT htx k7) k8
      have nbl : bx ≠ la := fun e => by rw [e, hla6] at hbx; cases hbx
      have ndl : dx ≠ la := fun e => by have := hBx.dic; rw [e, hla6] at this; cases this
      have k58 : Kp [la] H5 H8 := k57.trans k8.mono0
      have hlp8 : Paired (LotV K (nEv p r) H8) lv6 ls' := pkp hlp6 fun _ _ z => (z.kp k7 (by simp)).kp k8 (by simp)
      have hcvl : cv.length = cs.length := paired_len hcv
      refine for_list (xs := cv) (fun m σ H' => ∃ ls' o11 o12 o13, σ = [some (.ref a), some (.ref e), some .non, some (.ref lo), some (.int (j : Nat)), some (.ref g), some (.ref la), some (.int (1 + p.ws.length + j : Nat)), some (.ref bx), some (.str (strL x.2)), some (.ref fc), o11, o12, o13] ∧ Kp [la] H8 H' ∧ LateAt K p r H5 la H' ls' ∧
          LateOk p r j (fun q => (∃ y ∈ ls.take i, Sat y.1 q) ∨ (Sat x.1 q ∧ ∃ c ∈ cs.take m, CaseOk p (1 + p.ws.length + j) lk.cell c q)) ls' ∧ ls'.length ≤ i * 25 + m)
        ⟨ls', _, _, _, rfl, .refl _ _, ⟨k58, lv6, hla8, hlp8⟩, late6.mono (fun q _ h => by
          rcases h with h | ⟨_, c, hc, _⟩
          · exact h
          · simp at hc), hlen6⟩ (fun m σ H' _ h => by obtain ⟨_, _, _, _, _, k, _⟩ := h; exact SqL.of (k.keep _ _ hca8 (by simp [nca]))) ?_ ?_
      · rintro m yc σ H9 hyc ⟨ls9, o11, o12, o13, rfl, k89, L9, late9, hlen9⟩
        obtain ⟨cse, hce, hcv9⟩ := paired_at hcv hyc
        have hcm : cse ∈ cs := List.mem_of_getElem? hce
        have hml : m < cs.length := (List.getElem?_eq_some_iff.mp hce).1
        have hisc := hcs1 cse hcm
        have hcv9 := hcv9.kp k89
        have kH9 : Kp [] H H9 := k5.drop1 L9.1 hlaH
        have hP9 := hP0.kp kH9
        have hg9 := kpT hg kH9
        -- what the case adds, if nothing
        have skip : ∀ ls, LateOk p r j (fun q => (∃ y ∈ (ls : List Lot).take i, Sat y.1 q) ∨ (Sat x.1 q ∧ ∃ c ∈ cs.take m, CaseOk p (1 + p.ws.length + j) lk.cell c q)) ls9 → (∀ q, Sat x.1 q → ¬ CaseOk p (1 + p.ws.length + j) lk.cell cse q) →
            LateOk p r j (fun q => (∃ y ∈ ls.take i, Sat y.1 q) ∨ (Sat x.1 q ∧ ∃ c ∈ cs.take (m + 1), CaseOk p (1 + p.ws.length + j) lk.cell c q)) ls9 := fun ls h no => h.mono fun q _ hq => by
          rcases hq with hq | ⟨h1, c, hc, h2⟩
          · exact .inl hq
          · rw [List.take_succ, hce] at hc
            rcases List.mem_append.mp hc with z | z
            · exact .inr ⟨h1, c, z, h2⟩
            · have : c = cse := by simpa using z
              subst this
              exact absurd h2 (no q h1)
        refine ⟨_, rfl, _, rfl, _, p, _, lk.cell, cse, rfl, hP9, hcv9, hisc, ?_⟩
        refine ⟨_, rfl, rfl, _, rfl, iteDT rfl (iteT ?_)⟩
        refine ⟨_, rfl, _, rfl, _, rfl, _, rfl, _, _, _, _, rfl, rfl, hg9, rfl, _, rfl, _, _, p, nEv p r, 1 + p.ws.length + j, lk.cell, cse, rfl, hP9, ok, hcv9, hisc, hev, hevn, fun H10 ta ts hta T10 en10 hl10 sat10 => ?_⟩
        obtain ⟨k10, tv, hta10, htv⟩ := T10
        obtain ⟨k59, lv9, hla9, hlp9⟩ := L9
        have hfc9 := k89.keep _ _ hfc8 (by simp [nfc])
        refine ⟨fc, ta, nEv p r, lf, tv, ts, rfl, k10.keep _ _ hfc9 (by simp), wlf, hN7, hta10, htv, hl10, fun H11 rb k11 hrb => ⟨_, rfl, ?_⟩⟩
        have k9b : Kp [] H9 H11 := k10.trans k11
        have hla11 := k9b.keep _ _ hla9 (by simp)
        have hlp11 : Paired (LotV K (nEv p r) H11) lv9 ls9 := pkp hlp9 fun _ _ z => z.kp k9b (by simp)
        cases rb with
        | false =>
          refine iteF ?_
          exact ⟨ls9, _, _, _, rfl, k89.trans k9b.mono0, ⟨k59.trans k9b.mono0, lv9, hla11, hlp11⟩, skip ls late9 (fun q h1 h2 => hrb rfl q (imp q h1) ((sat10 q).mpr h2)), by omega⟩
        | true =>
          refine iteT ?_
          have hBx9 := (hBx8.kp k89 (by simp [nbl]) (by simp [ndl])).kp k9b (by simp) (by simp)
          obtain ⟨dq9, hbx9⟩ := hBx9.ins
          refine ⟨_, rfl, bx, dq9, _, rfl, hbx9, (bfs_no _ _).2.2.1, bx, dx, nEv p r, x.1, rfl, hBx9, xwf, hN7, fun H12 b' d' k12 hb' hd' hB12 => ?_⟩
          have k9c := k9b.trans k12
          have kHc := kH9.trans k9c
          have k6c : Kp [] H9 H12 := k9c
          refine ⟨_, rfl, _, rfl, _, rfl, _, rfl, _, _, _, _, rfl, rfl, kpT hg kHc, rfl, _, rfl, _, _, p, b', d', nEv p r, 1 + p.ws.length + j, x.1, lk.cell, cse, rfl, hP0.kp kHc, ok, hcv9.kp k9c, hisc, hev, hevn, hB12, xwf, xe2, hN7, fun H13 l' k13 hB13 wl' el' sat13 => ?_⟩
          have hd9 : H9 d' = none := k9b.free hd'
          have k9d : Kp [] H9 H13 := k9c.drop1 k13 hd9
          obtain ⟨dq13, hb13⟩ := hB13.ins
          refine ⟨_, rfl, b', dq13, _, rfl, hb13, (bfs_no _ _).2.2.2.2.2.1, b', d', nEv p r, l', rfl, hB13, wl', el', by show 1 ≤ 1 + p.ws.length + r.looks.length; omega, hN7, fun H14 rr r0 r1 k14 hrr hres => ?_⟩
          have k9e := k9d.trans k14
          have hla14 := k9e.keep _ _ hla9 (by simp)
          have hlp14 : Paired (LotV K (nEv p r) H14) lv9 ls9 := pkp hlp9 fun _ _ z => z.kp k9e (by simp)
          refine ⟨rr, _, _, _, rfl, rfl, SqT.of hrr, rfl, rfl, _, rfl, ?_⟩
          rcases hres with ⟨rfl, hno⟩ | ⟨qa, pp, rfl, _, _, _, hpp⟩
          · refine iteNF rfl ?_
            exact ⟨ls9, _, _, _, rfl, k89.trans k9e.mono0, ⟨k59.trans k9e.mono0, lv9, hla14, hlp14⟩, skip ls late9 (fun q h1 h2 => hno q ((sat13 q).mpr ⟨h1, h2⟩)), by omega⟩
          · refine iteNT (by intro z; cases z) ?_
            refine ⟨_, rfl, .inl ⟨rfl, _, SqL.of hla14⟩, _, rfl, _, rfl, _, rfl, _, _, rfl, rfl, (by rw [strL_len, xln]; exact Nat.le_trans (show j + 1 ≤ 1000 by omega) (by decide)), by show 2 ≤ sizeLine; decide, fun tn htn => ?_⟩
            rw [sg_str, strL_app]
            have k15 := k9e.newT (p := tn) (o := .tup [.ref b', .str (strL (x.2 ++ [caseSign p cse]))]) htn
            have hla15 := k15.keep _ _ hla9 (by simp)
            have hl9 : lv9.length = ls9.length := paired_len hlp9
            refine ⟨la, lv9, _, rfl, rfl, hla15, small1000 (by omega), ?_⟩
            have kla9 : Kp [la] (upd H14 tn (.tup [.ref b', .str (strL (x.2 ++ [caseSign p cse]))])) (upd (upd H14 tn (.tup [.ref b', .str (strL (x.2 ++ [caseSign p cse]))])) la (.lst (lv9 ++ [.ref tn]))) := .put (by simp) hla15 rfl
            have hSla : ∀ a ∈ [la], (upd H14 tn (.tup [.ref b', .str (strL (x.2 ++ [caseSign p cse]))])) a = none ∨ ∃ xs, (upd H14 tn (.tup [.ref b', .str (strL (x.2 ++ [caseSign p cse]))])) a = some (.lst xs) := fun a ha => .inr ⟨lv9, by rw [show a = la by simpa using ha]; exact hla15⟩
            have hB15 : BdAt K (upd H14 tn (.tup [.ref b', .str (strL (x.2 ++ [caseSign p cse]))])) b' d' (nEv p r) l' := (hB13.kp k14 (by simp) (by simp)).kp (.new (S := []) htn) (by simp) (by simp)
            have newv : LotV K (nEv p r) (upd H14 tn (.tup [.ref b', .str (strL (x.2 ++ [caseSign p cse]))])) (.ref tn) (l', x.2 ++ [caseSign p cse]) := ⟨tn, b', d', rfl, SqT.of upd_same, hB15⟩
            have isn : ∀ q, Sat l' q → BaseOk p r q ∧ readP p r q (j + 1) = x.2 ++ [caseSign p cse] := fun q hq => by
              obtain ⟨h1, h2⟩ := (sat13 q).mp hq
              obtain ⟨h3, h4⟩ := xis q h1
              refine ⟨h3, ?_⟩
              rw [readP_succ, h4, seeJ_at hjn, hlk', case_seen (h3.mono hlow) hisc h2]
            refine ⟨ls9 ++ [(l', x.2 ++ [caseSign p cse])], _, _, _, rfl, (k89.trans k15.mono0).trans kla9, ⟨(k59.trans k15.mono0).trans kla9, _, upd_same, paired_snoc (pkp hlp9 fun _ _ z => (z.kp k15 (by simp)).kp kla9 hSla) (newv.kp kla9 hSla)⟩, ⟨fun y hy => ?_, fun q hq hD => ?_⟩, by rw [List.length_append, List.length_singleton]; omega⟩
            · rcases List.mem_append.mp hy with z | z
              · exact late9.all y z
              · have : y = (l', x.2 ++ [caseSign p cse]) := by simpa using z
                subst this
                exact ⟨wl', el', fun _ => ⟨pp, hpp⟩, isn, by rw [List.length_append, xln]; rfl⟩
            · have old : (∃ y ∈ ls.take i, Sat y.1 q) ∨ (Sat x.1 q ∧ ∃ c ∈ cs.take m, CaseOk p (1 + p.ws.length + j) lk.cell c q) → ∃ y ∈ ls9 ++ [(l', x.2 ++ [caseSign p cse])], Sat y.1 q := fun h => by
                obtain ⟨y, hy, hs⟩ := late9.cov q hq h
                exact ⟨y, List.mem_append_left _ hy, hs⟩
              rcases hD with hD | ⟨h1, c, hc, h2⟩
              · exact old (.inl hD)
              · rw [List.take_succ, hce] at hc
                rcases List.mem_append.mp hc with z | z
                · exact old (.inr ⟨h1, c, z, h2⟩)
                · have : c = cse := by simpa using z
                  subst this
                  exact ⟨_, List.mem_append_right _ List.mem_cons_self, (sat13 q).mpr ⟨h1, h2⟩⟩
      · rintro σ H9 ⟨ls9, o11, o12, o13, rfl, k89, L9, late9, hlen9⟩
        refine ⟨ls9, _, _, _, _, _, _, rfl, L9, late9.mono fun q hq h => ?_, ?_⟩
        · obtain ⟨y, hy, hs⟩ := h
          rw [List.take_succ, hx] at hy
          rcases List.mem_append.mp hy with z | z
          · exact .inl ⟨y, z, hs⟩
          · have : y = x := by simpa using z
            subst this
            obtain ⟨c, hc1, hc2⟩ := case_ex p q (1 + p.ws.length + j) lk.cell
            refine .inr ⟨hs, c, ?_, hc2⟩
            rw [hcvl, List.take_length]
            exact hcs2 c hc1
        · have : (i + 1) * 25 = i * 25 + 25 := by omega
          omega
    · rintro σ H6 ⟨ls', o8, o9, o10, o11, o12, o13, rfl, ⟨k56, lv6, hla6, hlp6⟩, late6, hlen6⟩
      refine ⟨_, rfl, ?_⟩
      refine ⟨la, lv6, ls', _, _, _, _, _, _, _, _, _, _, rfl, k5.drop1 k56 hlaH, hlaH, hla6, hlp6, late6.all, fun q hq => ?_, ?_⟩
      · obtain ⟨y, hy, hs⟩ := hcov q hq
        exact late6.cov q hq ⟨y, by rw [hlvl, List.take_length]; exact hy, hs⟩
      · rw [hlvl] at hlen6
        have : 25 ^ (j + 1) = 25 ^ j * 25 := Nat.pow_succ ..
        omega
  · rintro σ H3 ⟨lo, lv, ls, o4, o5, o6, o7, o8, o9, o10, o11, o12, o13, rfl, k3, hlo, hlv, hpl, hok, hcov, hlen⟩
    have hlvl : lv.length = ls.length := paired_len hpl
    refine ⟨_, rfl, lo, rfl, ⟨_, SqL.of hlv⟩, fun D hD => dc_list (xs := lv) (fun i H' => Kp [] H3 H' ∧ ∃ (kvs : List (Key × V)) (zs : List (List Nat)), H' D = some (.dK kvs) ∧ kvs.map (·.1) = zs.map (fun z => Sum.inr (strL z)) ∧ zs.Nodup ∧ (∀ z ∈ zs, Rds p r z) ∧ (∀ x ∈ ls.take i, x.2 ∈ zs) ∧ (∀ e ∈ kvs, ∃ q t, e.2 = .ref q ∧ H' q = some (.lst (intL (nEv p r) t))) ∧ kvs.length ≤ i)
      ⟨.new hD, [], [], upd_same, rfl, List.nodup_nil, (fun z h => by cases h), (fun x h => by simp at h), (fun e h => by cases h), Nat.le_refl _⟩ (fun i H' _ h => SqL.of (h.1.keep _ _ hlv (by simp))) ?_ ?_⟩
    · rintro i y H4 hy ⟨k4, kvs, zs, hD4, hkz, hnd, hrd, hin, hval, hln⟩
      obtain ⟨x, hx, hxv⟩ := paired_at hpl hy
      have hxm : x ∈ ls := List.mem_of_getElem? hx
      have hi : i < ls.length := (List.getElem?_eq_some_iff.mp hx).1
      obtain ⟨xwf, xe2, xex, xis, xln⟩ := hok x hxm
      obtain ⟨tx, bx, dx, rfl, htx, hBx⟩ := hxv.kp k4 (by simp)
      obtain ⟨dq, hbx⟩ := hBx.ins
      obtain ⟨q0, hq0⟩ := xex (by omega)
      refine ⟨tx, _, rfl, htx, rfl, _, _, rfl, _, _, rfl, rfl, rfl, tyes ?_⟩
      refine iteT ?_
      refine ⟨_, rfl, _, rfl, bx, dq, _, rfl, hbx, (bfs_no _ _).2.2.2.2.2.1, bx, dx, nEv p r, x.1, rfl, hBx, xwf, xe2, by show 1 ≤ 1 + p.ws.length + r.looks.length; omega, hN7, fun H5 rr r0 r1 k5 hrr hres => ?_⟩
      rcases hres with ⟨rfl, hno⟩ | ⟨qa, pp, rfl, hqa, _, _, hpp⟩
      · exact absurd hq0 (hno q0)
      refine ⟨rr, _, _, _, rfl, rfl, SqT.of hrr, rfl, ?_⟩
      have hD5 := k5.keep _ _ hD4 (by simp)
      have hDH : H D = none := k3.free hD
      have lslen : ls.length ≤ 625 := by
        have : 25 ^ ks.length ≤ 25 ^ 2 := Nat.pow_le_pow_right (by omega) (by omega)
        omega
      refine ⟨kvs, .inr (strL x.2), rfl, hD5, small1000 (by omega), (k4.trans k5).putN hD, putK kvs (.inr (strL x.2)) (.ref qa), ?_⟩
      have hrx : Rds p r x.2 := ⟨q0, (xis q0 hq0).1, by rw [← (xis q0 hq0).2, hl]⟩
      have hqaD : qa ≠ D := fun e => by rw [e, hD5] at hqa; cases hqa
      have hval' : ∀ e ∈ putK kvs (Sum.inr (strL x.2)) (V.ref qa), ∃ q t, e.2 = .ref q ∧ (upd H5 D (.dK (putK kvs (Sum.inr (strL x.2)) (V.ref qa)))) q = some (.lst (intL (nEv p r) t)) := fun e he => by
        have old : ∀ e ∈ kvs, ∃ q t, e.2 = .ref q ∧ (upd H5 D (.dK (putK kvs (Sum.inr (strL x.2)) (V.ref qa)))) q = some (.lst (intL (nEv p r) t)) := fun e he => by
          obtain ⟨q, t, h1, h2⟩ := hval e he
          have : q ≠ D := fun e => by rw [e, hD4] at h2; cases h2
          exact ⟨q, t, h1, by rw [upd_ne this]; exact k5.keep _ _ h2 (by simp)⟩
        have new : ∃ q t, V.ref qa = .ref q ∧ (upd H5 D (.dK (putK kvs (Sum.inr (strL x.2)) (V.ref qa)))) q = some (.lst (intL (nEv p r) t)) := ⟨qa, pp, rfl, by rw [upd_ne hqaD]; exact hqa⟩
        unfold putK at he
        split at he
        · obtain ⟨e0, h0, rfl⟩ := List.mem_map.mp he
          by_cases hq : e0.1 = Sum.inr (strL x.2)
          · rw [if_pos hq]; exact new
          · rw [if_neg hq]; exact old e0 h0
        · rcases List.mem_append.mp he with z | z
          · exact old e z
          · have : e = (Sum.inr (strL x.2), V.ref qa) := by simpa using z
            subst this; exact new
      have hlen' := putK_le kvs (Sum.inr (strL x.2)) (V.ref qa)
      by_cases hz : x.2 ∈ zs
      · refine ⟨zs, upd_same, ?_, hnd, hrd, fun y hy => ?_, hval', by omega⟩
        · have hany : (kvs.any fun kv => decide (kv.1 = (Sum.inr (strL x.2) : Key))) = true := by
            have : (Sum.inr (strL x.2) : Key) ∈ kvs.map (·.1) := by rw [hkz]; exact List.mem_map.mpr ⟨_, hz, rfl⟩
            obtain ⟨e, he, h1⟩ := List.mem_map.mp this
            exact List.any_eq_true.mpr ⟨e, he, decide_eq_true h1⟩
          unfold putK
          rw [if_pos hany, List.map_map, ← hkz]
          refine List.map_congr_left fun e _ => ?_
          show (if e.1 = _ then (e.1, _) else e).1 = e.1
          split <;> rfl
        · rw [List.take_succ, hx] at hy
          rcases List.mem_append.mp hy with z | z
          · exact hin y z
          · have : y = x := by simpa using z
            subst this; exact hz
      · refine ⟨zs ++ [x.2], upd_same, ?_, ?_, fun z h => ?_, fun y hy => ?_, hval', by omega⟩
        · have hany : ¬ (kvs.any fun kv => decide (kv.1 = (Sum.inr (strL x.2) : Key))) = true := fun h => by
            obtain ⟨e, he, h1⟩ := List.any_eq_true.mp h
            have h1 : e.1 = (Sum.inr (strL x.2) : Key) := of_decide_eq_true h1
            have : (Sum.inr (strL x.2) : Key) ∈ kvs.map (·.1) := List.mem_map.mpr ⟨e, he, h1⟩
            rw [hkz] at this
            obtain ⟨z, hz1, hz2⟩ := List.mem_map.mp this
            have : z = x.2 := strL_inj (Sum.inr.inj hz2)
            exact hz (this ▸ hz1)
          unfold putK
          rw [if_neg hany, List.map_append, List.map_append, hkz]
          rfl
        · rw [List.nodup_append]
          refine ⟨hnd, by simp, fun a ha b hb e => ?_⟩
          have : b = x.2 := by simpa using hb
          exact hz (this ▸ e ▸ ha)
        · rcases List.mem_append.mp h with h | h
          · exact hrd z h
          · have : z = x.2 := by simpa using h
            subst this; exact hrx
        · rw [List.take_succ, hx] at hy
          rcases List.mem_append.mp hy with z | z
          · exact List.mem_append_left _ (hin y z)
          · have : y = x := by simpa using z
            subst this; simp
    · rintro H4 ⟨k4, kvs, zs, hD4, hkz, hnd, hrd, hin, hval, hln⟩
      refine q H4 D (k3.trans k4) (k3.free hD) ⟨kvs, zs, hD4, hkz, hnd, fun z => ⟨hrd z, fun hz => ?_⟩, hval⟩
      obtain ⟨q0, hq0, rfl⟩ := hz
      obtain ⟨x, hx, hs⟩ := hcov q0 hq0
      have := ((hok x hx).is q0 hs).2
      rw [← hl, this]
      exact hin x (by rw [hlvl, List.take_length]; exact hx)
end
end Ink
set_option Elab.async false
set_option linter.all false
set_option pp.maxSteps 150
set_option maxRecDepth 100000
set_option maxHeartbeats 4000000
namespace Ink
open PySem PySem.Spec PyProof.Rows L2
section
variable {P : Program} {w : World} {K : PySem.W.Frag} {mg : Str → Option Value} {base : Heap}
def sp_timetable_of (K : PySem.W.Frag) : Sp := fun vs H Q _ => ∃ v u p r ta t, vs = [v, u, .ref ta] ∧ IsPl K H v p ∧ p.Ok ∧ IsRdr K H u r ∧ r.Ok p ∧ H ta = some (.lst (intL (nEv p r) t)) ∧ ∀ H' a, Kp [] H H' → Q (.ref a) H'
theorem sc_timetable_of : FnScope ["plan", "reader", "ticks", "writes", "looks", "pace", "at", "ahead", "rests"] ["plan", "reader", "ticks"] (defScope s_timetable_of) := ⟨rfl, rfl, rfl, by decide +kernel, rfl, by decide +kernel, by decide +kernel⟩
theorem ok_timetable_of (T : Txt w K mg) : FnOk P w K mg base CX0 1 (He.ga K "timetable_of") (fdA K (He.ga K "timetable_of")) ["plan", "reader", "ticks"] (sp_timetable_of K) := by
  refine (d_timetable_of T).ok sc_timetable_of (fun vs H Q E h => ?_) (fun cdv A outer s H vs Q E hr h => ?_)
  · obtain ⟨_, _, _, _, _, _, rfl, _⟩ := h; rfl
  obtain ⟨v, u, p, r, ta, t, rfl, ⟨a, b, c, vs, rfl, ha, hb, hc, hp⟩, ok, ⟨e, f, ks, rfl, he, hf, hks⟩, ro, ht, q⟩ := h
  have hv : vs.length = p.ws.length := paired_len hp
  have hl : ks.length = r.looks.length := paired_len hks
  have hwn := ok.wn
  have hln := ro.n1
  refine ⟨_, (pss_cons (ps_par (i := 3) (j := 4) rfl sc_timetable_of.nd rfl rfl (by decide) rfl rfl (pa_cons (pe_callB call_len (by rfl) (f_len T) bb_len (pa_cons (pe_ix ix_tup (pv 0) pe_int (fun _ _ => rfl)) pa_nil)) (pa_cons (pe_callB call_len (by rfl) (f_len T) bb_len (pa_cons (pe_ix ix_tup (pv 1) pe_int (fun _ _ => rfl)) pa_nil)) pa_nil)) (by rfl))
      (pss_cons (ps_set (i := 5) sc_timetable_of.nd rfl (Or.inl rfl) (pe_callTy call_tuple_of (by rfl) (f_tuple T) bb_tuple (pa_cons (pe_lc (own := [("at", 6)]) rfl sc_timetable_of.nd (pi_range1 (by rfl) (f_range T) (pa_cons (pv 3) pa_nil)) (blkOk_by (own := [("at", 6)]) (N := ["plan", "reader", "ticks", "writes", "looks", "pace", "at", "ahead", "rests"]) (sc := defScope s_timetable_of) (by decide +kernel)) (fun _ _ _ _ _ => (pg_name (i := 6) sc_timetable_of.nd rfl (Or.inl rfl))) (fun _ _ _ _ _ => pts_nil) (fun _ _ _ _ _ => (pe_op op_sub (pe_ix (ix_listK (K := K) rfl) (pv 2) (pe_op op_add (pv 6) pe_int) (fun _ _ => rfl)) (pe_ix (ix_listK (K := K) rfl) (pv 2) (pv 6) (fun _ _ => rfl))))) pa_nil)))
      (pss_cons (ps_set (i := 7) sc_timetable_of.nd rfl (Or.inl rfl) (pe_ix ix_list (pv 2) (pe_cut (pe_ifExp (pt_cmpR op_isN (pe_ix ix_tup (pv 1) pe_int (fun _ _ => rfl)) pe_non (nomark _)) pe_int (pe_op op_add (pe_ix ix_tup (pv 1) pe_int (fun _ _ => rfl)) pe_int))) (fun _ _ => rfl)))
      (pss_cons (ps_set (i := 8) sc_timetable_of.nd rfl (Or.inl rfl) (pe_lst pa_nil))
      (pss_cons (ps_for PassesOwn.never rfl (pi_range1 (by rfl) (f_range T) (pa_cons (pv 4) pa_nil)) (pg_name (i := 6) sc_timetable_of.nd rfl (Or.inl rfl)) (pss_cons (ps_expr (pe_bm PySem.F.plainAttrs_list PySem.F.slot_list_append PySem.F.type_list_append mt_append (pv 8) (pa_cons (pe_op op_sub (pe_ix ix_list (pv 2) (pe_op op_add (pe_op op_add pe_int (pv 3)) (pv 6)) (fun _ _ => rfl)) (pv 7)) pa_nil)))
      (pss_one (ps_set (i := 7) sc_timetable_of.nd rfl (Or.inl rfl) (pe_ix ix_list (pv 2) (pe_op op_add (pe_op op_add pe_int (pv 3)) (pv 6)) (fun _ _ => rfl))))))
      (pss_one (ps_ret (pe_tup (pa_cons (pv 5) (pa_cons (pe_callTy call_tuple_of (by rfl) (f_tuple T) bb_tuple (pa_cons (pv 8) pa_nil)) pa_nil)))))))))), ?_⟩
  refine ⟨_, rfl, _, _, _, _, rfl, rfl, ha, rfl, _, _, rfl, .inr ⟨_, hc, rfl⟩, _, rfl, _, _, _, _, rfl, rfl, he, rfl, _, _, rfl, .inr ⟨_, hf, rfl⟩, _, _, rfl, ?_⟩
  refine ⟨_, rfl, _, rfl, (by omega), (by omega), fun D hD => ?_⟩
  rw [Int.toNat_natCast]
  refine lc_range (lo := 0) (n := vs.length) (fun i H' => Kp [] H H' ∧ ∃ xs, H' D = some (.lst xs) ∧ xs.length ≤ i) ⟨.new hD, [], upd_same, Nat.le_refl _⟩ ?_ ?_
  · rintro i H1 hi ⟨k1, xs, hxs, hxl⟩
    rw [Int.zero_add]
    refine ⟨rfl, tyes ?_⟩
    refine iteT ?_
    have ht1 := k1.keep _ _ ht (by simp)
    have e1 : atI (intL (nEv p r) t) ((i : Nat) + 1 : Int) = some (.int (t (i + 1))) := by
      rw [show ((i : Nat) + 1 : Int) = ((i + 1 : Nat) : Int) by omega]
      exact intL_at (show i + 1 < 1 + p.ws.length + r.looks.length by omega)
    refine ⟨_, rfl, _, rfl, _, _, rfl, rfl, ta, _, _, _, rfl, rfl, SqL.of ht1, e1, _, rfl, _, rfl, ta, _, _, _, rfl, rfl, SqL.of ht1, intL_at (show i < 1 + p.ws.length + r.looks.length by omega), _, _, rfl, rfl, xs, hxs, small1000 (by omega), k1.putN hD, _, upd_same, by rw [List.length_append, List.length_singleton]; omega⟩
  rintro H1 ⟨k1, xs, hxs, hxl⟩
  refine ⟨D, _, rfl, .inl ⟨SqL.of hxs, fun pc hpc => ?_⟩⟩
  have k2 := k1.newT (o := .tup xs) hpc
  generalize upd H1 pc (.tup xs) = H2 at k2 ⊢
  have hp0 : prevEv p r 0 < 1 + p.ws.length := by
    show (match r.start with | none => 0 | some s => s + 1) < _
    cases hs : r.start with
    | none => show 0 < _; omega
    | some s => have := ro.st s hs; show s + 1 < _; omega
  have ht2 := k2.keep _ _ ht (by simp)
  refine ⟨_, rfl, fun v H' => H' = H2 ∧ v = .int (prevEv p r 0 : Nat), ?_, ?_⟩
  · refine ⟨_, rfl, _, _, _, _, rfl, rfl, kpT he k2, rfl, rfl, _, rfl, ?_⟩
    unfold prevEv
    cases hs : r.start with
    | none => exact iteDT rfl ⟨rfl, rfl⟩
    | some s =>
      exact iteDF (by intro z; cases z) ⟨_, rfl, _, _, _, _, rfl, rfl, kpT he k2, (by rw [hs]; rfl), _, _, rfl, rfl, rfl, rfl⟩
  rintro v H' ⟨rfl, rfl⟩
  refine ⟨ta, _, _, _, rfl, rfl, SqL.of ht2, intL_at (show prevEv p r 0 < 1 + p.ws.length + r.looks.length by omega), ?_⟩
  refine ⟨by show 0 ≤ sizeLine; decide, fun rs hrs => ?_⟩
  have k3 := k2.newT (o := .lst []) hrs
  have hrs3 : upd H' rs (.lst []) rs = some (.lst []) := upd_same
  have hrsH := k2.free hrs
  generalize upd H' rs (.lst []) = H3 at k3 hrs3 ⊢
  refine ⟨_, rfl, _, rfl, (by omega), (by omega), ?_⟩
  rw [Int.toNat_natCast]
  refine for_range (lo := 0) (n := ks.length) (fun i σ H' => ∃ o6 x xs, σ = [some (.ref a), some (.ref e), some (.ref ta), some (.int (vs.length : Nat)), some (.int (ks.length : Nat)), some (.ref pc), o6, some (.int x), some (.ref rs)] ∧ Kp [] H H' ∧ H' rs = some (.lst xs) ∧ xs.length ≤ i)
    ⟨_, _, [], rfl, k3, hrs3, Nat.le_refl _⟩ ?_ ?_
  · rintro i σ H4 hi ⟨o6, x, xs, rfl, k4, hxs, hxl⟩
    rw [Int.zero_add]
    have ht4 := k4.keep _ _ ht (by simp)
    have e1 : atI (intL (nEv p r) t) (1 + (vs.length : Nat) + (i : Nat) : Int) = some (.int (t (1 + p.ws.length + i))) := by
      rw [show (1 + (vs.length : Nat) + (i : Nat) : Int) = ((1 + p.ws.length + i : Nat) : Int) by omega]
      exact intL_at (show _ < 1 + p.ws.length + r.looks.length by omega)
    refine ⟨_, rfl, .inl ⟨rfl, _, SqL.of hxs⟩, _, rfl, _, rfl, _, _, rfl, rfl, _, rfl, _, _, rfl, rfl, ta, _, _, _, rfl, rfl, SqL.of ht4, e1, _, rfl, _, _, rfl, rfl, rs, _, _, rfl, rfl, hxs, small1000 (by omega), ?_⟩
    have k5 := k4.putN (p := rs) (o := .lst (xs ++ [V.int (t (1 + p.ws.length + i) - x)])) hrsH
    refine ⟨_, rfl, _, rfl, _, _, rfl, rfl, _, rfl, _, _, rfl, rfl, ta, _, _, _, rfl, rfl, SqL.of (k5.keep _ _ ht (by simp)), e1, ?_⟩
    exact ⟨_, _, _, rfl, k5, upd_same, by rw [List.length_append, List.length_singleton]; omega⟩
  · rintro σ H4 ⟨o6, x, xs, rfl, k4, hxs, hxl⟩
    refine ⟨_, rfl, _, rfl, rs, _, rfl, .inl ⟨SqL.of hxs, fun rt hrt => ⟨by show 2 ≤ sizeLine; decide, fun an han => q _ an ((k4.newT hrt).newT han)⟩⟩⟩
def sp_readings_of (K : PySem.W.Frag) : Sp := fun vs H Q _ => ∃ v u p r, vs = [v, u] ∧ IsPl K H v p ∧ p.Ok ∧ IsRdr K H u r ∧ r.Ok p ∧
  ∀ (H' : Hp) (a : Addr) (ys : List Str) (zs : List (List Nat)), Kp [] H H' → H a = none → H' a = some (.lst (ys.map V.str)) → ys.Perm (zs.map strL) → sortedS ys = true → zs.Nodup → (∀ z, z ∈ zs ↔ Rds p r z) → Q (.ref a) H'
theorem sc_readings_of : FnScope ["plan", "reader"] ["plan", "reader"] (defScope s_readings_of) := ⟨rfl, rfl, rfl, by decide +kernel, rfl, by decide +kernel, by decide +kernel⟩
theorem ok_readings_of (T : Txt w K mg) : FnOk P w K mg base CX0 5 (He.ga K "readings_of") (fdA K (He.ga K "readings_of")) ["plan", "reader"] (sp_readings_of K) := by
  have G_led_choices := ok_led_choices (P := P) (base := base) T
  refine (d_readings_of T).ok sc_readings_of (fun vs H Q E h => ?_) (fun cdv A outer s H vs Q E hr h => ?_)
  · obtain ⟨_, _, _, _, rfl, _⟩ := h; rfl
  obtain ⟨v, u, p, r, rfl, hP, ok, hR, ro, q⟩ := h
  refine ⟨_, (pss_one (ps_ret (pe_callB (call_sortedD rfl) (by rfl) (f_sorted T) bb_sorted (pa_cons (pcall (d_led_choices T) G_led_choices (hr.mono (by decide)) (pa_cons (pv 0) (pa_cons (pv 1) (pa_cons pe_non pa_nil)))) pa_nil)))), ?_⟩
  refine ⟨_, rfl, _, rfl, v, u, p, r, rfl, hP, ok, hR, ro, fun H1 D k1 hD hL => ?_⟩
  obtain ⟨kvs, zs, hD1, hkz, hnd, hrd, _⟩ := hL
  have h64 : zs.length < 64 := few ok ro hnd fun z hz => (hrd z).mp hz
  refine ⟨D, kvs, zs.map strL, rfl, .inl hD1, by rw [hkz, List.map_map]; rfl, by rw [List.length_map]; exact h64, fun ys a hp hs ha => ?_⟩
  exact q _ a ys zs (k1.newT ha) (k1.free ha) upd_same hp hs hnd hrd
end
end Ink
set_option linter.all false
namespace Ink
open PySem PySem.Spec PyProof.Rows L2
theorem ltC_irr : ∀ a : List Nat, ltCps a a = false
  | [] => rfl
  | x :: a => by simp [ltCps, ltC_irr a]
theorem ltC_tot : ∀ a b : List Nat, ltCps a b = false → ltCps b a = false → a = b
  | [], [], _, _ => rfl
  | [], _ :: _, h, _ => by cases h
  | _ :: _, [], _, h => by cases h
  | x :: a, y :: b, h1, h2 => by
    simp only [ltCps, Bool.or_eq_false_iff, decide_eq_false_iff_not, Bool.and_eq_false_iff, beq_eq_false_iff_ne, ne_eq] at h1 h2
    have e : x = y := by omega
    subst e
    rw [ltC_tot a b (by have := h1.2; simpa using this) (by have := h2.2; simpa using this)]
theorem ltC_trans : ∀ a b c : List Nat, ltCps b a = false → ltCps c b = false → ltCps c a = false
  | [], _, [], _, _ => rfl
  | [], [], _ :: _, _, h => by simpa [ltCps] using h
  | [], _ :: _, _ :: _, _, _ => rfl
  | _ :: _, [], _, h, _ => by simp [ltCps] at h
  | _ :: _, _ :: _, [], _, h => by simp [ltCps] at h
  | x :: a, y :: b, z :: c, h1, h2 => by
    simp only [ltCps, Bool.or_eq_false_iff, decide_eq_false_iff_not, Bool.and_eq_false_iff, beq_eq_false_iff_ne, ne_eq] at h1 h2 ⊢
    refine ⟨by omega, ?_⟩
    by_cases e : z = x
    · have e1 : y = x := by omega
      subst e1
      subst e
      exact .inr (ltC_trans a b c (by have := h1.2; simpa using this) (by have := h2.2; simpa using this))
    · exact .inl e
def leS (a b : Str) : Prop := ltCps b.cps.toList a.cps.toList = false
theorem rising_pw : ∀ (p : Str) (l : List Str), risingS p l = true → (p :: l).Pairwise leS
  | p, [], _ => by simp
  | p, x :: r, h => by
    have h' : (!ltCps x.cps.toList p.cps.toList && risingS x r) = true := h
    rw [Bool.and_eq_true] at h'
    have ih := rising_pw x r h'.2
    have hpx : leS p x := by simpa [leS] using h'.1
    rw [List.pairwise_cons]
    refine ⟨fun y hy => ?_, ih⟩
    rcases List.mem_cons.mp hy with e | e
    · rw [e]; exact hpx
    · exact ltC_trans _ _ _ hpx ((List.pairwise_cons.mp ih).1 y e)
theorem sorted_pw {l : List Str} (h : sortedS l = true) : l.Pairwise leS := by
  cases l with
  | nil => exact .nil
  | cons x r => exact rising_pw x r h
theorem sorted_eq : ∀ {l m : List Str}, l.Perm m → l.Pairwise leS → m.Pairwise leS → l = m
  | [], m, p, _, _ => by have := p.length_eq; cases m with
    | nil => rfl
    | cons _ _ => cases this
  | x :: l, m, p, h1, h2 => by
    cases m with
    | nil => have := p.length_eq; cases this
    | cons y m =>
      have exy : x = y := by
        have hx : x ∈ y :: m := p.mem_iff.mp List.mem_cons_self
        have hy : y ∈ x :: l := p.mem_iff.mpr List.mem_cons_self
        rcases List.mem_cons.mp hx with e | hx
        · exact e
        rcases List.mem_cons.mp hy with e | hy
        · exact e.symm
        have a := (List.pairwise_cons.mp h2).1 x hx
        have b := (List.pairwise_cons.mp h1).1 y hy
        have := ltC_tot _ _ a b
        have e2 : x.cps = y.cps := Array.toList_inj.mp this
        cases x; cases y
        exact congrArg Str.mk e2
      subst exy
      rw [sorted_eq (List.Perm.cons_inv p) (List.pairwise_cons.mp h1).2 (List.pairwise_cons.mp h2).2]
/-- the same things, each once, both sorted: the same list -/
theorem sorted_same {l m : List Str} {zs ws : List (List Nat)} (hl : l.Perm (zs.map strL)) (hm : m.Perm (ws.map strL)) (s1 : sortedS l = true) (s2 : sortedS m = true) (n1 : zs.Nodup) (n2 : ws.Nodup) (h : ∀ z, z ∈ zs ↔ z ∈ ws) : l = m := by
  have p : zs.Perm ws := (List.perm_ext_iff_of_nodup n1 n2).mpr h
  exact sorted_eq ((hl.trans (p.map strL)).trans hm.symm) (sorted_pw s1) (sorted_pw s2)
end Ink
set_option Elab.async false
set_option linter.all false
set_option pp.maxSteps 150
set_option maxRecDepth 100000
set_option maxHeartbeats 4000000
namespace Ink
open PySem PySem.Spec PyProof.Rows L2
/-! ### claims -/
inductive Cl where
  | sees (i c : Nat)
  | alike (i j : Nat)
  | not (a : Cl)
  | bin (o : Bool) (a b : Cl)
def bw (o : Bool) : Str := if o then "or" else "and"
def Cl.Ok (L : Nat) : Cl → Prop
  | .sees i c => i < L ∧ (c = 46 ∨ (97 ≤ c ∧ c ≤ 122))
  | .alike i j => i < L ∧ j < L
  | .not a => a.Ok L
  | .bin _ a b => a.Ok L ∧ b.Ok L
def Cl.ht : Cl → Nat
  | .sees _ _ => 0
  | .alike _ _ => 0
  | .not a => a.ht + 1
  | .bin _ a b => max a.ht b.ht + 1
def Cl.parts : Cl → Int
  | .sees _ _ => 1
  | .alike _ _ => 1
  | .not a => 1 + a.parts
  | .bin _ a b => 1 + (a.parts + b.parts)
def clSo (z : List Nat) : Cl → Bool
  | .sees i c => decide (z[i]? = some c)
  | .alike i j => decide (z[i]? = z[j]?)
  | .not a => !clSo z a
  | .bin o a b => if o then clSo z a || clSo z b else clSo z a && clSo z b
def IsCl (K : PySem.W.Frag) (H : Hp) : V → Cl → Prop
  | v, .sees i c => ∃ a, v = .ref a ∧ SqT K H a [.str "sees", .int (i : Nat), .str (sg c)]
  | v, .alike i j => ∃ a, v = .ref a ∧ SqT K H a [.str "alike", .int (i : Nat), .int (j : Nat)]
  | v, .not x => ∃ a u, v = .ref a ∧ SqT K H a [.str "not", u] ∧ IsCl K H u x
  | v, .bin o x y => ∃ a u t, v = .ref a ∧ SqT K H a [.str (bw o), u, t] ∧ IsCl K H u x ∧ IsCl K H t y
theorem IsCl.kp {K : PySem.W.Frag} {S : List Addr} {H H' : Hp} (k : Kp S H H') : ∀ {c : Cl} {v : V}, IsCl K H v c → IsCl K H' v c
  | .sees _ _, _, ⟨a, e, s⟩ => ⟨a, e, kpT s k⟩
  | .alike _ _, _, ⟨a, e, s⟩ => ⟨a, e, kpT s k⟩
  | .not x, _, ⟨a, u, e, s, h⟩ => ⟨a, u, e, kpT s k, IsCl.kp k h⟩
  | .bin o x y, _, ⟨a, u, t, e, s, h1, h2⟩ => ⟨a, u, t, e, kpT s k, IsCl.kp k h1, IsCl.kp k h2⟩
/-! its data, for == -/
def clD : Cl → PyData
  | .sees i c => .tuple [.str "sees", .int (i : Nat), .str (sg c)]
  | .alike i j => .tuple [.str "alike", .int (i : Nat), .int (j : Nat)]
  | .not x => .tuple [.str "not", clD x]
  | .bin o x y => .tuple [.str (bw o), clD x, clD y]
theorem clD_dp {K : PySem.W.Frag} {H : Hp} : ∀ {c : Cl} {v : V}, IsCl K H v c → Dp K H v (clD c)
  | .sees _ _, _, ⟨a, e, s⟩ => e ▸ .tup s (.cons (.str _) (.cons (.int _) (.cons (.str _) .nil)))
  | .alike _ _, _, ⟨a, e, s⟩ => e ▸ .tup s (.cons (.str _) (.cons (.int _) (.cons (.int _) .nil)))
  | .not x, _, ⟨a, u, e, s, h⟩ => e ▸ .tup s (.cons (.str _) (.cons (clD_dp h) .nil))
  | .bin o x y, _, ⟨a, u, t, e, s, h1, h2⟩ => e ▸ .tup s (.cons (.str _) (.cons (clD_dp h1) (.cons (clD_dp h2) .nil)))
theorem strOk_sg {c : Nat} (h : c < 0x110000) : PyData.strOk (sg c) = true := by
  show (#[c] : Array Nat).all (· < 0x110000) = true
  simp [h]
theorem clD_lay {L : Nat} : ∀ {c : Cl}, c.Ok L → (clD c).canLay0 = true
  | .sees i c, h => by
    have : PyData.strOk (sg c) = true := strOk_sg (by rcases h.2 with z | z <;> omega)
    show (PyData.strOk _ && (true && (PyData.strOk (sg c) && true))) = true
    rw [this]; decide +kernel
  | .alike i j, h => by show (PyData.strOk _ && (true && (true && true))) = true; decide +kernel
  | .not x, h => by
    show (PyData.strOk _ && ((clD x).canLay0 && true)) = true
    rw [clD_lay (c := x) h]; decide +kernel
  | .bin o x y, h => by
    show (PyData.strOk (bw o) && ((clD x).canLay0 && ((clD y).canLay0 && true))) = true
    rw [clD_lay h.1, clD_lay h.2]; cases o <;> decide +kernel
theorem clD_depth : ∀ c : Cl, (clD c).depth ≤ c.ht + 1
  | .sees i c => by show max 0 (max 0 (max 0 0)) + 1 ≤ 1; decide
  | .alike i j => by show max 0 (max 0 (max 0 0)) + 1 ≤ 1; decide
  | .not x => by have := clD_depth x; show max 0 (max (clD x).depth 0) + 1 ≤ x.ht + 1 + 1; omega
  | .bin o x y => by have := clD_depth x; have := clD_depth y; show max 0 (max (clD x).depth (max (clD y).depth 0)) + 1 ≤ max x.ht y.ht + 1 + 1; omega
theorem clD_shaped {L : Nat} {c : Cl} (h : c.Ok L) (hh : c.ht < 20) : SeqAt.shaped (clD c) = true := by
  unfold SeqAt.shaped
  rw [clD_lay h, decide_eq_true (by have := clD_depth c; omega)]
  rfl
theorem clD_ne (c : Cl) : PyData.eqv (clD c) (.tuple []) = false := by cases c <;> rfl
/-! the parts -/
structure Sub (K : PySem.W.Frag) (H : Hp) (L : Nat) (c : Cl) (a : Addr) (wd : Str) (us : List V) (cs : List Cl) : Prop where
  sq : SqT K H a (.str wd :: us)
  is : Paired (IsCl K H) us cs
  ok : ∀ x ∈ cs, x.Ok L ∧ x.ht < c.ht
  pa : c.parts = 1 + (cs.map Cl.parts).sum
  wd : (wd = "not" ∧ us.length = 1) ∨ (wd = "and" ∧ us.length = 2) ∨ (wd = "or" ∧ us.length = 2)
theorem sub_not {K : PySem.W.Frag} {H : Hp} {L : Nat} {x : Cl} {v : V} (h : IsCl K H v (.not x)) (ok : (Cl.not x).Ok L) : ∃ a wd us cs, v = .ref a ∧ Sub K H L (.not x) a wd us cs := by
  obtain ⟨a, u, e, s, h⟩ := h
  exact ⟨a, _, [u], [x], e, s, .cons h .nil, fun y hy => (by
    have : y = x := by simpa using hy
    subst this
    exact ⟨ok, Nat.lt_succ_self _⟩), by simp [Cl.parts], .inl ⟨rfl, rfl⟩⟩
theorem sub_bin {K : PySem.W.Frag} {H : Hp} {L : Nat} {o : Bool} {x y : Cl} {v : V} (h : IsCl K H v (.bin o x y)) (ok : (Cl.bin o x y).Ok L) : ∃ a wd us cs, v = .ref a ∧ Sub K H L (.bin o x y) a wd us cs := by
  obtain ⟨a, u, t, e, s, h1, h2⟩ := h
  refine ⟨a, _, [u, t], [x, y], e, s, .cons h1 (.cons h2 .nil), fun z hz => ?_, by simp [Cl.parts], ?_⟩
  · have hz' : z = x ∨ z = y := by simpa using hz
    rcases hz' with q | q
    · subst q; exact ⟨ok.1, by show z.ht < max z.ht y.ht + 1; omega⟩
    · subst q; exact ⟨ok.2, by show z.ht < max x.ht z.ht + 1; omega⟩
  · cases o
    · exact .inr (.inl ⟨rfl, rfl⟩)
    · exact .inr (.inr ⟨rfl, rfl⟩)
theorem at0 (x : V) (xs : List V) : atI (x :: xs) 0 = some x := atI_nat (j := 0) rfl
theorem inV_non : ∀ ns : List Int, inV .non (ns.map V.int) = false
  | [] => rfl
  | n :: ns => inV_non ns
theorem flat_ints : ∀ ns : List Int, (ns.map V.int).all flatV = true
  | [] => rfl
  | n :: ns => flat_ints ns
abbrev pw3 : List (Key × V) := [(.inr "not", .int 2), (.inr "and", .int 3), (.inr "or", .int 3)]
section
variable {P : Program} {w : World} {K : PySem.W.Frag} {mg : Str → Option Value} {base : Heap}
def sp_parts_of (K : PySem.W.Frag) (h : Nat) : Sp := fun vs H Q _ => ∃ (L : Nat) (v : V) (c : Cl), vs = [.int (L : Nat), v] ∧ IsCl K H v c ∧ c.Ok L ∧ c.ht < h ∧ c.ht < 20 ∧ ∀ H', Kp [] H H' → Q (.int c.parts) H'
theorem sc_parts_of : FnScope ["looks", "value", "word", "told", "part"] ["looks", "value"] (defScope s_parts_of) := ⟨rfl, rfl, rfl, by decide +kernel, rfl, by decide +kernel, by decide +kernel⟩
theorem ok_parts_of (T : Txt w K mg) : ∀ h, FnOk P w K mg base CX0 (h + 3) (He.ga K "parts_of") (fdA K (He.ga K "parts_of")) ["looks", "value"] (sp_parts_of K h)
  | 0 => (d_parts_of T).ok sc_parts_of (fun vs H Q E h => by obtain ⟨_, _, _, rfl, _⟩ := h; rfl) (fun cdv A outer s H vs Q E hr h => by obtain ⟨_, _, _, _, _, _, z, _⟩ := h; exact absurd z (Nat.not_lt_zero _))
  | h + 1 => by
    have G_parts_of := ok_parts_of T h
    have G_is_from := ok_is_from (P := P) (base := base) T
    have G_is_sign := ok_is_sign (P := P) (base := base) T
    refine (d_parts_of T).ok sc_parts_of (fun vs H Q E h => ?_) (fun cdv A outer s H vs Q E hr h => ?_)
    · obtain ⟨_, _, _, rfl, _⟩ := h; rfl
    rename_i hh
    obtain ⟨L, v, c, rfl, hc, ok, hlt, h20, q⟩ := h
    refine ⟨_, (pss_cons (ps_if (PW.pt (pw_or (pt_not (pt_val (pe_callB call_isi (by rfl) (f_isinstance T) bb_isinstance (pa_cons (pv 1) (pa_cons (pe_bltn (v := .ty "tuple") (by rfl) (f_tuple T) bb_tuple rfl) pa_nil))))) (pw_or (pt_cmpR (op_eqD hr.units) (pv 1) (pe_tup pa_nil) (nomark _)) (pw_or1 (pt_not (pt_val (pe_callB call_isi (by rfl) (f_isinstance T) bb_isinstance (pa_cons (pe_ix ix_tup (pv 1) pe_int (fun _ _ => rfl)) (pa_cons (pe_bltn (v := .ty "str") (by rfl) (f_str T) bb_str rfl) pa_nil))))))))) (pss_one (ps_ret pe_non)) pss_nil)
      (pss_cons (ps_set (i := 2) sc_parts_of.nd rfl (Or.inl rfl) (pe_ix ix_tup (pv 1) pe_int (fun _ _ => rfl)))
      (pss_cons (ps_if (PW.pt (pw_and (pt_cmpR op_eq (pv 2) pe_str (nomark _)) (pw_and1 (pt_cmpR op_eq (pe_callB call_len (by rfl) (f_len T) bb_len (pa_cons (pv 1) pa_nil)) pe_int (nomark _))))) (pss_one (ps_ret (pe_ifExp (PW.pt (pw_and (pt_val (pcall (d_is_from T) G_is_from (hr.mono (by omega)) (pa_cons (pe_ix ix_tup (pv 1) pe_int (fun _ _ => rfl)) (pa_cons pe_int (pa_cons (pe_op op_sub (pv 0) pe_int) pa_nil))))) (pw_and1 (PW.pt (pw_or (pt_cmpR op_eq (pe_ix ix_tup (pv 1) pe_int (fun _ _ => rfl)) (pgs (i_BARE T)) (nomark _)) (pw_or1 (pt_val (pcall (d_is_sign T) G_is_sign (hr.mono (by omega)) (pa_cons (pe_ix ix_tup (pv 1) pe_int (fun _ _ => rfl)) pa_nil))))))))) pe_int pe_non))) pss_nil)
      (pss_cons (ps_if (PW.pt (pw_and (pt_cmpR op_eq (pv 2) pe_str (nomark _)) (pw_and1 (pt_cmpR op_eq (pe_callB call_len (by rfl) (f_len T) bb_len (pa_cons (pv 1) pa_nil)) pe_int (nomark _))))) (pss_one (ps_ret (pe_ifExp (PW.pt (pw_and (pt_val (pcall (d_is_from T) G_is_from (hr.mono (by omega)) (pa_cons (pe_ix ix_tup (pv 1) pe_int (fun _ _ => rfl)) (pa_cons pe_int (pa_cons (pe_op op_sub (pv 0) pe_int) pa_nil))))) (pw_and1 (pt_val (pcall (d_is_from T) G_is_from (hr.mono (by omega)) (pa_cons (pe_ix ix_tup (pv 1) pe_int (fun _ _ => rfl)) (pa_cons pe_int (pa_cons (pe_op op_sub (pv 0) pe_int) pa_nil)))))))) pe_int pe_non))) pss_nil)
      (pss_cons (ps_if (pt_cmpR op_ne (pe_callB call_len (by rfl) (f_len T) bb_len (pa_cons (pv 1) pa_nil)) (pe_dget1 (hu_of hr) (pe_disp (pps_cons pe_str pe_int (pps_cons pe_str pe_int (pps_cons pe_str pe_int pps_nil))) (by rfl) (by rfl) (fun z => by cases z) (by decide)) (pv 2) ⟨rfl, rfl, rfl, rfl⟩) (nomark _)) (pss_one (ps_ret pe_non)) pss_nil)
      (pss_cons (ps_setLc (i := 3) (own := [("part", 4)]) rfl sc_parts_of.nd rfl rfl (sw_true rfl rfl rfl (by decide +kernel)) (pi_tup (pe_slice sl_tupA (pv 1) (po_some pe_int) po_none)) (blkOk_by (own := [("part", 4)]) (N := ["looks", "value", "word", "told", "part"]) (sc := defScope s_parts_of) (by decide +kernel)) (fun _ _ _ _ _ => (pg_name (i := 4) sc_parts_of.nd rfl (Or.inl rfl))) (fun _ _ _ _ _ => pts_nil) (fun _ _ _ _ _ => (pcall (d_parts_of T) G_parts_of (hr.mono (by omega)) (pa_cons (pv 0) (pa_cons (pv 4) pa_nil)))))
      (pss_one (ps_ret (pe_ifExp (pt_cmpR op_in_seq pe_non (pv 3) (by with_unfolding_all rfl)) pe_non (pe_op op_add pe_int (pe_callB (cr_sum rfl) (by rfl) (f_sum T) bb_sum (pa_cons (pv 3) pa_nil)))))))))))), ?_⟩
    -- the head, whatever it is
    have hd : ∃ (a : Addr) (wd : Str) (r : List V), v = .ref a ∧ SqT K H a (.str wd :: r) ∧ ((∃ i ch : Nat, c = .sees i ch ∧ wd = "sees" ∧ r = [.int (i : Nat), .str (sg ch)]) ∨ (∃ i j : Nat, c = .alike i j ∧ wd = "alike" ∧ r = [.int (i : Nat), .int (j : Nat)]) ∨ ∃ cs, Sub K H L c a wd r cs) := by
      cases c with
      | sees i c => obtain ⟨a, e, s⟩ := hc; exact ⟨a, _, _, e, s, .inl ⟨i, c, rfl, rfl, rfl⟩⟩
      | alike i c => obtain ⟨a, e, s⟩ := hc; exact ⟨a, _, _, e, s, .inr (.inl ⟨i, c, rfl, rfl, rfl⟩)⟩
      | not x => obtain ⟨a, wd, us, cs, e, s⟩ := sub_not hc ok; exact ⟨a, _, _, e, s.sq, .inr (.inr ⟨cs, s⟩)⟩
      | bin o x y => obtain ⟨a, wd, us, cs, e, s⟩ := sub_bin hc ok; exact ⟨a, _, _, e, s.sq, .inr (.inr ⟨cs, s⟩)⟩
    obtain ⟨a, wd, r, rfl, ha, kind⟩ := hd
    refine ⟨_, rfl, _, _, _, _, _, rfl, .ty _, tyT ha, kit_tt, _, rfl, iteF ?_⟩
    refine ⟨_, rfl, by show 0 ≤ sizeLine; decide, fun t0 ht0 => ?_⟩
    have k0 : Kp [] H (upd H t0 (.tup [])) := .new ht0
    refine ⟨_, _, clD_dp (hc.kp k0), .tup (SqT.of upd_same) .nil, clD_shaped ok h20, rfl, _, rfl, ?_⟩
    rw [clD_ne]
    refine iteF ?_
    generalize upd H t0 (.tup []) = H0 at k0 ⊢
    have ha0 := kpT ha k0
    refine ⟨_, rfl, a, _, _, _, rfl, rfl, ha0, at0 _ _, _, _, _, _, _, rfl, .ty _, .base (.str _), kit_ss, _, rfl, iteF ?_⟩
    refine ⟨_, rfl, a, _, _, _, rfl, rfl, ha0, at0 _ _, ?_⟩
    rcases kind with ⟨i, ch, rfl, rfl, rfl⟩ | ⟨i, j, rfl, rfl, rfl⟩ | ⟨cs, hs⟩
    · refine ⟨_, rfl, rfl, _, rfl, iteDT rfl ⟨_, rfl, _, _, rfl, .inr ⟨_, ha0, rfl⟩, rfl, _, rfl, iteDT rfl ?_⟩⟩
      refine ⟨_, rfl, a, _, _, _, rfl, rfl, ha0, rfl, _, rfl, _, _, rfl, rfl, _, _, _, rfl, (by omega), (by have := ok.1; omega), _, rfl, iteT ?_⟩
      refine ⟨_, rfl, a, _, _, _, rfl, rfl, ha0, rfl, rfl, _, rfl, ?_⟩
      rcases ok.2 with rfl | ⟨h1, h2⟩
      · exact iteDT (by decide +kernel) (iteT (q _ k0))
      · refine iteDF (by intro z; have z := congrArg Str.cps (V.str.inj z); have z2 := congrArg (fun (x : Array Nat) => x[0]?) z; have z3 : some ch = some 46 := z2; cases z3; omega) ?_
        exact ⟨_, rfl, a, _, _, _, rfl, rfl, ha0, rfl, _, rfl, h1, h2, _, rfl, iteT (q _ k0)⟩
    · refine ⟨_, rfl, rfl, _, rfl, iteDF (by decide +kernel) (iteF ?_)⟩
      refine ⟨_, rfl, rfl, _, rfl, iteDT rfl ⟨_, rfl, _, _, rfl, .inr ⟨_, ha0, rfl⟩, rfl, _, rfl, iteDT rfl ?_⟩⟩
      refine ⟨_, rfl, a, _, _, _, rfl, rfl, ha0, rfl, _, rfl, _, _, rfl, rfl, _, _, _, rfl, (by omega), (by have := ok.1; omega), _, rfl, iteT ?_⟩
      exact ⟨_, rfl, a, _, _, _, rfl, rfl, ha0, rfl, _, rfl, _, _, rfl, rfl, _, _, _, rfl, (by omega), (by have := ok.2; omega), _, rfl, iteT (q _ k0)⟩
    · have w1 : ¬ (V.str wd = V.str "sees") := by rcases hs.wd with ⟨rfl, _⟩ | ⟨rfl, _⟩ | ⟨rfl, _⟩ <;> decide +kernel
      have w2 : ¬ (V.str wd = V.str "alike") := by rcases hs.wd with ⟨rfl, _⟩ | ⟨rfl, _⟩ | ⟨rfl, _⟩ <;> decide +kernel
      have w3 : valV (mergeK [] pw3) (.inr wd) = some (.int ((r.length + 1 : Nat) : Int)) := by
        rcases hs.wd with ⟨rfl, e⟩ | ⟨rfl, e⟩ | ⟨rfl, e⟩ <;> rw [e] <;> decide +kernel
      have rl : 1 ≤ r.length ∧ r.length ≤ 2 := by rcases hs.wd with ⟨_, e⟩ | ⟨_, e⟩ | ⟨_, e⟩ <;> omega
      refine ⟨_, rfl, rfl, _, rfl, iteDF w1 (iteF ?_)⟩
      refine ⟨_, rfl, rfl, _, rfl, iteDF w2 (iteF ?_)⟩
      refine ⟨_, rfl, _, _, rfl, .inr ⟨_, ha0, rfl⟩, fun dd hdd => ⟨upd_same, pw3, rfl, by decide, ?_⟩⟩
      have k1 : Kp [] H (upd (upd H0 dd (.dK [])) dd (.dK (mergeK [] pw3))) := ((k0.newT hdd).putN (k0.free hdd))
      have hdd1 : upd (upd H0 dd (.dK [])) dd (.dK (mergeK [] pw3)) dd = some (.dK (mergeK [] pw3)) := upd_same
      generalize upd (upd H0 dd (.dK [])) dd (.dK (mergeK [] pw3)) = H1 at k1 hdd1 ⊢
      refine ⟨dd, rfl, .inl ⟨_, .inl hdd1⟩, _, rfl, _, DGet.k (k := .inr wd) hdd1, ?_⟩
      rw [w3]
      refine ⟨rfl, _, rfl, iteNF rfl ?_⟩
      -- the parts
      have ha1 := kpT ha k1
      have hsx : HT.sIx (.str wd :: r).length 0 (some 1) = 1 := by
        rw [show (some (1 : Int)) = some ((1 : Nat) : Int) from rfl, HT.sIx_nat, List.length_cons]; omega
      refine ⟨_, rfl, _, rfl, a, _, rfl, ha1, fun z => ?_, fun _ tp htp => ?_⟩
      · exfalso
        have := z.1
        rw [hsx] at this
        omega
      have ecut : cutV (.str wd :: r) (some 1) none = r := by
        unfold cutV
        rw [hsx, HT.sIx_none]
        show r.take ((r.length + 1) - 1) = r
        rw [Nat.add_sub_cancel, List.take_length]
      rw [ecut]
      have k2 := k1.newT (p := tp) (o := .tup r) htp
      have htp2 : SqT K (upd H1 tp (.tup r)) tp r := SqT.of upd_same
      generalize upd H1 tp (.tup r) = H2 at k2 htp2 ⊢
      have hrl : r.length = cs.length := paired_len hs.is
      refine ⟨tp, rfl, ⟨_, htp2⟩, fun D hD => lc_tup (xs := r) (fun i H' => Kp [] H2 H' ∧ H' D = some (.lst (((cs.take i).map Cl.parts).map V.int))) ⟨.new hD, upd_same⟩ (fun i H' _ h => kpT htp2 h.1) ?_ ?_⟩
      · rintro i x H3 hx ⟨k3, hD3⟩
        obtain ⟨y, hy, hxy⟩ := paired_at hs.is hx
        have hi : i < cs.length := (List.getElem?_eq_some_iff.mp hy).1
        obtain ⟨yok, yht⟩ := hs.ok y (List.mem_of_getElem? hy)
        refine ⟨rfl, tyes ?_⟩
        refine iteT ?_
        refine ⟨_, rfl, _, rfl, L, _, y, rfl, hxy.kp (k2.trans k3), yok, by omega, by omega, fun H4 k4 => ?_⟩
        refine ⟨_, k4.keep _ _ hD3 (by simp), small1000 (by rw [List.length_map, List.length_map, List.length_take]; omega), (k3.trans k4).putN hD, ?_⟩
        rw [upd_same, List.take_succ, hy, List.map_append, List.map_append]
        rfl
      · rintro H3 ⟨k3, hD3⟩
        rw [hrl, List.take_length] at hD3
        have hSq := SqL.of (K := K) hD3
        refine ⟨_, rfl, D, _, rfl, .inl hSq, rfl, flat_ints _, ?_⟩
        show ∃ k, V.bl (inV .non _) = V.bl k ∧ _
        rw [inV_non]
        refine ⟨_, rfl, iteF ?_⟩
        refine ⟨_, rfl, D, _, rfl, hSq, _, _, rfl, rfl, ?_⟩
        have := q _ (k2.trans k3)
        rw [hs.pa] at this
        exact this
end
end Ink
set_option Elab.async false
set_option linter.all false
set_option pp.maxSteps 150
set_option maxRecDepth 100000
set_option maxHeartbeats 4000000
namespace Ink
open PySem PySem.Spec PyProof.Rows L2
theorem sg_inj {a b : Nat} (h : V.str (sg a) = V.str (sg b)) : a = b := by
  have h1 : sg a = sg b := V.str.inj h
  have h2 : #[a] = #[b] := congrArg Str.cps h1
  have h3 := congrArg Array.toList h2
  exact (List.cons.inj h3).1
theorem dec_sg (a b : Nat) : decide (V.str (sg a) = V.str (sg b)) = decide ((some a : Option Nat) = some b) := by
  by_cases h : a = b
  · subst h; rw [decide_eq_true rfl, decide_eq_true rfl]
  · rw [decide_eq_false (fun z => h (sg_inj z)), decide_eq_false (fun z => h (Option.some.inj z))]
theorem val_key {kvs : List (Key × V)} {k : Key} (h : k ∈ kvs.map (·.1)) : ∃ v, valV kvs k = some v ∧ (k, v) ∈ kvs := by
  cases e : valV kvs k with
  | some v =>
    refine ⟨v, rfl, ?_⟩
    unfold valV at e
    obtain ⟨p, hp, rfl⟩ := Option.map_eq_some_iff.mp e
    have h1 := List.mem_of_find?_eq_some hp
    have h2 : p.1 = k := by have := List.find?_some hp; exact of_decide_eq_true this
    subst h2
    exact h1
  | none =>
    unfold valV at e
    rw [Option.map_eq_none_iff, List.find?_eq_none] at e
    obtain ⟨p, hp, rfl⟩ := List.mem_map.mp h
    exact absurd (decide_eq_true rfl) (e p hp)
theorem rds_len {p : Pl} {r : Rdr} {z : List Nat} (h : Rds p r z) : z.length = r.looks.length := by
  obtain ⟨q, _, rfl⟩ := h
  unfold readP
  rw [List.length_map, List.length_range]
theorem rds_codes {p : Pl} (ok : p.Ok) {r : Rdr} {z : List Nat} (h : Rds p r z) : ∀ c ∈ z, c ≤ 122 := by
  obtain ⟨q, _, rfl⟩ := h
  intro c hc
  obtain ⟨j, _, rfl⟩ := List.mem_map.mp hc
  have : seeJ p r q j ∈ signsOf p := seenN_mem _ _ _ _ _
  rcases List.mem_cons.mp this with e | e
  · omega
  · obtain ⟨x, hx, e⟩ := List.mem_map.mp e
    have := (ok.ws x hx).s1
    omega
theorem strOk_L {z : List Nat} (h : ∀ c ∈ z, c ≤ 122) : PyData.strOk (strL z) = true := by
  show z.toArray.all (· < 0x110000) = true
  rw [Array.all_eq_true]
  intro i hi
  have := h _ (List.getElem_mem (by simpa using hi : i < z.length))
  simp only [List.getElem_toArray, decide_eq_true_eq]
  omega
theorem dp_strs {K : PySem.W.Frag} {H : Hp} : ∀ zs : List (List Nat), DpAll K H (zs.map fun z => V.str (strL z)) (zs.map fun z => PyData.str (strL z))
  | [] => .nil
  | z :: zs => .cons (.str _) (dp_strs zs)
theorem lay_strs : ∀ {zs : List (List Nat)}, (∀ z ∈ zs, ∀ c ∈ z, c ≤ 122) → PyData.canLayAll0 (zs.map fun z => PyData.str (strL z)) = true ∧ PyData.depthAll (zs.map fun z => PyData.str (strL z)) = 0
  | [], _ => ⟨rfl, rfl⟩
  | z :: zs, h => by
    obtain ⟨h1, h2⟩ := lay_strs (zs := zs) fun y hy => h y (List.mem_cons_of_mem _ hy)
    refine ⟨?_, ?_⟩
    · show (PyData.strOk (strL z) && PyData.canLayAll0 _) = true
      rw [h1, strOk_L (h z List.mem_cons_self)]; rfl
    · show max 0 (PyData.depthAll _) = 0
      rw [h2]; rfl
theorem shaped_strs {zs : List (List Nat)} (h : ∀ z ∈ zs, ∀ c ∈ z, c ≤ 122) : SeqAt.shaped (.list (zs.map fun z => PyData.str (strL z))) = true := by
  obtain ⟨h1, h2⟩ := lay_strs h
  have e1 : (PyData.list (zs.map fun z => PyData.str (strL z))).canLay0 = true := h1
  have e2 : (PyData.list (zs.map fun z => PyData.str (strL z))).depth ≤ 64 := by show PyData.depthAll _ + 1 ≤ 64; rw [h2]; decide
  unfold SeqAt.shaped
  rw [e1, decide_eq_true e2]
  rfl
def unS (s : Str) : List Nat := s.cps.toList
theorem strL_unS (s : Str) : strL (unS s) = s := rfl
theorem unS_strL (z : List Nat) : unS (strL z) = z := rfl
section
variable {P : Program} {w : World} {K : PySem.W.Frag} {mg : Str → Option Value} {base : Heap}
def sp_need_claim (K : PySem.W.Frag) : Sp := fun vs H Q _ => ∃ (L : Nat) (v : V) (c : Cl), vs = [.int (L : Nat), v] ∧ IsCl K H v c ∧ c.Ok L ∧ c.ht < 4 ∧ c.parts ≤ 20 ∧ ∀ H', Kp [] H H' → Q .non H'
theorem sc_need_claim : FnScope ["looks", "value", "many"] ["looks", "value"] (defScope s_need_claim) := ⟨rfl, rfl, rfl, by decide +kernel, rfl, by decide +kernel, by decide +kernel⟩
theorem ok_need_claim (T : Txt w K mg) : FnOk P w K mg base CX0 8 (He.ga K "need_claim") (fdA K (He.ga K "need_claim")) ["looks", "value"] (sp_need_claim K) := by
  have G_parts_of := ok_parts_of (P := P) (base := base) T 4
  refine (d_need_claim T).ok sc_need_claim (fun vs H Q E h => ?_) (fun cdv A outer s H vs Q E hr h => ?_)
  · obtain ⟨_, _, _, rfl, _⟩ := h; rfl
  obtain ⟨L, v, c, rfl, hc, ok, hh, hp, q⟩ := h
  refine ⟨_, (pss_cons (ps_set (i := 2) sc_need_claim.nd rfl (Or.inl rfl) (pcall (d_parts_of T) G_parts_of (hr.mono (by decide)) (pa_cons (pv 0) (pa_cons (pv 1) pa_nil))))
      (pss_one (ps_if (PW.pt (pw_or (pt_cmpR op_isN (pv 2) pe_non (nomark _)) (pw_or1 (pt_cmpR op_gt (pv 2) (pgi (i_MOST_PARTS T)) (nomark _))))) pss_never pss_nil))), ?_⟩
  refine ⟨_, rfl, _, rfl, L, v, c, rfl, hc, ok, hh, by omega, fun H1 k1 => ?_⟩
  exact ⟨_, rfl, rfl, _, rfl, iteDF (by intro z; cases z) ⟨_, rfl, _, _, rfl, rfl, _, rfl, iteDF (by omega) (q _ k1)⟩⟩
def sp_is_told (K : PySem.W.Frag) (h : Nat) : Sp := fun vs H Q _ => ∃ (z : List Nat) (v : V) (c : Cl), vs = [.str (strL z), v] ∧ IsCl K H v c ∧ c.Ok z.length ∧ c.ht < h ∧ z.length ≤ 2 ∧ Q (.bl (clSo z c)) H
theorem sc_is_told : FnScope ["reading", "claim", "word", "one", "other"] ["reading", "claim"] (defScope s_is_told) := ⟨rfl, rfl, rfl, by decide +kernel, rfl, by decide +kernel, by decide +kernel⟩
theorem ok_is_told (T : Txt w K mg) : ∀ h, FnOk P w K mg base CX0 (h + 1) (He.ga K "is_told") (fdA K (He.ga K "is_told")) ["reading", "claim"] (sp_is_told K h)
  | 0 => (d_is_told T).ok sc_is_told (fun vs H Q E h => by obtain ⟨_, _, _, rfl, _⟩ := h; rfl) (fun cdv A outer s H vs Q E hr h => by obtain ⟨_, _, _, _, _, _, z, _⟩ := h; exact absurd z (Nat.not_lt_zero _))
  | h + 1 => by
    have G_is_told := ok_is_told T h
    refine (d_is_told T).ok sc_is_told (fun vs H Q E h => ?_) (fun cdv A outer s H vs Q E hr h => ?_)
    · obtain ⟨_, _, _, rfl, _⟩ := h; rfl
    obtain ⟨z, v, c, rfl, hc, ok, hlt, hz, q⟩ := h
    have hzl : (strL z).length ≤ sizeLine := Nat.le_trans hz (by decide)
    refine ⟨_, (pss_cons (ps_set (i := 2) sc_is_told.nd rfl (Or.inl rfl) (pe_ix ix_tup (pv 1) pe_int (fun _ _ => rfl)))
      (pss_cons (ps_if (pt_cmpR op_eq (pv 2) pe_str (nomark _)) (pss_one (ps_ret (pe_cmpR op_eq (pe_ix ix_str (pv 0) (pe_ix ix_tup (pv 1) pe_int (fun _ _ => rfl)) (fun _ _ => rfl)) (pe_ix ix_tup (pv 1) pe_int (fun _ _ => rfl)) (nomark _)))) pss_nil)
      (pss_cons (ps_if (pt_cmpR op_eq (pv 2) pe_str (nomark _)) (pss_one (ps_ret (pe_cmpR op_eq (pe_ix ix_str (pv 0) (pe_ix ix_tup (pv 1) pe_int (fun _ _ => rfl)) (fun _ _ => rfl)) (pe_ix ix_str (pv 0) (pe_ix ix_tup (pv 1) pe_int (fun _ _ => rfl)) (fun _ _ => rfl)) (nomark _)))) pss_nil)
      (pss_cons (ps_if (pt_cmpR op_eq (pv 2) pe_str (nomark _)) (pss_one (ps_ret (pe_not (pcall (d_is_told T) G_is_told (hr.mono (by omega)) (pa_cons (pv 0) (pa_cons (pe_ix ix_tup (pv 1) pe_int (fun _ _ => rfl)) pa_nil)))))) pss_nil)
      (pss_cons (ps_par (i := 3) (j := 4) rfl sc_is_told.nd rfl rfl (by decide) rfl rfl (pa_cons (pcall (d_is_told T) G_is_told (hr.mono (by omega)) (pa_cons (pv 0) (pa_cons (pe_ix ix_tup (pv 1) pe_int (fun _ _ => rfl)) pa_nil))) (pa_cons (pcall (d_is_told T) G_is_told (hr.mono (by omega)) (pa_cons (pv 0) (pa_cons (pe_ix ix_tup (pv 1) pe_int (fun _ _ => rfl)) pa_nil))) pa_nil)) (by rfl))
      (pss_one (ps_ret (pe_ifExp (pt_cmpR op_eq (pv 2) pe_str (nomark _)) (pe_and (pv 3) (pe_one (pv 4))) (pe_or (pv 3) (pe_one (pv 4))))))))))), ?_⟩
    cases c with
    | sees i ch =>
      obtain ⟨a, rfl, ha⟩ := hc
      have e1 : z[i]? = some (z[i]'ok.1) := List.getElem?_eq_getElem ok.1
      refine ⟨_, rfl, a, _, _, _, rfl, rfl, ha, rfl, _, rfl, rfl, _, rfl, iteDT rfl ?_⟩
      refine ⟨_, rfl, _, rfl, a, _, _, _, rfl, rfl, ha, rfl, _, _, _, rfl, rfl, hzl, atI_nat e1, _, rfl, a, _, _, _, rfl, rfl, ha, rfl, rfl, ?_⟩
      refine qb ?_ q
      show decide (V.str (sg _) = V.str (sg ch)) = decide (z[i]? = some ch)
      rw [e1]
      exact dec_sg _ _
    | alike i j =>
      obtain ⟨a, rfl, ha⟩ := hc
      have e1 : z[i]? = some (z[i]'ok.1) := List.getElem?_eq_getElem ok.1
      have e2 : z[j]? = some (z[j]'ok.2) := List.getElem?_eq_getElem ok.2
      refine ⟨_, rfl, a, _, _, _, rfl, rfl, ha, rfl, _, rfl, rfl, _, rfl, iteDF (by decide +kernel) ?_⟩
      refine ⟨_, rfl, rfl, _, rfl, iteDT rfl ?_⟩
      refine ⟨_, rfl, _, rfl, a, _, _, _, rfl, rfl, ha, rfl, _, _, _, rfl, rfl, hzl, atI_nat e1, _, rfl, _, rfl, a, _, _, _, rfl, rfl, ha, rfl, _, _, _, rfl, rfl, hzl, atI_nat e2, rfl, ?_⟩
      refine qb ?_ q
      show decide (V.str (sg _) = V.str (sg _)) = decide (z[i]? = z[j]?)
      rw [e1, e2]
      exact dec_sg _ _
    | not x =>
      obtain ⟨a, u, rfl, ha, hx⟩ := hc
      have hht : x.ht < h := Nat.lt_of_succ_lt_succ hlt
      refine ⟨_, rfl, a, _, _, _, rfl, rfl, ha, rfl, _, rfl, rfl, _, rfl, iteDF (by decide +kernel) ?_⟩
      refine ⟨_, rfl, rfl, _, rfl, iteDF (by decide +kernel) ?_⟩
      refine ⟨_, rfl, rfl, _, rfl, iteDT rfl ?_⟩
      exact ⟨_, rfl, _, rfl, a, _, _, _, rfl, rfl, ha, rfl, z, u, x, rfl, hx, ok, hht, hz, _, rfl, q⟩
    | bin o x y =>
      obtain ⟨a, u, t, rfl, ha, hx, hy⟩ := hc
      have hht : max x.ht y.ht < h := Nat.lt_of_succ_lt_succ hlt
      have w1 : ¬ (V.str (bw o) = V.str "sees") := by cases o <;> decide +kernel
      have w2 : ¬ (V.str (bw o) = V.str "alike") := by cases o <;> decide +kernel
      have w3 : ¬ (V.str (bw o) = V.str "not") := by cases o <;> decide +kernel
      refine ⟨_, rfl, a, _, _, _, rfl, rfl, ha, rfl, _, rfl, rfl, _, rfl, iteDF w1 ?_⟩
      refine ⟨_, rfl, rfl, _, rfl, iteDF w2 ?_⟩
      refine ⟨_, rfl, rfl, _, rfl, iteDF w3 ?_⟩
      refine ⟨_, rfl, _, rfl, a, _, _, _, rfl, rfl, ha, rfl, z, u, x, rfl, hx, ok.1, by omega, hz, _, rfl, _, rfl, a, _, _, _, rfl, rfl, ha, rfl, z, t, y, rfl, hy, ok.2, by omega, hz, _, _, rfl, ?_⟩
      refine ⟨_, rfl, rfl, _, rfl, ?_⟩
      have q' : Q (.bl (if o then clSo z x || clSo z y else clSo z x && clSo z y)) H := q
      cases o with
      | false =>
        refine iteDT rfl ?_
        refine ⟨_, rfl, _, rfl, ?_⟩
        cases h1 : clSo z x with
        | true => rw [h1] at q'; exact iteT ⟨_, rfl, q'⟩
        | false => rw [h1] at q'; exact iteF q'
      | true =>
        refine iteDF (by decide +kernel) ?_
        refine ⟨_, rfl, _, rfl, ?_⟩
        cases h1 : clSo z x with
        | true => rw [h1] at q'; exact iteT q'
        | false => rw [h1] at q'; exact iteF ⟨_, rfl, q'⟩
def sp_breaking (K : PySem.W.Frag) : Sp := fun vs H Q _ => ∃ v u p r w c, vs = [v, u, w] ∧ IsPl K H v p ∧ p.Ok ∧ IsRdr K H u r ∧ r.Ok p ∧ IsCl K H w c ∧ c.Ok r.looks.length ∧ c.ht < 4 ∧
  ∀ H' x, Kp [] H H' → ((x = .non ∧ ∀ z, Rds p r z → clSo z c = true) ∨ ((∃ a, x = .ref a) ∧ ∃ z, Rds p r z ∧ clSo z c = false)) → Q x H'
theorem sc_breaking : FnScope ["plan", "reader", "claim", "found", "bad", "told"] ["plan", "reader", "claim"] (defScope s_breaking) := ⟨rfl, rfl, rfl, by decide +kernel, rfl, by decide +kernel, by decide +kernel⟩
theorem ok_breaking (T : Txt w K mg) : FnOk P w K mg base CX0 6 (He.ga K "breaking") (fdA K (He.ga K "breaking")) ["plan", "reader", "claim"] (sp_breaking K) := by
  have G_led_choices := ok_led_choices (P := P) (base := base) T
  have G_is_told := ok_is_told (P := P) (base := base) T 4
  have G_timetable_of := ok_timetable_of (P := P) (base := base) T
  refine (d_breaking T).ok sc_breaking (fun vs H Q E h => ?_) (fun cdv A outer s H vs Q E hr h => ?_)
  · obtain ⟨_, _, _, _, _, _, rfl, _⟩ := h; rfl
  obtain ⟨v, u, p, r, w, c, rfl, hP, ok, hR, ro, hC, cok, hht, q⟩ := h
  refine ⟨_, (pss_cons (ps_set (i := 3) sc_breaking.nd rfl (Or.inl rfl) (pcall (d_led_choices T) G_led_choices (hr.mono (by decide)) (pa_cons (pv 0) (pa_cons (pv 1) (pa_cons pe_non pa_nil)))))
      (pss_cons (ps_setLc (i := 4) (own := [("told", 5)]) rfl sc_breaking.nd rfl rfl (sw_true rfl rfl rfl (by decide +kernel)) (pi_list (pe_callB (call_sortedD rfl) (by rfl) (f_sorted T) bb_sorted (pa_cons (pv 3) pa_nil))) (blkOk_by (own := [("told", 5)]) (N := ["plan", "reader", "claim", "found", "bad", "told"]) (sc := defScope s_breaking) (by decide +kernel)) (fun _ _ _ _ _ => (pg_name (i := 5) sc_breaking.nd rfl (Or.inl rfl))) (fun _ _ _ _ _ => (pts_one (pt_not (pt_val (pcall (d_is_told T) G_is_told (hr.mono (by decide)) (pa_cons (pv 5) (pa_cons (pv 2) pa_nil))))))) (fun _ _ _ _ _ => (pv 5)))
      (pss_one (ps_ret (pe_ifExp (pt_cmpR (op_eqD hr.units) (pv 4) (pe_lst pa_nil) (nomark _)) pe_non (pcall (d_timetable_of T) G_timetable_of (hr.mono (by decide)) (pa_cons (pv 0) (pa_cons (pv 1) (pa_cons (pe_dget (hu_of hr) (pv 3) (pe_ix ix_list (pv 4) pe_int (fun _ _ => rfl)) (fun _ _ => rfl)) pa_nil))))))))), ?_⟩
  refine ⟨_, rfl, _, rfl, v, u, p, r, rfl, hP, ok, hR, ro, fun H1 D k1 hD hL => ?_⟩
  obtain ⟨kvs, zs, hD1, hkz, hnd, hrd, hval⟩ := hL
  have h64 : zs.length < 64 := few ok ro hnd fun z hz => (hrd z).mp hz
  have hcod : ∀ z ∈ zs, ∀ c ∈ z, c ≤ 122 := fun z hz => rds_codes ok ((hrd z).mp hz)
  refine ⟨_, rfl, D, kvs, zs.map strL, rfl, .inl hD1, by rw [hkz, List.map_map]; rfl, by rw [List.length_map]; exact h64, fun ys a hp hs ha => ⟨a, rfl, ⟨_, SqL.of upd_same⟩, fun B hB => ?_⟩⟩
  have k2 := k1.newT (p := a) (o := .lst (ys.map V.str)) ha
  have hD2 : upd H1 a (.lst (ys.map V.str)) D = some (.dK kvs) := by rw [upd_ne (ne_of_none hD1 ha)]; exact hD1
  have ha2 : upd H1 a (.lst (ys.map V.str)) a = some (.lst (ys.map V.str)) := upd_same
  have k12 : Kp [] H1 (upd H1 a (.lst (ys.map V.str))) := .new ha
  generalize upd H1 a (.lst (ys.map V.str)) = H2 at k2 hD2 ha2 hB k12 ⊢
  have hmem : ∀ y ∈ ys, unS y ∈ zs := fun y hy => by
    obtain ⟨z, hz, e⟩ := List.mem_map.mp (hp.mem_iff.mp hy)
    rw [← e]; exact hz
  have hmem2 : ∀ z ∈ zs, strL z ∈ ys := fun z hz => hp.mem_iff.mpr (List.mem_map.mpr ⟨z, hz, rfl⟩)
  have hyl : ys.length = zs.length := by rw [hp.length_eq, List.length_map]
  refine lc_list (xs := ys.map V.str) (fun i H' => Kp [] H2 H' ∧ ∃ bs : List (List Nat), H' B = some (.lst (bs.map fun z => V.str (strL z))) ∧ bs = ((ys.take i).map unS).filter (fun z => !clSo z c) ∧ bs.length ≤ i) ⟨.new hB, [], upd_same, rfl, Nat.le_refl _⟩ (fun i H' _ h => SqL.of (h.1.keep _ _ ha2 (by simp))) ?_ ?_
  · rintro i x H3 hx ⟨k3, bs, hB3, hbs, hbl⟩
    rw [List.getElem?_map] at hx
    obtain ⟨y, hy, rfl⟩ := Option.map_eq_some_iff.mp hx
    have hi : i < ys.length := (List.getElem?_eq_some_iff.mp hy).1
    have hyz := hmem y (List.mem_of_getElem? hy)
    have hlen := rds_len ((hrd _).mp hyz)
    have hln := ro.n1
    refine ⟨rfl, ?_⟩
    refine ⟨_, rfl, _, rfl, unS y, w, c, rfl, hC.kp (k2.trans k3), by rw [hlen]; exact cok, hht, by omega, ?_⟩
    have enx : ((ys.take (i + 1)).map unS).filter (fun z => !clSo z c) = bs ++ (if !clSo (unS y) c then [unS y] else []) := by
      rw [List.take_succ, hy, List.map_append, List.filter_append, ← hbs]
      congr 1
      show List.filter (fun z => !clSo z c) [unS y] = _
      rw [List.filter_cons, List.filter_nil]
    refine ⟨_, rfl, ?_⟩
    cases hso : clSo (unS y) c with
    | true =>
      refine iteF ⟨k3, bs, hB3, ?_, by omega⟩
      rw [enx, hso]; simp
    | false =>
      refine iteT ⟨_, rfl, _, hB3, small1000 (by rw [List.length_map]; omega), (k3.putN hB), bs ++ [unS y], by rw [upd_same, List.map_append]; rfl, ?_, by rw [List.length_append, List.length_singleton]; omega⟩
      rw [enx, hso]; rfl
  · rintro H3 ⟨k3, bs, hB3, hbs, hbl⟩
    rw [List.length_map, List.take_length] at hbs
    have k23 := k2.trans k3
    refine ⟨_, rfl, by show 0 ≤ sizeLine; decide, fun e0 he0 => ?_⟩
    have hbz : ∀ z ∈ bs, z ∈ zs ∧ clSo z c = false := fun z hz => by
      rw [hbs] at hz
      obtain ⟨h1, h2⟩ := List.mem_filter.mp hz
      obtain ⟨y, hy, rfl⟩ := List.mem_map.mp h1
      exact ⟨hmem y hy, by simpa using h2⟩
    have k4 := k23.newT (p := e0) (o := .lst []) he0
    have hB4 : upd H3 e0 (.lst []) B = some (.lst (bs.map fun z => V.str (strL z))) := by rw [upd_ne (ne_of_none hB3 he0)]; exact hB3
    have hD4 := (k3.newT (p := e0) (o := .lst []) he0).keep _ _ hD2 (by simp)
    refine ⟨_, _, .lst (SqL.of hB4) (dp_strs bs), .lst (SqL.of upd_same) .nil, shaped_strs (fun z hz => hcod z (hbz z hz).1), rfl, _, rfl, ?_⟩
    cases hb : bs with
    | nil =>
      refine iteE rfl ?_
      refine q _ _ k4 (.inl ⟨rfl, fun z hz => ?_⟩)
      cases hso : clSo z c with
      | true => rfl
      | false =>
        have : z ∈ bs := by
          rw [hbs]
          exact List.mem_filter.mpr ⟨List.mem_map.mpr ⟨strL z, hmem2 z ((hrd z).mpr hz), rfl⟩, by rw [hso]; rfl⟩
        rw [hb] at this; cases this
    | cons z0 bs' =>
      refine iteEF rfl ?_
      obtain ⟨hz0, hs0⟩ := hbz z0 (by rw [hb]; exact List.mem_cons_self)
      obtain ⟨vv, hv1, hv2⟩ := val_key (kvs := kvs) (k := .inr (strL z0)) (by rw [hkz]; exact List.mem_map.mpr ⟨z0, hz0, rfl⟩)
      obtain ⟨qd, t, hvq, hqd⟩ := hval _ hv2
      have hvq' : vv = .ref qd := hvq
      subst hvq'
      have g := DGet.k (k := .inr (strL z0)) hD4
      rw [hv1] at g
      rw [hb] at hB4
      refine ⟨_, rfl, _, rfl, _, rfl, _, rfl, B, _, _, _, rfl, rfl, SqL.of hB4, at0 _ _, D, _, rfl, g, v, u, p, r, qd, t, rfl, hP.kp k4, ok, hR.kp k4, ro, ((k12.trans k3).newT he0).keep _ _ hqd (by simp), fun H5 ar k5 => ?_⟩
      exact q _ _ (k4.trans k5) (.inr ⟨⟨ar, rfl⟩, z0, (hrd z0).mp hz0, hs0⟩)
def sp_need_all (K : PySem.W.Frag) : Sp := fun vs H Q _ => ∃ v u p r w c, vs = [v, u, w] ∧ IsPl K H v p ∧ p.Ok ∧ IsRdr K H u r ∧ r.Ok p ∧ IsCl K H w c ∧ c.Ok r.looks.length ∧ c.ht < 4 ∧ c.parts ≤ 20 ∧ ∀ H', Kp [] H H' → Q .non H'
theorem sc_need_all : FnScope ["plan", "reader", "claim"] ["plan", "reader", "claim"] (defScope s_need_all) := ⟨rfl, rfl, rfl, by decide +kernel, rfl, by decide +kernel, by decide +kernel⟩
theorem ok_need_all (T : Txt w K mg) : FnOk P w K mg base CX0 9 (He.ga K "need_all") (fdA K (He.ga K "need_all")) ["plan", "reader", "claim"] (sp_need_all K) := by
  have G_need_reader := ok_need_reader (P := P) (base := base) T
  have G_need_claim := ok_need_claim (P := P) (base := base) T
  refine (d_need_all T).ok sc_need_all (fun vs H Q E h => ?_) (fun cdv A outer s H vs Q E hr h => ?_)
  · obtain ⟨_, _, _, _, _, _, rfl, _⟩ := h; rfl
  obtain ⟨v, u, p, r, w, c, rfl, hP, ok, hR, ro, hC, cok, hht, hpa, q⟩ := h
  refine ⟨_, (pss_cons (ps_expr (pcall (d_need_reader T) G_need_reader (hr.mono (by decide)) (pa_cons (pv 0) (pa_cons (pv 1) pa_nil))))
      (pss_one (ps_expr (pcall (d_need_claim T) G_need_claim (hr.mono (by decide)) (pa_cons (pe_callB call_len (by rfl) (f_len T) bb_len (pa_cons (pe_ix ix_tup (pv 1) pe_int (fun _ _ => rfl)) pa_nil)) (pa_cons (pv 2) pa_nil)))))), ?_⟩
  refine ⟨_, rfl, _, rfl, v, p, u, r, rfl, hP, ok, hR, ro, fun H1 k1 => ?_⟩
  obtain ⟨e, f, ks, rfl, he, hf, hks⟩ := hR
  have hl : ks.length = r.looks.length := paired_len hks
  refine ⟨_, rfl, _, _, _, _, rfl, rfl, kpT he k1, rfl, _, _, rfl, .inr ⟨_, kpT hf k1, rfl⟩, _, rfl, r.looks.length, _, c, by rw [hl]; rfl, hC.kp k1, cok, hht, hpa, fun H2 k2 => q _ (k1.trans k2)⟩
def sp_slack (K : PySem.W.Frag) : Sp := fun vs H Q _ => ∃ v u p r w c, vs = [v, u, w, .int 0] ∧ IsPl K H v p ∧ p.Ok ∧ IsRdr K H u r ∧ r.Ok p ∧ IsCl K H w c ∧ c.Ok r.looks.length ∧ c.ht < 4 ∧ c.parts ≤ 20 ∧
  ∀ H' x, Kp [] H H' → ((x = .int 0 ∧ ∀ z, Rds p r z → clSo z c = true) ∨ (x = .non ∧ ∃ z, Rds p r z ∧ clSo z c = false)) → Q x H'
theorem sc_slack : FnScope ["plan", "reader", "claim", "most", "low", "high", "middle"] ["plan", "reader", "claim", "most"] (defScope s_slack) := ⟨rfl, rfl, rfl, by decide +kernel, rfl, by decide +kernel, by decide +kernel⟩
theorem ok_slack (T : Txt w K mg) : FnOk P w K mg base CX0 10 (He.ga K "slack") (fdA K (He.ga K "slack")) ["plan", "reader", "claim", "most"] (sp_slack K) := by
  have G_need_all := ok_need_all (P := P) (base := base) T
  have G_is_from := ok_is_from (P := P) (base := base) T
  have G_breaking := ok_breaking (P := P) (base := base) T
  refine (d_slack T).ok sc_slack (fun vs H Q E h => ?_) (fun cdv A outer s H vs Q E hr h => ?_)
  · obtain ⟨_, _, _, _, _, _, rfl, _⟩ := h; rfl
  obtain ⟨v, u, p, r, w, c, rfl, hP, ok, hR, ro, hC, cok, hht, hpa, q⟩ := h
  refine ⟨_, (pss_cons (ps_expr (pcall (d_need_all T) G_need_all (hr.mono (by decide)) (pa_cons (pv 0) (pa_cons (pv 1) (pa_cons (pv 2) pa_nil)))))
      (pss_cons (ps_if (pt_not (pt_val (pcall (d_is_from T) G_is_from (hr.mono (by decide)) (pa_cons (pv 3) (pa_cons pe_int (pa_cons (pgi (i_MOST_SLACK T)) pa_nil)))))) pss_never pss_nil)
      (pss_cons (ps_if (pt_cmpR op_notN (pcall (d_breaking T) G_breaking (hr.mono (by decide)) (pa_cons (pv 0) (pa_cons (pv 1) (pa_cons (pv 2) pa_nil)))) pe_non (nomark _)) (pss_one (ps_ret pe_non)) pss_nil)
      (pss_cons (ps_par (i := 4) (j := 5) rfl sc_slack.nd rfl rfl (by decide) rfl rfl (pa_cons pe_int (pa_cons (pv 3) pa_nil)) (by rfl))
      (pss_cons (ps_while PassesOwn.never (pt_cmpR op_lt (pv 4) (pv 5) (nomark _)) pss_never)
      (pss_one (ps_ret (pv 4)))))))), ?_⟩
  refine ⟨_, rfl, _, rfl, _, rfl, v, u, p, r, w, c, rfl, hP, ok, hR, ro, hC, cok, hht, hpa, fun H1 k1 => ?_⟩
  refine ⟨_, rfl, _, _, _, rfl, by decide, by decide, _, rfl, iteF ?_⟩
  refine ⟨_, rfl, _, rfl, _, rfl, v, u, p, r, w, c, rfl, hP.kp k1, ok, hR.kp k1, ro, hC.kp k1, cok, hht, fun H2 x k2 hx => ⟨rfl, _, rfl, ?_⟩⟩
  rcases hx with ⟨rfl, hall⟩ | ⟨⟨a, rfl⟩, hex⟩
  · refine iteNF rfl ?_
    refine ⟨_, rfl, _, _, rfl, ?_⟩
    refine ⟨fun m σ H' => m = 0 ∧ σ = [some v, some u, some w, some (.int 0), some (.int 0), some (.int 0), none] ∧ H' = H2, ⟨0, rfl, rfl, rfl⟩, ?_⟩
    rintro m σ H' ⟨rfl, rfl, rfl⟩
    refine ⟨_, rfl, _, rfl, _, _, rfl, rfl, _, rfl, iteDF (by decide) ?_⟩
    exact ⟨_, rfl, q _ _ (k1.trans k2) (.inl ⟨rfl, hall⟩)⟩
  · exact iteNT (by intro z; cases z) (q _ _ (k1.trans k2) (.inr ⟨rfl, hex⟩))
end
end Ink
set_option linter.all false
namespace Ink
open PySem PySem.Spec PyProof.Rows L2
/-! ### words of a text, plain -/
def cls (c : Nat) : Nat := if 97 ≤ c ∧ c ≤ 122 then 1 else if 65 ≤ c ∧ c ≤ 90 then 2 else if 48 ≤ c ∧ c ≤ 57 then 3 else 0
abbrev isSingle (c : Nat) : Prop := c ∈ [59, 58, 44, 40, 41]
inductive Lex : List Nat → List (List Nat) → Prop
  | nil : Lex [] []
  | blank {c cs ws} : (c = 32 ∨ c = 10) → Lex cs ws → Lex (c :: cs) ws
  | run {c w cs ws} : cls c ≠ 0 → (∀ x ∈ w, cls x = cls c) → (∀ x, cs.head? = some x → cls x ≠ cls c) → Lex cs ws → Lex (c :: (w ++ cs)) ((c :: w) :: ws)
  | single {c cs ws} : isSingle c → Lex cs ws → Lex (c :: cs) ([c] :: ws)
  | dots {cs ws} : Lex cs ws → Lex (46 :: 46 :: cs) ([46, 46] :: ws)
theorem cls_blank {c : Nat} (h : c = 32 ∨ c = 10) : cls c = 0 := by rcases h with rfl | rfl <;> decide
theorem cls_single {c : Nat} (h : isSingle c) : cls c = 0 := by
  simp only [isSingle, List.mem_cons, List.not_mem_nil, or_false] at h
  rcases h with rfl | rfl | rfl | rfl | rfl <;> decide
theorem single_not_blank {c : Nat} (h : isSingle c) : ¬ (c = 32 ∨ c = 10) := by
  simp only [isSingle, List.mem_cons, List.not_mem_nil, or_false] at h
  omega
/-! blanks may come and go -/
inductive Lz : Option Nat → List Nat → List Nat → Prop
  | nil {p} : Lz p [] []
  | keep {p c cs ds} : ¬ (c = 32 ∨ c = 10) → Lz (some c) cs ds → Lz p (c :: cs) (c :: ds)
  | blank {p c cs ds b} : (c = 32 ∨ c = 10) → (∀ x ∈ b, x = 32 ∨ x = 10) → (b ≠ [] ∨ (∃ x, p = some x ∧ isSingle x) ∨ (∃ x, cs.head? = some x ∧ isSingle x)) → Lz (some c) cs ds → Lz p (c :: cs) (b ++ ds)
theorem Lex.blanks {b : List Nat} (hb : ∀ x ∈ b, x = 32 ∨ x = 10) {cs : List Nat} {ws : List (List Nat)} (h : Lex cs ws) : Lex (b ++ cs) ws := by
  induction b with
  | nil => exact h
  | cons c b ih => exact .blank (hb c List.mem_cons_self) (ih fun x hx => hb x (List.mem_cons_of_mem _ hx))
theorem Lz.word {cs : List Nat} : ∀ {w : List Nat} {c : Nat} {p : Option Nat} {ds : List Nat}, cls c ≠ 0 → (∀ x ∈ w, cls x = cls c) → Lz p (c :: (w ++ cs)) ds → ∃ p' ds', ds = c :: (w ++ ds') ∧ Lz p' cs ds' ∧ ∃ x, p' = some x ∧ cls x = cls c := by
  intro w
  induction w with
  | nil =>
    intro c p ds hk _ l
    cases l with
    | keep _ l => exact ⟨some c, _, rfl, l, c, rfl, rfl⟩
    | blank h1 _ _ _ => exact absurd (cls_blank h1) hk
  | cons y w ihw =>
    intro c p ds hk hw l
    cases l with
    | keep _ l =>
      have hy := hw y List.mem_cons_self
      obtain ⟨p', ds', e, l', x, hx, hm⟩ := ihw (c := y) (by rw [hy]; exact hk) (fun x hx => by rw [hy]; exact hw x (List.mem_cons_of_mem _ hx)) l
      exact ⟨p', ds', by rw [e]; rfl, l', x, hx, by rw [hm, hy]⟩
    | blank h1 _ _ _ => exact absurd (cls_blank h1) hk
theorem Lz.head {k : Nat} (hk : k ≠ 0) {p : Option Nat} {cs ds : List Nat} (h : Lz p cs ds) (hp : ∀ x, p = some x → ¬ isSingle x) (hc : ∀ x, cs.head? = some x → cls x ≠ k) : ∀ x, ds.head? = some x → cls x ≠ k := by
  intro x hx
  cases h with
  | nil => cases hx
  | keep _ _ => exact hc x hx
  | blank h1 h2 h3 h4 =>
    rename_i c cs ds b
    cases b with
    | cons y b =>
      have : y = x := by simpa using hx
      subst this
      rw [cls_blank (h2 y List.mem_cons_self)]
      exact fun z => hk z.symm
    | nil =>
      rcases h3 with z | ⟨y, hy, hs⟩ | ⟨y, hy, hs⟩
      · exact absurd rfl z
      · exact absurd hs (hp y hy)
      · cases cs with
        | nil => cases hy
        | cons z cs =>
          cases hy
          cases h4 with
          | keep _ _ =>
            have : y = x := by simpa using hx
            subst this
            rw [cls_single hs]
            exact fun z => hk z.symm
          | blank h5 _ _ _ => exact absurd h5 (single_not_blank hs)
theorem Lex.loose {cs : List Nat} {ws : List (List Nat)} (h : Lex cs ws) : ∀ {p : Option Nat} {ds : List Nat}, Lz p cs ds → Lex ds ws := by
  induction h with
  | nil => intro p ds l; cases l; exact .nil
  | blank hb _ ih =>
    intro p ds l
    cases l with
    | keep h _ => exact absurd hb h
    | blank _ h2 _ l => exact Lex.blanks h2 (ih l)
  | run hk hw hc _ ih =>
    rename_i c w cs ws _
    intro p ds l
    obtain ⟨p', ds', e, l2, x, hx, hm⟩ := Lz.word hk hw l
    subst e
    refine .run hk hw (Lz.head hk l2 (fun y hy hs => ?_) hc) (ih l2)
    rw [hx] at hy
    cases hy
    exact hk (by rw [← hm]; exact cls_single hs)
  | single hs _ ih =>
    intro p ds l
    cases l with
    | keep _ l => exact .single hs (ih l)
    | blank h1 _ _ _ => exact absurd h1 (single_not_blank hs)
  | dots _ ih =>
    intro p ds l
    cases l with
    | keep _ l =>
      cases l with
      | keep _ l => exact .dots (ih l)
      | blank h1 _ _ _ => omega
    | blank h1 _ _ _ => omega
/-! the sign pairs '..' written otherwise -/
def rep2 (x : List Nat) : List Nat → List Nat
  | 46 :: 46 :: r => x ++ rep2 x r
  | c :: r => c :: rep2 x r
  | [] => []
theorem rep2_ne {x r : List Nat} {c : Nat} (h : c ≠ 46) : rep2 x (c :: r) = c :: rep2 x r := rep2.eq_2 x c r fun _ e _ => h e
theorem rep2_word {x w cs : List Nat} (h : ∀ c ∈ w, cls c ≠ 0) : rep2 x (w ++ cs) = w ++ rep2 x cs := by
  induction w with
  | nil => rfl
  | cons c w ih =>
    have hc : c ≠ 46 := fun e => h c List.mem_cons_self (by rw [e]; decide)
    rw [List.cons_append, rep2_ne hc, ih fun d hd => h d (List.mem_cons_of_mem _ hd)]
    rfl
/-- blanks before and behind the two dots -/
theorem Lex.rep {b1 b2 : List Nat} (h1 : ∀ x ∈ b1, x = 32 ∨ x = 10) (h2 : ∀ x ∈ b2, x = 32 ∨ x = 10) {cs : List Nat} {ws : List (List Nat)} (h : Lex cs ws) : Lex (rep2 (b1 ++ [46, 46] ++ b2) cs) ws := by
  induction h with
  | nil => exact .nil
  | blank hb _ ih => rw [rep2_ne (by rcases hb with rfl | rfl <;> decide)]; exact .blank hb ih
  | run hk hw hc hl ih =>
    rename_i c w cs ws
    rw [show c :: (w ++ cs) = (c :: w) ++ cs from rfl, rep2_word (fun d hd => by
      rcases List.mem_cons.mp hd with z | z
      · rw [z]; exact hk
      · rw [hw d z]; exact hk)]
    refine .run hk hw (fun y hy => ?_) ih
    cases hl with
    | nil => cases hy
    | blank hb _ =>
      rw [rep2_ne (by rcases hb with rfl | rfl <;> decide)] at hy
      exact hc y hy
    | run hk2 _ _ _ =>
      rw [rep2_ne (fun e => hk2 (by rw [e]; decide))] at hy
      exact hc y hy
    | single hs _ =>
      rw [rep2_ne (fun e => by subst e; exact absurd hs (by decide))] at hy
      exact hc y hy
    | dots _ =>
      have hz : cls y = 0 := by
        cases b1 with
        | nil => have : (46 : Nat) = y := by simpa [rep2] using hy
                 rw [← this]; decide
        | cons d b1 =>
          have : d = y := by simpa [rep2] using hy
          rw [← this]; exact cls_blank (h1 d List.mem_cons_self)
      rw [hz]; exact fun z => hk z.symm
  | single hs _ ih => rw [rep2_ne (fun e => by subst e; exact absurd hs (by decide))]; exact .single hs ih
  | dots _ ih =>
    rw [rep2, List.append_assoc, List.append_assoc]
    exact Lex.blanks h1 (.dots (Lex.blanks h2 ih))
theorem Lex.tail {b : List Nat} (h1 : ∀ x ∈ b, x = 32 ∨ x = 10) {cs : List Nat} {ws : List (List Nat)} (h : Lex cs ws) : Lex (cs ++ b) ws := by
  induction h with
  | nil => have := Lex.blanks h1 Lex.nil; rw [List.append_nil] at this; exact this
  | blank hb _ ih => exact .blank hb ih
  | run hk hw hc _ ih =>
    rename_i c w cs ws _
    have e : c :: (w ++ cs) ++ b = c :: (w ++ (cs ++ b)) := by rw [List.cons_append, List.append_assoc]
    rw [e]
    refine .run hk hw (fun x hx => ?_) ih
    cases cs with
    | nil =>
      cases b with
      | nil => cases hx
      | cons y b =>
        have : y = x := by simpa using hx
        rw [← this, cls_blank (h1 y List.mem_cons_self)]
        exact fun z => hk z.symm
    | cons y cs => exact hc x hx
  | single hs _ ih => exact .single hs ih
  | dots _ ih => exact .dots ih
end Ink
set_option Elab.async false
set_option linter.all false
set_option pp.maxSteps 150
set_option maxRecDepth 100000
set_option maxHeartbeats 4000000
namespace Ink
open PySem PySem.Spec PyProof.Rows L2 StX
def clsS : Nat → Str
  | 1 => "abcdefghijklmnopqrstuvwxyz"
  | 2 => "ABCDEFGHIJKLMNOPQRSTUVWXYZ"
  | 3 => "0123456789"
  | _ => ""
theorem mem_c1 {c : Nat} : c ∈ (Str.ofString "abcdefghijklmnopqrstuvwxyz").cps.toList ↔ cls c = 1 := by
  have e : (Str.ofString "abcdefghijklmnopqrstuvwxyz").cps.toList = [97,98,99,100,101,102,103,104,105,106,107,108,109,110,111,112,113,114,115,116,117,118,119,120,121,122] := by decide +kernel
  rw [e]
  simp only [List.mem_cons, List.not_mem_nil, or_false]
  unfold cls
  split
  · omega
  · split
    · omega
    · split <;> omega
theorem mem_c2 {c : Nat} : c ∈ (Str.ofString "ABCDEFGHIJKLMNOPQRSTUVWXYZ").cps.toList ↔ cls c = 2 := by
  have e : (Str.ofString "ABCDEFGHIJKLMNOPQRSTUVWXYZ").cps.toList = [65,66,67,68,69,70,71,72,73,74,75,76,77,78,79,80,81,82,83,84,85,86,87,88,89,90] := by decide +kernel
  rw [e]
  simp only [List.mem_cons, List.not_mem_nil, or_false]
  unfold cls
  split
  · omega
  · split
    · omega
    · split <;> omega
theorem mem_c3 {c : Nat} : c ∈ (Str.ofString "0123456789").cps.toList ↔ cls c = 3 := by
  have e : (Str.ofString "0123456789").cps.toList = [48,49,50,51,52,53,54,55,56,57] := by decide +kernel
  rw [e]
  simp only [List.mem_cons, List.not_mem_nil, or_false]
  unfold cls
  split
  · omega
  · split
    · omega
    · split <;> omega
theorem cls_le (c : Nat) : cls c ≤ 3 := by
  unfold cls
  split
  · omega
  · split
    · omega
    · split <;> omega
theorem mem_cls {k c : Nat} (h0 : k ≠ 0) (h3 : k ≤ 3) : c ∈ (clsS k).cps.toList ↔ cls c = k := by
  have : k = 1 ∨ k = 2 ∨ k = 3 := by omega
  rcases this with rfl | rfl | rfl
  · exact mem_c1
  · exact mem_c2
  · exact mem_c3
theorem clsS_ne {k : Nat} (h0 : k ≠ 0) (h3 : k ≤ 3) : ¬ V.str (clsS k) = V.str "" := by
  have : k = 1 ∨ k = 2 ∨ k = 3 := by omega
  rcases this with rfl | rfl | rfl <;> decide +kernel
theorem mem_single {c : Nat} : c ∈ (Str.ofString ";:,()").cps.toList ↔ isSingle c := by
  have e : (Str.ofString ";:,()").cps.toList = [59, 58, 44, 40, 41] := by decide +kernel
  rw [e]
theorem mem_blank {c : Nat} : c ∈ (Str.ofString " \n").cps.toList ↔ (c = 32 ∨ c = 10) := by
  have e : (Str.ofString " \n").cps.toList = [32, 10] := by decide +kernel
  rw [e]
  simp
section
variable {P : Program} {w : World} {K : PySem.W.Frag} {mg : Str → Option Value} {base : Heap}
def sp_sort_of : Sp := fun vs H Q _ => ∃ c, vs = [.str (sg c)] ∧ ∀ H', Kp [] H H' → Q (.str (clsS (cls c))) H'
theorem sc_sort_of : FnScope ["sign", "signs"] ["sign"] (defScope s_sort_of) := ⟨rfl, rfl, rfl, by decide +kernel, rfl, by decide +kernel, by decide +kernel⟩
theorem ok_sort_of (T : Txt w K mg) : FnOk P w K mg base CX0 1 (He.ga K "sort_of") (fdA K (He.ga K "sort_of")) ["sign"] sp_sort_of := by
  refine (d_sort_of T).ok sc_sort_of (fun vs H Q E h => ?_) (fun cdv A outer s H vs Q E hr h => ?_)
  · obtain ⟨_, rfl, _⟩ := h; rfl
  obtain ⟨c, rfl, q⟩ := h
  refine ⟨_, (pss_cons (ps_for PassesOwn.never rfl (pi_tup (pe_tup (pa_cons (pgs (i_SMALL T)) (pa_cons (pgs (i_GREAT T)) (pa_cons (pgs (i_FIGURES T)) pa_nil))))) (pg_name (i := 1) sc_sort_of.nd rfl (Or.inl rfl)) (pss_one (ps_if (pt_cmpR op_in_sign (pv 0) (pv 1) (by with_unfolding_all rfl)) (pss_one (ps_ret (pv 1))) pss_nil)))
      (pss_one (ps_ret pe_str))), ?_⟩
  refine ⟨by show 3 ≤ sizeLine; decide, fun a ha => ⟨a, rfl, ⟨_, SqT.of upd_same⟩, ?_⟩⟩
  have k1 : Kp [] H (upd H a (.tup [.str "abcdefghijklmnopqrstuvwxyz", .str "ABCDEFGHIJKLMNOPQRSTUVWXYZ", .str "0123456789"])) := .new ha
  have ha1 : SqT K (upd H a (.tup [.str "abcdefghijklmnopqrstuvwxyz", .str "ABCDEFGHIJKLMNOPQRSTUVWXYZ", .str "0123456789"])) a [.str "abcdefghijklmnopqrstuvwxyz", .str "ABCDEFGHIJKLMNOPQRSTUVWXYZ", .str "0123456789"] := SqT.of upd_same
  refine for_tup (xs := [.str "abcdefghijklmnopqrstuvwxyz", .str "ABCDEFGHIJKLMNOPQRSTUVWXYZ", .str "0123456789"]) (fun i σ H' => ∃ o1, σ = [some (.str (sg c)), o1] ∧ Kp [] H H' ∧ SqT K H' a [.str "abcdefghijklmnopqrstuvwxyz", .str "ABCDEFGHIJKLMNOPQRSTUVWXYZ", .str "0123456789"] ∧ ∀ j, j < i → cls c ≠ j + 1)
    ⟨_, rfl, k1, ha1, fun j h => by omega⟩ (fun i σ H' _ h => h.choose_spec.2.2.1) ?_ ?_
  · rintro i x σ H1 hx ⟨o1, rfl, k, hs, hj⟩
    have hi : i < 3 := (List.getElem?_eq_some_iff.mp hx).1
    have hi3 : i = 0 ∨ i = 1 ∨ i = 2 := by omega
    have hxx : x = .str (clsS (i + 1)) := by
      rcases hi3 with rfl | rfl | rfl <;> exact (Option.some.inj hx).symm
    subst hxx
    have hm := mem_cls (k := i + 1) (c := c) (by omega) (by omega)
    refine ⟨_, rfl, _, rfl, c, _, rfl, rfl, _, rfl, ite2 (fun h => ?_) (fun h => ?_)⟩
    · have e := hm.mp (of_decide_eq_true h)
      refine ⟨_, rfl, ?_⟩
      rw [← e]
      exact q _ k
    · have e : cls c ≠ i + 1 := fun e => h (decide_eq_true (hm.mpr e))
      refine ⟨_, rfl, k, hs, fun j hj2 => ?_⟩
      by_cases ej : j = i
      · rw [ej]; exact e
      · exact hj j (by omega)
  · rintro σ H1 ⟨o1, rfl, k, hs, hj⟩
    have e0 : cls c = 0 := by
      have h3 := cls_le c
      have a := hj 0 (by decide)
      have b := hj 1 (by decide)
      have d := hj 2 (by decide)
      omega
    have := q _ k
    rw [e0] at this
    exact this
def IsTk (K : PySem.W.Frag) (H : Hp) (v : V) (x : List Nat) : Prop := ∃ a n, v = .ref a ∧ SqT K H a [.str (strL x), .int n]
theorem IsTk.kp {S : List Addr} {H H' : Hp} {v : V} {x : List Nat} (h : IsTk K H v x) (k : Kp S H H') : IsTk K H' v x := let ⟨a, n, e, s⟩ := h; ⟨a, n, e, kpT s k⟩
theorem cut_at (pre post : List Nat) (k : Nat) {i j : Int} (hi : i = (pre.length : Nat)) (hj : j = ((pre.length + k : Nat) : Int)) : cutS (strL (pre ++ post)) (some i) (some j) = strL (post.take k) := by
  subst hi hj
  unfold cutS
  rw [HT.sIx_nat, HT.sIx_nat]
  have e1 : (strL (pre ++ post)).length = pre.length + post.length := by rw [strL_len, List.length_append]
  rw [e1]
  show Str.mk (((pre ++ post).drop _).take _).toArray = _
  rw [Nat.min_eq_left (Nat.le_add_right _ _), List.drop_left]
  unfold strL
  congr 2
  rw [show min (pre.length + k) (pre.length + post.length) - pre.length = min k post.length by omega]
  rw [← List.take_take, List.take_length]
theorem str_at {pre post : List Nat} {c : Nat} {i : Nat} (h : post[i]? = some c) {j : Int} (hj : j = ((pre.length + i : Nat) : Int)) : atI (strL (pre ++ post)).cps.toList j = some c := by
  subst hj
  refine atI_nat ?_
  show (pre ++ post)[pre.length + i]? = some c
  rw [List.getElem?_append_right (by omega), Nat.add_sub_cancel_left]
  exact h
theorem dots_eq {z : List Nat} : (V.str (strL z) = V.str "..") ↔ z = [46, 46] := by
  have e : (".." : Str) = strL [46, 46] := by decide +kernel
  rw [e]
  exact ⟨fun h => strL_inj (V.str.inj h), fun h => by rw [h]⟩
/-- the next word, however it is made -/
theorem Lex.step {c : Nat} {post : List Nat} {ws2 : List (List Nat)} (h : Lex (c :: post) ws2) : ∃ w rest, post = w ++ rest ∧ (∀ x ∈ w, cls x = cls c) ∧ (cls c ≠ 0 → ∀ x, rest.head? = some x → cls x ≠ cls c) ∧ (cls c = 0 → w = []) ∧
    ((cls c ≠ 0 ∧ ∃ ws', ws2 = (c :: w) :: ws' ∧ Lex rest ws') ∨ (cls c = 0 ∧ isSingle c ∧ ∃ ws', ws2 = [c] :: ws' ∧ Lex rest ws') ∨ (cls c = 0 ∧ (c = 32 ∨ c = 10) ∧ Lex rest ws2) ∨ (c = 46 ∧ ∃ r ws', rest = 46 :: r ∧ ws2 = [46, 46] :: ws' ∧ Lex r ws')) := by
  cases h with
  | blank hb h => exact ⟨[], post, rfl, (by simp), (fun z => absurd (cls_blank hb) z), (fun _ => rfl), .inr (.inr (.inl ⟨cls_blank hb, hb, h⟩))⟩
  | run hk hw hc h => exact ⟨_, _, rfl, hw, fun _ => hc, fun z => absurd z hk, .inl ⟨hk, _, rfl, h⟩⟩
  | single hs h => exact ⟨[], post, rfl, (by simp), (fun z => absurd (cls_single hs) z), (fun _ => rfl), .inr (.inl ⟨cls_single hs, hs, _, rfl, h⟩)⟩
  | dots h => exact ⟨[], _, rfl, (by simp), (fun z => absurd (by decide) z), (fun _ => rfl), .inr (.inr (.inr ⟨rfl, _, _, rfl, rfl, h⟩))⟩
def WInv (K : PySem.W.Frag) (H : Hp) (f : Addr) (cs : List Nat) (ws : List (List Nat)) (m : Nat) (σ : L2.St) (H' : Hp) : Prop := ∃ pre post ws1 ws2 o3 o4 o5 tv, cs = pre ++ post ∧ m = post.length ∧ Lex post ws2 ∧ ws = ws1 ++ ws2 ∧ ws1.length ≤ pre.length ∧ σ = [some (.str (strL cs)), some (.ref f), some (.int (pre.length : Nat)), o3, o4, o5] ∧ Kp [] H H' ∧ H' f = some (.lst tv) ∧ Paired (IsTk K H') tv ws1
def sp_words_of (K : PySem.W.Frag) : Sp := fun vs H Q _ => ∃ (cs : List Nat) (ws : List (List Nat)), vs = [.str (strL cs)] ∧ Lex cs ws ∧ cs.length ≤ 2000 ∧ ∀ H' a tv, Kp [] H H' → H a = none → H' a = some (.lst tv) → Paired (IsTk K H') tv (ws ++ [[]]) → Q (.ref a) H'
theorem sc_words_of : FnScope ["text", "found", "at", "sign", "last", "signs"] ["text"] (defScope s_words_of) := ⟨rfl, rfl, rfl, by decide +kernel, rfl, by decide +kernel, by decide +kernel⟩
theorem ok_words_of (T : Txt w K mg) : FnOk P w K mg base CX0 2 (He.ga K "words_of") (fdA K (He.ga K "words_of")) ["text"] (sp_words_of K) := by
  have G_sort_of := ok_sort_of (P := P) (base := base) T
  refine (d_words_of T).ok sc_words_of (fun vs H Q E h => ?_) (fun cdv A outer s H vs Q E hr h => ?_)
  · obtain ⟨_, _, rfl, _⟩ := h; rfl
  obtain ⟨cs, ws, rfl, hlex, hlen, q⟩ := h
  have hszl : (strL cs).length ≤ sizeLine := Nat.le_trans hlen (by decide)
  refine ⟨_, (pss_cons (ps_par (i := 1) (j := 2) rfl sc_words_of.nd rfl rfl (by decide) rfl rfl (pa_cons (pe_lst pa_nil) (pa_cons pe_int pa_nil)) (by rfl))
      (pss_cons (ps_while PassesOwn.never (pt_cmpR op_lt (pv 2) (pe_callB call_len (by rfl) (f_len T) bb_len (pa_cons (pv 0) pa_nil)) (nomark _)) (pss_cons (ps_par (i := 3) (j := 4) rfl sc_words_of.nd rfl rfl (by decide) rfl rfl (pa_cons (pe_ix ix_str (pv 0) (pv 2) (fun _ _ => rfl)) (pa_cons (pe_op op_add (pv 2) pe_int) pa_nil)) (by rfl))
      (pss_cons (ps_set (i := 5) sc_words_of.nd rfl (Or.inl rfl) (pcall (d_sort_of T) G_sort_of (hr.mono (by decide)) (pa_cons (pv 3) pa_nil)))
      (pss_cons (ps_while PassesOwn.never (pt_cut (PW.pt (pw_and (pt_cmpR op_lt (pv 4) (pe_callB call_len (by rfl) (f_len T) bb_len (pa_cons (pv 0) pa_nil)) (nomark _)) (pw_and (pt_cmpR op_ne (pv 5) pe_str (nomark _)) (pw_and1 (pt_cmpR op_in_sign (pe_ix ix_str (pv 0) (pv 4) (fun _ _ => rfl)) (pv 5) (by with_unfolding_all rfl))))))) (pss_one (ps_aug (i := 4) sc_words_of.nd rfl (Or.inl rfl) pe_int ip_add)))
      (pss_cons (ps_if (pt_cut (pt_cmpR op_eq (pe_slice sl_str (pv 0) (po_some (pv 2)) (po_some (pe_op op_add (pv 2) pe_int))) pe_str (nomark _))) (pss_one (ps_set (i := 4) sc_words_of.nd rfl (Or.inl rfl) (pe_op op_add (pv 2) pe_int))) pss_nil)
      (pss_cons (ps_if (PW.pt (pw_or (pt_cmpR op_ne (pv 5) pe_str (nomark _)) (pw_or (pt_cmpR op_in_sign (pv 3) (pgs (i_SINGLE T)) (by with_unfolding_all rfl)) (pw_or1 (pt_cmpR op_eq (pv 4) (pe_op op_add (pv 2) pe_int) (nomark _)))))) (pss_one (ps_expr (pe_bm PySem.F.plainAttrs_list PySem.F.slot_list_append PySem.F.type_list_append mt_append (pv 1) (pa_cons (pe_tup (pa_cons (pe_slice sl_str (pv 0) (po_some (pv 2)) (po_some (pv 4))) (pa_cons (pv 2) pa_nil))) pa_nil)))) (pss_one (ps_if (pt_cmpR op_notIn_sign (pv 3) pe_str (by with_unfolding_all rfl)) (pss_one (ps_ret (pe_lst (pa_star (pv 1) (pa_cons (pe_tup (pa_cons pe_str (pa_cons (pv 2) pa_nil))) pa_nil))))) pss_nil)))
      (pss_one (ps_set (i := 2) sc_words_of.nd rfl (Or.inl rfl) (pv 4)))))))))
      (pss_one (ps_ret (pe_lst (pa_star (pv 1) (pa_cons (pe_tup (pa_cons pe_str (pa_cons (pe_callB call_len (by rfl) (f_len T) bb_len (pa_cons (pv 0) pa_nil)) pa_nil))) pa_nil))))))), ?_⟩
  refine ⟨by show 0 ≤ sizeLine; decide, fun f hf => ⟨_, _, rfl, ?_⟩⟩
  refine ⟨WInv K H f cs ws, ⟨_, [], cs, [], ws, _, _, _, [], rfl, rfl, hlex, rfl, Nat.le_refl _, rfl, .new hf, upd_same, .nil⟩, ?_⟩
  rintro m σ H1 ⟨pre, post, ws1, ws2, o3, o4, o5, tv, ecs, rfl, hl2, ews, hw1, rfl, k1, hf1, htv⟩
  have hl : cs.length = pre.length + post.length := by rw [ecs, List.length_append]
  have htl : tv.length = ws1.length := paired_len htv
  refine ⟨_, rfl, _, rfl, _, cs.length, rfl, ⟨hszl, rfl⟩, _, _, rfl, rfl, _, rfl, ?_⟩
  cases post with
  | nil =>
    refine iteDF (by have : ([] : List Nat).length = 0 := rfl; omega) ?_
    cases hl2
    refine ⟨_, rfl, f, tv, rfl, .inr (SqL.of hf1), _, rfl, _, cs.length, rfl, ⟨hszl, rfl⟩, by show 2 ≤ sizeLine; decide, fun t ht => ⟨?_, fun a ha => ?_⟩⟩
    · show (tv ++ [V.ref t]).length ≤ sizeLine
      rw [List.length_append, List.length_singleton]
      exact Nat.le_trans (show tv.length + 1 ≤ 2001 by omega) (by decide)
    · have kt := (Kp.new (S := []) ht (o := .tup [.str "", .int (cs.length : Nat)])).newT (p := a) (o := .lst (tv ++ [V.ref t])) ha
      refine q _ a _ ((k1.newT ht).newT ha) ((k1.newT ht).free ha) upd_same ?_
      rw [ews, List.append_nil]
      refine paired_snoc (pkp htv fun _ _ z => z.kp kt) ⟨t, (cs.length : Nat), rfl, ?_⟩
      rw [strL_nil]
      exact kpT (SqT.of upd_same) (.new (S := []) ha)
  | cons c post =>
    have hpl : (c :: post).length = post.length + 1 := rfl
    refine iteDT (by omega) ⟨fun σ' H' => ∃ m', m' < (c :: post).length ∧ WInv K H f cs ws m' σ' H', fun _ _ h => h, ?_⟩
    obtain ⟨w, rest, rfl, hw, hc, hw0, kind⟩ := hl2.step
    have hat : atI (strL cs).cps.toList ((pre.length : Nat) : Int) = some c := by rw [ecs]; exact str_at (i := 0) rfl rfl
    refine ⟨_, rfl, _, rfl, _, _, _, rfl, rfl, hszl, hat, _, rfl, _, _, rfl, rfl, _, _, rfl, ?_⟩
    refine ⟨_, rfl, c, rfl, fun H2 k2 => ?_⟩
    have k12 := k1.trans k2
    have hf2 := k2.keep _ _ hf1 (by simp)
    have htv2 := pkp htv fun _ _ z => z.kp k2
    refine ⟨fun m σ H' => ∃ i, i ≤ w.length ∧ m = w.length - i ∧ σ = [some (.str (strL cs)), some (.ref f), some (.int (pre.length : Nat)), some (.str (sg c)), some (.int ((pre.length + 1 + i : Nat) : Int)), some (.str (clsS (cls c)))] ∧ H' = H2,
      ⟨_, 0, Nat.zero_le _, rfl, rfl, rfl⟩, ?_⟩
    rintro m σ H' ⟨i, hi, rfl, rfl, eH⟩
    subst eH
    have hal : cs.length = pre.length + (w.length + rest.length + 1) := by rw [hl, hpl, List.length_append]
    refine ⟨fun b H'' => b = decide (i < w.length) ∧ H'' = H', ?_, ?_⟩
    · refine ⟨_, rfl, _, rfl, _, cs.length, rfl, ⟨hszl, rfl⟩, _, _, rfl, rfl, _, rfl, ?_⟩
      by_cases hiw : i < w.length
      · have hwi : w[i]? = some w[i] := List.getElem?_eq_getElem hiw
        have hk : cls c ≠ 0 := fun z => by have := hw0 z; subst this; exact absurd hiw (Nat.not_lt_zero _)
        have e1 : atI (strL cs).cps.toList ((pre.length + 1 + i : Nat) : Int) = some w[i] := by
          rw [ecs]
          refine str_at (i := i + 1) ?_ (by omega)
          rw [List.getElem?_cons_succ, List.getElem?_append_left hiw]; exact hwi
        refine iteDT (by omega) ⟨_, rfl, rfl, _, rfl, iteNT (clsS_ne hk (cls_le c)) ⟨_, rfl, _, rfl, _, _, _, rfl, rfl, hszl, e1, _, rfl, _, _, rfl, rfl, _, rfl, ?_, rfl⟩⟩
        rw [decide_eq_true hiw]
        exact decide_eq_true ((mem_cls hk (cls_le c)).mpr (hw _ (List.getElem_mem hiw)))
      · have hiw2 : i = w.length := by omega
        subst hiw2
        rw [decide_eq_false hiw]
        cases rest with
        | nil => exact iteDF (by have : ([] : List Nat).length = 0 := rfl; omega) ⟨rfl, rfl⟩
        | cons d rest =>
          have hrl : (d :: rest).length = rest.length + 1 := rfl
          refine iteDT (by omega) ⟨_, rfl, rfl, _, rfl, ?_⟩
          by_cases hk : cls c = 0
          · rw [hk]
            exact iteNF rfl ⟨rfl, rfl⟩
          · have e1 : atI (strL cs).cps.toList ((pre.length + 1 + w.length : Nat) : Int) = some d := by
              rw [ecs]
              refine str_at (i := w.length + 1) ?_ (by omega)
              rw [List.getElem?_cons_succ, List.getElem?_append_right (Nat.le_refl _), Nat.sub_self]; rfl
            exact iteNT (clsS_ne hk (cls_le c)) ⟨_, rfl, _, rfl, _, _, _, rfl, rfl, hszl, e1, _, rfl, _, _, rfl, rfl, _, rfl, decide_eq_false (fun z => hc hk d rfl ((mem_cls hk (cls_le c)).mp z)), rfl⟩
    rintro b H'' ⟨rfl, rfl⟩
    by_cases hiw : i < w.length
    · refine iteDT hiw ⟨fun σ Hx => σ = [some (.str (strL cs)), some (.ref f), some (.int (pre.length : Nat)), some (.str (sg c)), some (.int ((pre.length + 1 + (i + 1) : Nat) : Int)), some (.str (clsS (cls c)))] ∧ Hx = H'', ?_, ?_⟩
      · rintro σ' Hx ⟨rfl, rfl⟩
        exact ⟨w.length - (i + 1), by omega, i + 1, hiw, rfl, rfl, rfl⟩
      · exact ⟨_, rfl, _, _, rfl, rfl, rfl, rfl⟩
    have hiw2 : i = w.length := by omega
    subst hiw2
    refine iteDF hiw ?_
    -- two dots
    refine ⟨fun b H' => b = decide ((c :: (w ++ rest)).take 2 = [46, 46]) ∧ H' = H'', ?_, ?_⟩
    · refine ⟨_, rfl, _, rfl, _, rfl, _, rfl, _, _, rfl, rfl, _, rfl, _, rfl, hszl, rfl, _, rfl, ?_, rfl⟩
      rw [ecs, cut_at pre (c :: (w ++ rest)) 2 (i := (pre.length : Nat)) (j := (pre.length : Nat) + 2) rfl rfl]
      by_cases h : (c :: (w ++ rest)).take 2 = [46, 46]
      · rw [decide_eq_true h, decide_eq_true (dots_eq.mpr h)]
      · rw [decide_eq_false h, decide_eq_false (fun z => h (dots_eq.mp z))]
    rintro b Hy ⟨rfl, rfl⟩
    -- the word is put
    have put : ∀ (k : Nat) (z : List Nat) (j : Int), j = ((pre.length + k : Nat) : Int) → (c :: (w ++ rest)).take k = z → cutS (strL cs) (some (pre.length : Nat)) (some j) = strL z := fun k z j hj hz => by
      rw [ecs, cut_at pre (c :: (w ++ rest)) k rfl hj, hz]
    have step : ∀ (z : List Nat) (t : Addr) (n : Nat) (post' : List Nat) (ws' : List (List Nat)) (o3 o4 o5 : Option V), Hy t = none → cs = (pre ++ (c :: (w ++ rest)).take n) ++ post' → 1 ≤ n → n ≤ (c :: (w ++ rest)).length → Lex post' ws' → ws2 = z :: ws' →
        upd Hy t (.tup [.str (strL z), .int (pre.length : Nat)]) f = some (.lst tv) ∧ ∀ m', m' = ((pre.length + n : Nat) : Int) → ∃ m'', m'' < (c :: (w ++ rest)).length ∧ WInv K H f cs ws m'' [some (.str (strL cs)), some (.ref f), some (.int m'), o3, o4, o5] (upd (upd Hy t (.tup [.str (strL z), .int (pre.length : Nat)])) f (.lst (tv ++ [.ref t]))) := by
      intro z t n post' ws' o3 o4 o5 ht e1 hn1 hn e2 e3
      have e : upd Hy t (.tup [.str (strL z), .int (pre.length : Nat)]) f = some (.lst tv) := by rw [upd_ne (ne_of_none hf2 ht)]; exact hf2
      refine ⟨e, fun m' hm => ?_⟩
      subst hm
      have kf : Kp [f] (upd Hy t (.tup [.str (strL z), .int (pre.length : Nat)])) (upd (upd Hy t (.tup [.str (strL z), .int (pre.length : Nat)])) f (.lst (tv ++ [.ref t]))) := .put (by simp) e rfl
      have hln : (pre ++ (c :: (w ++ rest)).take n).length = pre.length + n := by rw [List.length_append, List.length_take, Nat.min_eq_left hn]
      have hp' : cs.length = (pre ++ (c :: (w ++ rest)).take n).length + post'.length := by rw [e1, List.length_append]
      refine ⟨post'.length, by omega, pre ++ (c :: (w ++ rest)).take n, post', ws1 ++ [z], ws', o3, o4, o5, _, e1, rfl, e2, by rw [ews, e3, List.append_assoc]; rfl, by rw [List.length_append, List.length_singleton]; omega, by rw [hln], (k12.newT ht).putN hf, upd_same, ?_⟩
      exact paired_snoc (pkp htv2 fun _ _ z => (z.kp (.new (S := []) ht)).kp kf) ⟨t, (pre.length : Nat), rfl, kpT (SqT.of upd_same) kf⟩
    have htl2 : tv.length < sizeLine := Nat.lt_of_le_of_lt (show tv.length ≤ 2000 by omega) (by decide)
    have tk1 : (c :: (w ++ rest)).take (w.length + 1) = c :: w := by rw [List.take_succ_cons, List.take_left]
    rcases kind with ⟨hk, ws', e2, hl3⟩ | ⟨hk, hsi, ws', e2, hl3⟩ | ⟨hk, hbl, hl3⟩ | ⟨rfl, r, ws', rfl, e2, hl3⟩
    · have hnd : ¬ (c :: (w ++ rest)).take 2 = [46, 46] := fun z => hk (by
        have : c = 46 := by
          rw [List.take_succ_cons] at z
          exact (List.cons.inj z).1
        rw [this]; decide)
      refine iteDF hnd ?_
      refine ⟨_, rfl, rfl, _, rfl, iteNT (clsS_ne hk (cls_le c)) (iteT ?_)⟩
      refine ⟨_, rfl, .inl ⟨rfl, _, SqL.of hf2⟩, _, rfl, _, rfl, _, rfl, _, rfl, _, rfl, ?_⟩
      have ez := put (w.length + 1) (c :: w) ((pre.length + 1 + w.length : Nat) : Int) (by omega) tk1
      refine ⟨_, rfl, hszl, _, rfl, by show 2 ≤ sizeLine; decide, fun t ht => ?_⟩
      obtain ⟨s1, s2⟩ := step (c :: w) t (w.length + 1) rest ws' (some (.str (sg c))) (some (.int ((pre.length + 1 + w.length : Nat) : Int))) (some (.str (clsS (cls c)))) ht (by rw [tk1, ecs, List.append_assoc]; rfl) (by omega) (by rw [hpl, List.length_append]; omega) hl3 e2
      rw [← ez] at s1 s2
      exact ⟨f, tv, _, rfl, rfl, s1, htl2, _, rfl, s2 _ (by omega)⟩
    · have hw' := hw0 hk
      subst hw'
      have hnd : ¬ (c :: ([] ++ rest)).take 2 = [46, 46] := fun z => by
        have : c = 46 := by
          rw [List.take_succ_cons] at z
          exact (List.cons.inj z).1
        subst this
        exact absurd hsi (by decide)
      refine iteDF hnd ?_
      rw [hk]
      refine ⟨_, rfl, rfl, _, rfl, iteNF rfl ⟨_, rfl, c, _, rfl, rfl, _, rfl, iteDT (mem_single.mpr hsi) (iteT ?_)⟩⟩
      refine ⟨_, rfl, .inl ⟨rfl, _, SqL.of hf2⟩, _, rfl, _, rfl, _, rfl, _, rfl, _, rfl, ?_⟩
      have ez := put 1 [c] ((pre.length + 1 + ([] : List Nat).length : Nat) : Int) (by simp) rfl
      refine ⟨_, rfl, hszl, _, rfl, by show 2 ≤ sizeLine; decide, fun t ht => ?_⟩
      obtain ⟨s1, s2⟩ := step [c] t 1 rest ws' (some (.str (sg c))) (some (.int ((pre.length + 1 + ([] : List Nat).length : Nat) : Int))) (some (.str (clsS 0))) ht (by rw [ecs, List.append_assoc]; rfl) (by omega) (by rw [hpl]; omega) hl3 e2
      rw [← ez] at s1 s2
      exact ⟨f, tv, _, rfl, rfl, s1, htl2, _, rfl, s2 _ (by simp)⟩
    · have hw' := hw0 hk
      subst hw'
      have hnd : ¬ (c :: ([] ++ rest)).take 2 = [46, 46] := fun z => by
        have : c = 46 := by
          rw [List.take_succ_cons] at z
          exact (List.cons.inj z).1
        omega
      have hns : ¬ isSingle c := fun z => single_not_blank z hbl
      refine iteDF hnd ?_
      rw [hk]
      refine ⟨_, rfl, rfl, _, rfl, iteNF rfl ⟨_, rfl, c, _, rfl, rfl, _, rfl, iteDF (fun z => hns (mem_single.mp z)) ⟨_, rfl, _, rfl, _, _, rfl, rfl, rfl, _, rfl, iteDF (by intro z; have := V.int.inj z; simp at this) ?_⟩⟩⟩
      refine ⟨_, rfl, c, _, rfl, rfl, _, rfl, iteNF (mem_blank.mpr hbl) ?_⟩
      refine ⟨_, rfl, rest.length, by rw [hpl]; exact Nat.lt_succ_self _, pre ++ [c], rest, ws1, ws2, _, _, _, tv, by rw [ecs, List.append_assoc]; rfl, rfl, hl3, ews, by rw [List.length_append]; omega, by rw [List.length_append]; rfl, k12, hf2, htv2⟩
    · have hw' := hw0 (by decide)
      subst hw'
      refine iteDT rfl ?_
      refine ⟨_, rfl, _, _, rfl, rfl, ?_⟩
      refine ⟨_, rfl, rfl, _, rfl, iteNF rfl ⟨_, rfl, 46, _, rfl, rfl, _, rfl, iteDF (fun z => absurd (mem_single.mp z) (by decide)) ⟨_, rfl, _, rfl, _, _, rfl, rfl, rfl, _, rfl, iteDT rfl ?_⟩⟩⟩
      refine ⟨_, rfl, .inl ⟨rfl, _, SqL.of hf2⟩, _, rfl, _, rfl, _, rfl, _, rfl, _, rfl, ?_⟩
      have ez := put 2 [46, 46] ((pre.length : Nat) + 2) rfl rfl
      refine ⟨_, rfl, hszl, _, rfl, by show 2 ≤ sizeLine; decide, fun t ht => ?_⟩
      obtain ⟨s1, s2⟩ := step [46, 46] t 2 r ws' (some (.str (sg 46))) (some (.int ((pre.length : Nat) + 2))) (some (.str (clsS (cls 46)))) ht (by rw [ecs, List.append_assoc]; rfl) (by omega) (by rw [hpl]; show 2 ≤ ([] ++ 46 :: r).length + 1; simp) hl3 e2
      rw [← ez] at s1 s2
      exact ⟨f, tv, _, rfl, rfl, s1, htl2, _, rfl, s2 _ rfl⟩
end
end Ink
set_option Elab.async false
set_option linter.all false
set_option pp.maxSteps 150
set_option maxRecDepth 100000
set_option maxHeartbeats 4000000
namespace Ink
open PySem PySem.Spec PyProof.Rows L2 StX
/-! ### a Reading object -/
structure RB where
  b : Addr
  dx : Addr
  wl : Addr
  tv : List V
  ws : List (List Nat)
def rfs (wl : Addr) (i dp : Nat) : List (Str × V) := [("words", .ref wl), ("at", .int (i : Nat)), ("deep", .int (dp : Nat))]
theorem rfs_words (wl : Addr) (i dp : Nat) : (rfs wl i dp).lookup ("words" : Str) = some (.ref wl) := by kernel_rfl
theorem rfs_at (wl : Addr) (i dp : Nat) : (rfs wl i dp).lookup ("at" : Str) = some (.int (i : Nat)) := by kernel_rfl
theorem rfs_deep (wl : Addr) (i dp : Nat) : (rfs wl i dp).lookup ("deep" : Str) = some (.int (dp : Nat)) := by kernel_rfl
theorem rfs_pat (wl : Addr) (i j dp : Nat) : putF "at" (.int (j : Nat)) (rfs wl i dp) = rfs wl j dp := by kernel_rfl
theorem rfs_pdeep (wl : Addr) (i dp dq : Nat) : putF "deep" (.int (dq : Nat)) (rfs wl i dp) = rfs wl i dq := by kernel_rfl
theorem rfs_no (wl : Addr) (i dp : Nat) {m : Str} (h : m ∈ (["word", "take", "need", "name", "sign", "number", "rests", "look", "reader", "claim", "both", "part", "bracket", "ask", "write", "statement", "program"] : List Str)) : (rfs wl i dp).lookup m = none := by
  simp only [List.mem_cons, List.not_mem_nil, or_false] at h
  rcases h with rfl | rfl | rfl | rfl | rfl | rfl | rfl | rfl | rfl | rfl | rfl | rfl | rfl | rfl | rfl | rfl | rfl <;> kernel_rfl
structure Rg (K : PySem.W.Frag) (H : Hp) (R : RB) (i dp : Nat) : Prop where
  ins : H R.b = some (.ins (He.ga K "Reading") R.dx (rfs R.wl i dp))
  lst : H R.wl = some (.lst R.tv)
  tok : Paired (IsTk K H) R.tv R.ws
section
variable {K : PySem.W.Frag} {H H' : Hp} {R : RB} {i dp : Nat}
theorem Rg.ne (h : Rg K H R i dp) : R.b ≠ R.wl := ne_of h.ins h.lst (by intro z; cases z)
theorem Rg.kp {S : List Addr} (h : Rg K H R i dp) (k : Kp S H H') (h1 : R.b ∉ S) (h2 : R.wl ∉ S) : Rg K H' R i dp := ⟨k.keep _ _ h.ins h1, k.keep _ _ h.lst h2, pkp h.tok fun _ _ z => z.kp k⟩
theorem Rg.kp0 (h : Rg K H R i dp) (k : Kp [] H H') : Rg K H' R i dp := h.kp k (by simp) (by simp)
theorem Rg.set (h : Rg K H R i dp) (j dq : Nat) : Kp [R.b] H (upd H R.b (.ins (He.ga K "Reading") R.dx (rfs R.wl j dq))) ∧ Rg K (upd H R.b (.ins (He.ga K "Reading") R.dx (rfs R.wl j dq))) R j dq := by
  have k : Kp [R.b] H (upd H R.b (.ins (He.ga K "Reading") R.dx (rfs R.wl j dq))) := .put (by simp) h.ins rfl
  exact ⟨k, upd_same, by rw [upd_ne h.ne.symm]; exact h.lst, pkp h.tok fun _ _ z => z.kp k⟩
theorem Rg.at (h : Rg K H R i dp) {j : Nat} {w : List Nat} (hw : R.ws[j]? = some w) : ∃ a n, atI R.tv (j : Int) = some (.ref a) ∧ SqT K H a [.str (strL w), .int n] := by
  obtain ⟨v, hv, a, n, rfl, hs⟩ := paired_at' h.tok hw
  exact ⟨a, n, atI_nat hv, hs⟩
end
/-! words that stand at a place -/
def Ats (ws : List (List Nat)) (i : Nat) (l : List (List Nat)) : Prop := ∃ r, ws.drop i = l ++ r
theorem Ats.head {ws : List (List Nat)} {i : Nat} {w : List Nat} {l : List (List Nat)} (h : Ats ws i (w :: l)) : ws[i]? = some w := by
  obtain ⟨r, e⟩ := h
  have := congrArg (fun x => x[0]?) e
  rw [List.getElem?_drop] at this
  exact this
theorem Ats.tail {ws : List (List Nat)} {i : Nat} {w : List Nat} {l : List (List Nat)} (h : Ats ws i (w :: l)) : Ats ws (i + 1) l := by
  obtain ⟨r, e⟩ := h
  refine ⟨r, ?_⟩
  rw [← List.drop_drop, e]
  rfl
theorem Ats.left {ws : List (List Nat)} {i : Nat} {l m : List (List Nat)} (h : Ats ws i (l ++ m)) : Ats ws i l := by
  obtain ⟨r, e⟩ := h
  exact ⟨m ++ r, by rw [e, List.append_assoc]⟩
theorem Ats.right {ws : List (List Nat)} : ∀ {l : List (List Nat)} {i : Nat} {m : List (List Nat)}, Ats ws i (l ++ m) → Ats ws (i + l.length) m
  | [], _, _, h => h
  | w :: l, i, m, h => by
    have := Ats.right (l := l) (Ats.tail h)
    rw [List.length_cons, show i + (l.length + 1) = i + 1 + l.length by omega]
    exact this
/-! numbers, names, signs as words -/
abbrev numW (n : Nat) : List Nat := [48 + n]
def NameW (w : List Nat) : Prop := (∃ c r, w = c :: r ∧ cls c = 2) ∧ w.length ≤ 8
theorem num_int {n : Nat} (h : n < 10) : PySem.intText? (strL (numW n)) = some (n : Int) := by
  have : n = 0 ∨ n = 1 ∨ n = 2 ∨ n = 3 ∨ n = 4 ∨ n = 5 ∨ n = 6 ∨ n = 7 ∨ n = 8 ∨ n = 9 := by omega
  rcases this with rfl | rfl | rfl | rfl | rfl | rfl | rfl | rfl | rfl | rfl <;> decide +kernel
section
variable {P : Program} {w : World} {K : PySem.W.Frag} {mg : Str → Option Value} {base : Heap}
def sp_is_number : Sp := fun vs H Q _ => ∃ n, vs = [.str (strL (numW n))] ∧ n < 10 ∧ Q (.bl true) H
theorem sc_is_number : FnScope ["word"] ["word"] (defScope s_is_number) := ⟨rfl, rfl, rfl, by decide +kernel, rfl, by decide +kernel, by decide +kernel⟩
theorem ok_is_number (T : Txt w K mg) : FnOk P w K mg base CX0 1 (He.ga K "is_number") (fdA K (He.ga K "is_number")) ["word"] sp_is_number := by
  refine (d_is_number T).ok sc_is_number (fun vs H Q E h => ?_) (fun cdv A outer s H vs Q E hr h => ?_)
  · obtain ⟨_, rfl, _⟩ := h; rfl
  obtain ⟨n, rfl, hn, q⟩ := h
  refine ⟨_, (pss_cons (ps_if (PW.pt (pw_or (pt_cmpR op_eq (pv 0) pe_str (nomark _)) (pw_or (pt_cmpR op_notIn_sign (pe_ix ix_str (pv 0) pe_int (fun _ _ => rfl)) (pgs (i_FIGURES T)) (by with_unfolding_all rfl)) (pw_or1 (pt_cmpR op_gt (pe_callB call_len (by rfl) (f_len T) bb_len (pa_cons (pv 0) pa_nil)) (pgi (i_MOST_FIGURES T)) (nomark _)))))) (pss_one (ps_ret pe_bl)) pss_nil)
      (pss_one (ps_ret (pe_or (pe_cmpR op_eq (pv 0) pe_str (nomark _)) (pe_one (pe_cmpR op_ne (pe_ix ix_str (pv 0) pe_int (fun _ _ => rfl)) pe_str (nomark _))))))), ?_⟩
  have h1 : ¬ V.str (strL (numW n)) = V.str "" := fun z => by
    have z2 := V.str.inj z
    rw [← strL_nil] at z2
    exact absurd (strL_inj z2) (by simp)
  have hc : cls (48 + n) = 3 := by unfold cls; rw [if_neg (by omega), if_neg (by omega), if_pos (by omega)]
  refine ⟨_, rfl, rfl, _, rfl, iteDF h1 ⟨_, rfl, _, _, 48 + n, rfl, rfl, by show 1 ≤ sizeLine; decide, rfl, _, _, rfl, rfl, _, rfl, iteNF (mem_c3.mpr hc) ⟨_, rfl, _, 1, rfl, ⟨by show 1 ≤ sizeLine; decide, rfl⟩, _, _, rfl, rfl, _, rfl, iteDF (by decide) ?_⟩⟩⟩
  refine ⟨_, rfl, rfl, _, rfl, ?_⟩
  by_cases h0 : V.str (strL (numW n)) = V.str "0"
  · exact iteDT h0 q
  · refine iteDF h0 ⟨_, rfl, _, _, 48 + n, rfl, rfl, by show 1 ≤ sizeLine; decide, rfl, rfl, ?_⟩
    refine qb ?_ q
    rw [decide_eq_false (show ¬ V.str (sg (48 + n)) = V.str "0" from h0)]
    rfl
def sp_Reading_init (K : PySem.W.Frag) : Sp := fun vs H Q _ => ∃ (x dx : Addr) (cs : List Nat) (ws : List (List Nat)), vs = [.ref x, .str (strL cs)] ∧ H x = some (.ins (He.ga K "Reading") dx []) ∧ Lex cs ws ∧ cs.length ≤ 2000 ∧
  ∀ H' R, Kp [x] H H' → R.b = x → R.ws = ws ++ [[]] → Rg K H' R 0 0 → H R.wl = none → Q .non H'
theorem sc_Reading_init : FnScope ["self", "text"] ["self", "text"] (defScope s_Reading_init) := ⟨rfl, rfl, rfl, by decide +kernel, rfl, by decide +kernel, by decide +kernel⟩
theorem ok_Reading_init (T : Txt w K mg) : FnOk P w K mg base CX0 3 (He.ma K (He.ga K "Reading") "__init__") (fdA K (He.ma K (He.ga K "Reading") "__init__")) ["self", "text"] (sp_Reading_init K) := by
  have G_words_of := ok_words_of (P := P) (base := base) T
  refine (m_Reading_init T).ok sc_Reading_init (fun vs H Q E h => ?_) (fun cdv A outer s H vs Q E hr h => ?_)
  · obtain ⟨_, _, _, _, rfl, _⟩ := h; rfl
  obtain ⟨x, dx, cs, ws, rfl, hx, hl, hlen, q⟩ := h
  refine ⟨_, (pss_cons (ps_fld (pv 0) (pcall (d_words_of T) G_words_of (hr.mono (by decide)) (pa_cons (pv 1) pa_nil)) rfl)
      (pss_cons (ps_fld (pv 0) pe_int rfl)
      (pss_one (ps_fld (pv 0) pe_int rfl)))), ?_⟩
  refine ⟨_, rfl, cs, ws, rfl, hl, hlen, fun H1 a tv k1 ha ha1 htv => ?_⟩
  have hx1 := k1.keep _ _ hx (by simp)
  have nxa : x ≠ a := ne_of hx1 ha1 (by intro z; cases z)
  refine ⟨_, rfl, x, _, dx, _, rfl, hx1, cl_Reading T, n_Reading_words T, (by show 0 < 1000; decide), ?_⟩
  refine ⟨_, rfl, x, _, dx, _, rfl, upd_same, cl_Reading T, n_Reading_at T, (by show 1 < 1000; decide), ?_⟩
  refine ⟨_, rfl, x, _, dx, _, rfl, upd_same, cl_Reading T, n_Reading_deep T, (by show 2 < 1000; decide), ?_⟩
  have e : putF "deep" (V.int 0) (putF "at" (V.int 0) (putF "words" (V.ref a) [])) = rfs a 0 0 := by kernel_rfl
  rw [e]
  have kk : ∀ o o' o'', Kp [x] H1 (upd (upd (upd H1 x o) x o') x o'') := fun o o' o'' => by
    rw [upd_upd, upd_upd]
    exact .put (by simp) hx1 rfl
  refine q _ ⟨x, dx, a, tv, ws ++ [[]]⟩ (k1.mono0.trans (kk _ _ _)) rfl rfl ⟨upd_same, ?_, pkp htv fun _ _ z => z.kp (kk _ _ _)⟩ ha
  show upd _ x _ a = _
  rw [upd_ne nxa.symm, upd_ne nxa.symm, upd_ne nxa.symm]
  exact ha1
def sp_Reading_word (K : PySem.W.Frag) : Sp := fun vs H Q _ => ∃ R i dp z, vs = [.ref R.b] ∧ Rg K H R i dp ∧ R.ws[i]? = some z ∧ Q (.str (strL z)) H
theorem sc_Reading_word : FnScope ["self"] ["self"] (defScope s_Reading_word) := ⟨rfl, rfl, rfl, by decide +kernel, rfl, by decide +kernel, by decide +kernel⟩
theorem ok_Reading_word (T : Txt w K mg) : FnOk P w K mg base CX0 1 (He.ma K (He.ga K "Reading") "word") (fdA K (He.ma K (He.ga K "Reading") "word")) ["self"] (sp_Reading_word K) := by
  refine (m_Reading_word T).ok sc_Reading_word (fun vs H Q E h => ?_) (fun cdv A outer s H vs Q E hr h => ?_)
  · obtain ⟨_, _, _, _, rfl, _⟩ := h; rfl
  obtain ⟨R, i, dp, z, rfl, hR, hz, q⟩ := h
  obtain ⟨a, n, ht, hs⟩ := hR.at hz
  refine ⟨_, (pss_one (ps_ret (pe_ix ix_tup (pe_ix ix_list (pe_fld (pv 0) rfl) (pe_fld (pv 0) rfl) (fun _ _ => rfl)) pe_int (fun _ _ => rfl)))), ?_⟩
  exact ⟨_, rfl, R.b, _, R.dx, _, _, rfl, hR.ins, cl_Reading T, n_Reading_words T, rfs_words _ _ _, _, rfl, R.b, _, R.dx, _, _, rfl, hR.ins, cl_Reading T, n_Reading_at T, rfs_at _ _ _, R.wl, _, _, _, rfl, rfl, SqL.of hR.lst, ht, a, _, _, _, rfl, rfl, hs, rfl, q⟩
def sp_Reading_take (K : PySem.W.Frag) : Sp := fun vs H Q _ => ∃ R i dp z, vs = [.ref R.b] ∧ Rg K H R i dp ∧ R.ws[i]? = some z ∧ ∀ H', Kp [R.b] H H' → Rg K H' R (i + 1) dp → Q (.str (strL z)) H'
theorem sc_Reading_take : FnScope ["self"] ["self"] (defScope s_Reading_take) := ⟨rfl, rfl, rfl, by decide +kernel, rfl, by decide +kernel, by decide +kernel⟩
theorem ok_Reading_take (T : Txt w K mg) : FnOk P w K mg base CX0 1 (He.ma K (He.ga K "Reading") "take") (fdA K (He.ma K (He.ga K "Reading") "take")) ["self"] (sp_Reading_take K) := by
  refine (m_Reading_take T).ok sc_Reading_take (fun vs H Q E h => ?_) (fun cdv A outer s H vs Q E hr h => ?_)
  · obtain ⟨_, _, _, _, rfl, _⟩ := h; rfl
  obtain ⟨R, i, dp, z, rfl, hR, hz, q⟩ := h
  refine ⟨_, (pss_cons (ps_fldaug (pv 0) pe_int in_add)
      (pss_one (ps_ret (pe_ix ix_tup (pe_ix ix_list (pe_fld (pv 0) rfl) (pe_op op_sub (pe_fld (pv 0) rfl) pe_int) (fun _ _ => rfl)) pe_int (fun _ _ => rfl))))), ?_⟩
  refine ⟨_, rfl, R.b, _, R.dx, _, _, rfl, hR.ins, cl_Reading T, n_Reading_at T, rfs_at _ _ _, _, _, rfl, rfl, R.dx, _, hR.ins, by show 3 < 1000; decide, ?_⟩
  have e : putF "at" (V.int ((i : Nat) + 1)) (rfs R.wl i dp) = rfs R.wl (i + 1) dp := rfs_pat _ _ _ _
  rw [e]
  obtain ⟨k, hR1⟩ := hR.set (i + 1) dp
  obtain ⟨a, n, ht, hs⟩ := hR1.at hz
  have ei : ((i + 1 : Nat) : Int) - 1 = (i : Nat) := by omega
  refine ⟨_, rfl, R.b, _, R.dx, _, _, rfl, hR1.ins, cl_Reading T, n_Reading_words T, rfs_words _ _ _, _, rfl, R.b, _, R.dx, _, _, rfl, hR1.ins, cl_Reading T, n_Reading_at T, rfs_at _ _ _, _, _, rfl, rfl, R.wl, _, _, _, rfl, rfl, SqL.of hR1.lst, (by rw [ei]; exact ht), a, _, _, _, rfl, rfl, hs, rfl, q _ k hR1⟩
def sp_Reading_need (K : PySem.W.Frag) : Sp := fun vs H Q _ => ∃ R i dp z, vs = [.ref R.b, .str (strL z)] ∧ Rg K H R i dp ∧ R.ws[i]? = some z ∧ ∀ H', Kp [R.b] H H' → Rg K H' R (i + 1) dp → Q .non H'
theorem sc_Reading_need : FnScope ["self", "word"] ["self", "word"] (defScope s_Reading_need) := ⟨rfl, rfl, rfl, by decide +kernel, rfl, by decide +kernel, by decide +kernel⟩
theorem ok_Reading_need (T : Txt w K mg) : FnOk P w K mg base CX0 2 (He.ma K (He.ga K "Reading") "need") (fdA K (He.ma K (He.ga K "Reading") "need")) ["self", "word"] (sp_Reading_need K) := by
  have G_Reading_word := ok_Reading_word (P := P) (base := base) T
  refine (m_Reading_need T).ok sc_Reading_need (fun vs H Q E h => ?_) (fun cdv A outer s H vs Q E hr h => ?_)
  · obtain ⟨_, _, _, _, rfl, _⟩ := h; rfl
  obtain ⟨R, i, dp, z, rfl, hR, hz, q⟩ := h
  refine ⟨_, (pss_cons (ps_if (pt_cmpR op_ne (pmeth0 (pv 0) (cl_Reading T) (a_Reading_word T) (m_Reading_word T) G_Reading_word (hr.mono (by decide))) (pv 1) (nomark _)) (pss_one ps_never) pss_nil)
      (pss_one (ps_fldaug (pv 0) pe_int in_add))), ?_⟩
  refine ⟨_, rfl, R.b, R.dx, _, rfl, hR.ins, rfs_no _ _ _ (by simp), R, i, dp, z, rfl, hR, hz, _, rfl, rfl, _, rfl, iteNF rfl ?_⟩
  refine ⟨_, rfl, R.b, _, R.dx, _, _, rfl, hR.ins, cl_Reading T, n_Reading_at T, rfs_at _ _ _, _, _, rfl, rfl, R.dx, _, hR.ins, by show 3 < 1000; decide, ?_⟩
  have e : putF "at" (V.int ((i : Nat) + 1)) (rfs R.wl i dp) = rfs R.wl (i + 1) dp := rfs_pat _ _ _ _
  rw [e]
  obtain ⟨k, hR1⟩ := hR.set (i + 1) dp
  exact q _ k hR1
end
end Ink
set_option Elab.async false
set_option linter.all false
set_option pp.maxSteps 150
set_option maxRecDepth 100000
set_option maxHeartbeats 4000000
namespace Ink
open PySem PySem.Spec PyProof.Rows L2 StX
/-! ### the words of a program -/
structure PLk where
  cell : Nat
  low : Nat
  high : Nat
def PLk.lk (k : PLk) : Lk := ⟨(k.cell : Nat), (k.low : Nat), (k.high : Nat)⟩
def PLk.Sm (k : PLk) : Prop := k.cell < 10 ∧ k.low < 10 ∧ k.high < 10
abbrev kw (s : Str) : List Nat := unS s
def restsW (lo hi : Nat) : List (List Nat) := [numW lo, kw "..", numW hi]
def lkW (k : PLk) : List (List Nat) := numW k.cell :: kw "at" :: restsW k.low k.high
def moreW (ks : List PLk) : List (List Nat) := ks.flatMap fun k => kw "," :: lkW k
def startW : Option Nat → List (List Nat)
  | none => [kw "begin"]
  | some n => [kw "write", numW n]
theorem kw_ne {a b : Str} (h : ¬ V.str a = V.str b) : ¬ V.str (strL (kw a)) = V.str b := h
section
variable {P : Program} {w : World} {K : PySem.W.Frag} {mg : Str → Option Value} {base : Heap}
def sp_Reading_name (K : PySem.W.Frag) : Sp := fun vs H Q _ => ∃ R i dp z, vs = [.ref R.b] ∧ Rg K H R i dp ∧ R.ws[i]? = some z ∧ NameW z ∧ ∀ H', Kp [R.b] H H' → Rg K H' R (i + 1) dp → Q (.str (strL z)) H'
theorem sc_Reading_name : FnScope ["self", "word"] ["self"] (defScope s_Reading_name) := ⟨rfl, rfl, rfl, by decide +kernel, rfl, by decide +kernel, by decide +kernel⟩
theorem ok_Reading_name (T : Txt w K mg) : FnOk P w K mg base CX0 2 (He.ma K (He.ga K "Reading") "name") (fdA K (He.ma K (He.ga K "Reading") "name")) ["self"] (sp_Reading_name K) := by
  have G_Reading_word := ok_Reading_word (P := P) (base := base) T
  have G_Reading_take := ok_Reading_take (P := P) (base := base) T
  refine (m_Reading_name T).ok sc_Reading_name (fun vs H Q E h => ?_) (fun cdv A outer s H vs Q E hr h => ?_)
  · obtain ⟨_, _, _, _, rfl, _⟩ := h; rfl
  obtain ⟨R, i, dp, z, rfl, hR, hz, ⟨⟨c, r, rfl, hc⟩, h8⟩, q⟩ := h
  refine ⟨_, (pss_cons (ps_set (i := 1) sc_Reading_name.nd rfl (Or.inl rfl) (pmeth0 (pv 0) (cl_Reading T) (a_Reading_word T) (m_Reading_word T) G_Reading_word (hr.mono (by decide))))
      (pss_cons (ps_if (PW.pt (pw_or (pt_cmpR op_eq (pv 1) pe_str (nomark _)) (pw_or (pt_cmpR op_notIn_sign (pe_ix ix_str (pv 1) pe_int (fun _ _ => rfl)) (pgs (i_GREAT T)) (by with_unfolding_all rfl)) (pw_or1 (pt_cmpR op_gt (pe_callB call_len (by rfl) (f_len T) bb_len (pa_cons (pv 1) pa_nil)) (pgi (i_MOST_NAME T)) (nomark _)))))) (pss_one ps_never) pss_nil)
      (pss_one (ps_ret (pmeth0 (pv 0) (cl_Reading T) (a_Reading_take T) (m_Reading_take T) G_Reading_take (hr.mono (by decide))))))), ?_⟩
  have hl : (strL (c :: r)).length ≤ sizeLine := Nat.le_trans h8 (by decide)
  have h1 : ¬ V.str (strL (c :: r)) = V.str "" := fun z => by
    have z2 := V.str.inj z
    rw [← strL_nil] at z2
    exact absurd (strL_inj z2) (by simp)
  refine ⟨_, rfl, R.b, R.dx, _, rfl, hR.ins, rfs_no _ _ _ (by simp), R, i, dp, _, rfl, hR, hz, ?_⟩
  refine ⟨_, rfl, rfl, _, rfl, iteDF h1 ⟨_, rfl, _, _, c, rfl, rfl, hl, atI_nat (j := 0) rfl, _, _, rfl, rfl, _, rfl, iteNF (mem_c2.mpr hc) ⟨_, rfl, _, _, rfl, ⟨hl, rfl⟩, _, _, rfl, rfl, _, rfl, iteDF (by have : (strL (c :: r)).length ≤ 8 := h8; omega) ?_⟩⟩⟩
  exact ⟨_, rfl, R.b, R.dx, _, rfl, hR.ins, rfs_no _ _ _ (by simp), R, i, dp, _, rfl, hR, hz, q⟩
def sp_Reading_sign (K : PySem.W.Frag) : Sp := fun vs H Q _ => ∃ R i dp c, vs = [.ref R.b] ∧ Rg K H R i dp ∧ R.ws[i]? = some [c] ∧ cls c = 1 ∧ ∀ H', Kp [R.b] H H' → Rg K H' R (i + 1) dp → Q (.str (sg c)) H'
theorem sc_Reading_sign : FnScope ["self"] ["self"] (defScope s_Reading_sign) := ⟨rfl, rfl, rfl, by decide +kernel, rfl, by decide +kernel, by decide +kernel⟩
theorem ok_Reading_sign (T : Txt w K mg) : FnOk P w K mg base CX0 2 (He.ma K (He.ga K "Reading") "sign") (fdA K (He.ma K (He.ga K "Reading") "sign")) ["self"] (sp_Reading_sign K) := by
  have G_Reading_word := ok_Reading_word (P := P) (base := base) T
  have G_Reading_take := ok_Reading_take (P := P) (base := base) T
  refine (m_Reading_sign T).ok sc_Reading_sign (fun vs H Q E h => ?_) (fun cdv A outer s H vs Q E hr h => ?_)
  · obtain ⟨_, _, _, _, rfl, _⟩ := h; rfl
  obtain ⟨R, i, dp, c, rfl, hR, hz, hc, q⟩ := h
  refine ⟨_, (pss_cons (ps_if (PW.pt (pw_or (pt_cmpR op_ne (pe_callB call_len (by rfl) (f_len T) bb_len (pa_cons (pmeth0 (pv 0) (cl_Reading T) (a_Reading_word T) (m_Reading_word T) G_Reading_word (hr.mono (by decide))) pa_nil)) pe_int (nomark _)) (pw_or1 (pt_cmpR op_notIn_sign (pmeth0 (pv 0) (cl_Reading T) (a_Reading_word T) (m_Reading_word T) G_Reading_word (hr.mono (by decide))) (pgs (i_SMALL T)) (by with_unfolding_all rfl))))) (pss_one ps_never) pss_nil)
      (pss_one (ps_ret (pmeth0 (pv 0) (cl_Reading T) (a_Reading_take T) (m_Reading_take T) G_Reading_take (hr.mono (by decide)))))), ?_⟩
  refine ⟨_, rfl, R.b, R.dx, _, rfl, hR.ins, rfs_no _ _ _ (by simp), R, i, dp, _, rfl, hR, hz, _, 1, rfl, ⟨by show 1 ≤ sizeLine; decide, rfl⟩, rfl, _, rfl, iteNF rfl ?_⟩
  refine ⟨_, rfl, R.b, R.dx, _, rfl, hR.ins, rfs_no _ _ _ (by simp), R, i, dp, _, rfl, hR, hz, c, _, rfl, rfl, _, rfl, iteNF (mem_c1.mpr hc) ?_⟩
  exact ⟨_, rfl, R.b, R.dx, _, rfl, hR.ins, rfs_no _ _ _ (by simp), R, i, dp, _, rfl, hR, hz, q⟩
def sp_Reading_number (K : PySem.W.Frag) : Sp := fun vs H Q _ => ∃ R i dp n, vs = [.ref R.b] ∧ Rg K H R i dp ∧ R.ws[i]? = some (numW n) ∧ n < 10 ∧ ∀ H', Kp [R.b] H H' → Rg K H' R (i + 1) dp → Q (.int (n : Nat)) H'
theorem sc_Reading_number : FnScope ["self"] ["self"] (defScope s_Reading_number) := ⟨rfl, rfl, rfl, by decide +kernel, rfl, by decide +kernel, by decide +kernel⟩
theorem ok_Reading_number (T : Txt w K mg) : FnOk P w K mg base CX0 2 (He.ma K (He.ga K "Reading") "number") (fdA K (He.ma K (He.ga K "Reading") "number")) ["self"] (sp_Reading_number K) := by
  have G_Reading_word := ok_Reading_word (P := P) (base := base) T
  have G_Reading_take := ok_Reading_take (P := P) (base := base) T
  have G_is_number := ok_is_number (P := P) (base := base) T
  refine (m_Reading_number T).ok sc_Reading_number (fun vs H Q E h => ?_) (fun cdv A outer s H vs Q E hr h => ?_)
  · obtain ⟨_, _, _, _, rfl, _⟩ := h; rfl
  obtain ⟨R, i, dp, n, rfl, hR, hz, hn, q⟩ := h
  refine ⟨_, (pss_cons (ps_if (pt_not (pt_val (pcall (d_is_number T) G_is_number (hr.mono (by decide)) (pa_cons (pmeth0 (pv 0) (cl_Reading T) (a_Reading_word T) (m_Reading_word T) G_Reading_word (hr.mono (by decide))) pa_nil)))) (pss_one ps_never) pss_nil)
      (pss_one (ps_ret (pe_callTy call_int_str (by rfl) (f_int T) bb_int (pa_cons (pmeth0 (pv 0) (cl_Reading T) (a_Reading_take T) (m_Reading_take T) G_Reading_take (hr.mono (by decide))) pa_nil))))), ?_⟩
  refine ⟨_, rfl, R.b, R.dx, _, rfl, hR.ins, rfs_no _ _ _ (by simp), R, i, dp, _, rfl, hR, hz, n, rfl, hn, _, rfl, iteF ?_⟩
  exact ⟨_, rfl, R.b, R.dx, _, rfl, hR.ins, rfs_no _ _ _ (by simp), R, i, dp, _, rfl, hR, hz, fun H1 k1 hR1 => ⟨_, (n : Nat), rfl, num_int hn, by show 1 ≤ 640; decide, q _ k1 hR1⟩⟩
def sp_Reading_rests (K : PySem.W.Frag) : Sp := fun vs H Q _ => ∃ R i dp lo hi, vs = [.ref R.b] ∧ Rg K H R i dp ∧ Ats R.ws i (restsW lo hi) ∧ lo < 10 ∧ hi < 10 ∧
  ∀ H' a, Kp [R.b] H H' → Rg K H' R (i + 3) dp → SqT K H' a [.int (lo : Nat), .int (hi : Nat)] → Q (.ref a) H'
theorem sc_Reading_rests : FnScope ["self", "low"] ["self"] (defScope s_Reading_rests) := ⟨rfl, rfl, rfl, by decide +kernel, rfl, by decide +kernel, by decide +kernel⟩
theorem ok_Reading_rests (T : Txt w K mg) : FnOk P w K mg base CX0 3 (He.ma K (He.ga K "Reading") "rests") (fdA K (He.ma K (He.ga K "Reading") "rests")) ["self"] (sp_Reading_rests K) := by
  have G_Reading_number := ok_Reading_number (P := P) (base := base) T
  have G_Reading_need := ok_Reading_need (P := P) (base := base) T
  refine (m_Reading_rests T).ok sc_Reading_rests (fun vs H Q E h => ?_) (fun cdv A outer s H vs Q E hr h => ?_)
  · obtain ⟨_, _, _, _, _, rfl, _⟩ := h; rfl
  obtain ⟨R, i, dp, lo, hi, rfl, hR, hz, h1, h2, q⟩ := h
  refine ⟨_, (pss_cons (ps_set (i := 1) sc_Reading_rests.nd rfl (Or.inl rfl) (pmeth0 (pv 0) (cl_Reading T) (a_Reading_number T) (m_Reading_number T) G_Reading_number (hr.mono (by decide))))
      (pss_cons (ps_expr (pmeth (pv 0) (cl_Reading T) (a_Reading_need T) (m_Reading_need T) G_Reading_need (hr.mono (by decide)) (pa_cons pe_str pa_nil)))
      (pss_one (ps_ret (pe_tup (pa_cons (pv 1) (pa_cons (pmeth0 (pv 0) (cl_Reading T) (a_Reading_number T) (m_Reading_number T) G_Reading_number (hr.mono (by decide))) pa_nil))))))), ?_⟩
  refine ⟨_, rfl, R.b, R.dx, _, rfl, hR.ins, rfs_no _ _ _ (by simp), R, i, dp, lo, rfl, hR, hz.head, h1, fun H1 k1 hR1 => ?_⟩
  refine ⟨_, rfl, R.b, R.dx, _, rfl, hR1.ins, rfs_no _ _ _ (by simp), R, i + 1, dp, kw "..", rfl, hR1, hz.tail.head, fun H2 k2 hR2 => ?_⟩
  refine ⟨_, rfl, _, rfl, R.b, R.dx, _, rfl, hR2.ins, rfs_no _ _ _ (by simp), R, i + 2, dp, hi, rfl, hR2, hz.tail.tail.head, h2, fun H3 k3 hR3 => ⟨by show 2 ≤ sizeLine; decide, fun a ha => ?_⟩⟩
  exact q _ a (((k1.trans k2).trans k3).newT ha) (hR3.kp0 (.new ha)) (SqT.of upd_same)
def sp_Reading_look (K : PySem.W.Frag) : Sp := fun vs H Q _ => ∃ R i dp k, vs = [.ref R.b] ∧ Rg K H R i dp ∧ Ats R.ws i (lkW k) ∧ k.Sm ∧
  ∀ H' v, Kp [R.b] H H' → Rg K H' R (i + 5) dp → IsLk K H' v k.lk → Q v H'
theorem sc_Reading_look : FnScope ["self", "cell"] ["self"] (defScope s_Reading_look) := ⟨rfl, rfl, rfl, by decide +kernel, rfl, by decide +kernel, by decide +kernel⟩
theorem ok_Reading_look (T : Txt w K mg) : FnOk P w K mg base CX0 4 (He.ma K (He.ga K "Reading") "look") (fdA K (He.ma K (He.ga K "Reading") "look")) ["self"] (sp_Reading_look K) := by
  have G_Reading_number := ok_Reading_number (P := P) (base := base) T
  have G_Reading_need := ok_Reading_need (P := P) (base := base) T
  have G_Reading_rests := ok_Reading_rests (P := P) (base := base) T
  refine (m_Reading_look T).ok sc_Reading_look (fun vs H Q E h => ?_) (fun cdv A outer s H vs Q E hr h => ?_)
  · obtain ⟨_, _, _, _, rfl, _⟩ := h; rfl
  obtain ⟨R, i, dp, k, rfl, hR, hz, ⟨h1, h2, h3⟩, q⟩ := h
  refine ⟨_, (pss_cons (ps_set (i := 1) sc_Reading_look.nd rfl (Or.inl rfl) (pmeth0 (pv 0) (cl_Reading T) (a_Reading_number T) (m_Reading_number T) G_Reading_number (hr.mono (by decide))))
      (pss_cons (ps_expr (pmeth (pv 0) (cl_Reading T) (a_Reading_need T) (m_Reading_need T) G_Reading_need (hr.mono (by decide)) (pa_cons pe_str pa_nil)))
      (pss_one (ps_ret (pe_tup (pa_cons (pv 1) (pa_star (pmeth0 (pv 0) (cl_Reading T) (a_Reading_rests T) (m_Reading_rests T) G_Reading_rests (hr.mono (by decide))) pa_nil))))))), ?_⟩
  refine ⟨_, rfl, R.b, R.dx, _, rfl, hR.ins, rfs_no _ _ _ (by simp), R, i, dp, k.cell, rfl, hR, hz.head, h1, fun H1 k1 hR1 => ?_⟩
  refine ⟨_, rfl, R.b, R.dx, _, rfl, hR1.ins, rfs_no _ _ _ (by simp), R, i + 1, dp, kw "at", rfl, hR1, hz.tail.head, fun H2 k2 hR2 => ?_⟩
  refine ⟨_, rfl, _, rfl, R.b, R.dx, _, rfl, hR2.ins, rfs_no _ _ _ (by simp), R, i + 2, dp, k.low, k.high, rfl, hR2, hz.tail.tail, h2, h3, fun H3 a k3 hR3 ha => ⟨a, _, rfl, .inl ha, by show 3 ≤ sizeLine; decide, fun t ht => ?_⟩⟩
  exact q _ _ (((k1.trans k2).trans k3).newT ht) (hR3.kp0 (.new ht)) ⟨t, rfl, SqT.of upd_same⟩
def sp_Reading_write (K : PySem.W.Frag) : Sp := fun vs H Q _ => ∃ R i dp cell c z lo hi, vs = [.ref R.b] ∧ Rg K H R i dp ∧ Ats R.ws i (numW cell :: [c] :: z :: restsW lo hi) ∧ cell < 10 ∧ cls c = 1 ∧ NameW z ∧ lo < 10 ∧ hi < 10 ∧
  ∀ H' a, Kp [R.b] H H' → Rg K H' R (i + 6) dp → SqT K H' a [.str "write", .int (cell : Nat), .str (sg c), .str (strL z), .int (lo : Nat), .int (hi : Nat)] → Q (.ref a) H'
theorem sc_Reading_write : FnScope ["self", "cell", "sign", "name"] ["self"] (defScope s_Reading_write) := ⟨rfl, rfl, rfl, by decide +kernel, rfl, by decide +kernel, by decide +kernel⟩
theorem ok_Reading_write (T : Txt w K mg) : FnOk P w K mg base CX0 4 (He.ma K (He.ga K "Reading") "write") (fdA K (He.ma K (He.ga K "Reading") "write")) ["self"] (sp_Reading_write K) := by
  have G_Reading_number := ok_Reading_number (P := P) (base := base) T
  have G_Reading_sign := ok_Reading_sign (P := P) (base := base) T
  have G_Reading_name := ok_Reading_name (P := P) (base := base) T
  have G_Reading_rests := ok_Reading_rests (P := P) (base := base) T
  refine (m_Reading_write T).ok sc_Reading_write (fun vs H Q E h => ?_) (fun cdv A outer s H vs Q E hr h => ?_)
  · obtain ⟨_, _, _, _, _, _, _, _, rfl, _⟩ := h; rfl
  obtain ⟨R, i, dp, cell, c, z, lo, hi, rfl, hR, hz, h1, hc, hn, h2, h3, q⟩ := h
  refine ⟨_, (pss_cons (ps_set (i := 1) sc_Reading_write.nd rfl (Or.inl rfl) (pmeth0 (pv 0) (cl_Reading T) (a_Reading_number T) (m_Reading_number T) G_Reading_number (hr.mono (by decide))))
      (pss_cons (ps_par (i := 2) (j := 3) rfl sc_Reading_write.nd rfl rfl (by decide) rfl rfl (pa_cons (pmeth0 (pv 0) (cl_Reading T) (a_Reading_sign T) (m_Reading_sign T) G_Reading_sign (hr.mono (by decide))) (pa_cons (pmeth0 (pv 0) (cl_Reading T) (a_Reading_name T) (m_Reading_name T) G_Reading_name (hr.mono (by decide))) pa_nil)) (by rfl))
      (pss_one (ps_ret (pe_tup (pa_cons pe_str (pa_cons (pv 1) (pa_cons (pv 2) (pa_cons (pv 3) (pa_star (pmeth0 (pv 0) (cl_Reading T) (a_Reading_rests T) (m_Reading_rests T) G_Reading_rests (hr.mono (by decide))) pa_nil)))))))))), ?_⟩
  refine ⟨_, rfl, R.b, R.dx, _, rfl, hR.ins, rfs_no _ _ _ (by simp), R, i, dp, cell, rfl, hR, hz.head, h1, fun H1 k1 hR1 => ?_⟩
  refine ⟨_, rfl, R.b, R.dx, _, rfl, hR1.ins, rfs_no _ _ _ (by simp), R, i + 1, dp, c, rfl, hR1, hz.tail.head, hc, fun H2 k2 hR2 => ?_⟩
  refine ⟨_, rfl, R.b, R.dx, _, rfl, hR2.ins, rfs_no _ _ _ (by simp), R, i + 2, dp, z, rfl, hR2, hz.tail.tail.head, hn, fun H3 k3 hR3 => ⟨_, _, rfl, ?_⟩⟩
  refine ⟨_, rfl, _, rfl, _, rfl, _, rfl, R.b, R.dx, _, rfl, hR3.ins, rfs_no _ _ _ (by simp), R, i + 3, dp, lo, hi, rfl, hR3, hz.tail.tail.tail, h2, h3, fun H4 a k4 hR4 ha => ⟨a, _, rfl, .inl ha, by show 6 ≤ sizeLine; decide, fun t ht => ?_⟩⟩
  exact q _ t ((((k1.trans k2).trans k3).trans k4).newT ht) (hR4.kp0 (.new ht)) (SqT.of upd_same)
def sp_Reading_reader (K : PySem.W.Frag) : Sp := fun vs H Q _ => ∃ R i dp z st k0 ks, vs = [.ref R.b] ∧ Rg K H R i dp ∧ Ats R.ws i (z :: (startW st ++ (kw ":" :: (lkW k0 ++ (moreW ks ++ [kw ";"]))))) ∧ NameW z ∧ (∀ n, st = some n → n < 10) ∧ (∀ k ∈ k0 :: ks, k.Sm) ∧ ks.length ≤ 3 ∧
  ∀ H' a b vs, Kp [R.b] H H' → Rg K H' R (i + (z :: (startW st ++ (kw ":" :: (lkW k0 ++ moreW ks)))).length) dp → SqT K H' a [.str "reader", .str (strL z), startV st, .ref b] → SqT K H' b vs → Paired (IsLk K H') vs ((k0 :: ks).map PLk.lk) → Q (.ref a) H'
theorem sc_Reading_reader : FnScope ["self", "name", "start", "looks"] ["self"] (defScope s_Reading_reader) := ⟨rfl, rfl, rfl, by decide +kernel, rfl, by decide +kernel, by decide +kernel⟩
theorem ok_Reading_reader (T : Txt w K mg) : FnOk P w K mg base CX0 5 (He.ma K (He.ga K "Reading") "reader") (fdA K (He.ma K (He.ga K "Reading") "reader")) ["self"] (sp_Reading_reader K) := by
  have G_Reading_word := ok_Reading_word (P := P) (base := base) T
  have G_Reading_take := ok_Reading_take (P := P) (base := base) T
  have G_Reading_need := ok_Reading_need (P := P) (base := base) T
  have G_Reading_number := ok_Reading_number (P := P) (base := base) T
  have G_Reading_name := ok_Reading_name (P := P) (base := base) T
  have G_Reading_look := ok_Reading_look (P := P) (base := base) T
  refine (m_Reading_reader T).ok sc_Reading_reader (fun vs H Q E h => ?_) (fun cdv A outer s H vs Q E hr h => ?_)
  · obtain ⟨_, _, _, _, _, _, _, rfl, _⟩ := h; rfl
  obtain ⟨R, i, dp, z, st, k0, ks, rfl, hR, hz, hn, hst, hsm, hks, q⟩ := h
  refine ⟨_, (pss_cons (ps_set (i := 1) sc_Reading_reader.nd rfl (Or.inl rfl) (pmeth0 (pv 0) (cl_Reading T) (a_Reading_name T) (m_Reading_name T) G_Reading_name (hr.mono (by decide))))
      (pss_cons (ps_cut (ps_if (pt_cmpR op_eq (pmeth0 (pv 0) (cl_Reading T) (a_Reading_word T) (m_Reading_word T) G_Reading_word (hr.mono (by decide))) pe_str (nomark _)) (pss_cons (ps_expr (pmeth0 (pv 0) (cl_Reading T) (a_Reading_take T) (m_Reading_take T) G_Reading_take (hr.mono (by decide))))
      (pss_one (ps_set (i := 2) sc_Reading_reader.nd rfl (Or.inl rfl) pe_non))) (pss_cons (ps_expr (pmeth (pv 0) (cl_Reading T) (a_Reading_need T) (m_Reading_need T) G_Reading_need (hr.mono (by decide)) (pa_cons pe_str pa_nil)))
      (pss_one (ps_set (i := 2) sc_Reading_reader.nd rfl (Or.inl rfl) (pmeth0 (pv 0) (cl_Reading T) (a_Reading_number T) (m_Reading_number T) G_Reading_number (hr.mono (by decide))))))))
      (pss_cons (ps_expr (pmeth (pv 0) (cl_Reading T) (a_Reading_need T) (m_Reading_need T) G_Reading_need (hr.mono (by decide)) (pa_cons pe_str pa_nil)))
      (pss_cons (ps_set (i := 3) sc_Reading_reader.nd rfl (Or.inl rfl) (pe_lst (pa_cons (pmeth0 (pv 0) (cl_Reading T) (a_Reading_look T) (m_Reading_look T) G_Reading_look (hr.mono (by decide))) pa_nil)))
      (pss_cons (ps_while PassesOwn.never (pt_cmpR op_eq (pmeth0 (pv 0) (cl_Reading T) (a_Reading_word T) (m_Reading_word T) G_Reading_word (hr.mono (by decide))) pe_str (nomark _)) (pss_cons (ps_expr (pmeth0 (pv 0) (cl_Reading T) (a_Reading_take T) (m_Reading_take T) G_Reading_take (hr.mono (by decide))))
      (pss_one (ps_expr (pe_bm PySem.F.plainAttrs_list PySem.F.slot_list_append PySem.F.type_list_append mt_append (pv 3) (pa_cons (pmeth0 (pv 0) (cl_Reading T) (a_Reading_look T) (m_Reading_look T) G_Reading_look (hr.mono (by decide))) pa_nil))))))
      (pss_one (ps_ret (pe_tup (pa_cons pe_str (pa_cons (pv 1) (pa_cons (pv 2) (pa_cons (pe_callTy call_tuple_of (by rfl) (f_tuple T) bb_tuple (pa_cons (pv 3) pa_nil)) pa_nil)))))))))))), ?_⟩
  refine ⟨_, rfl, R.b, R.dx, _, rfl, hR.ins, rfs_no _ _ _ (by simp), R, i, dp, z, rfl, hR, hz.head, hn, fun H1 k1 hR1 => ?_⟩
  have hz1 := hz.tail
  refine ⟨fun σ H' => σ = [some (.ref R.b), some (.str (strL z)), some (startV st), none] ∧ Kp [R.b] H H' ∧ Rg K H' R (i + 1 + (startW st).length) dp, ?_, ?_⟩
  · cases st with
    | none =>
      refine ⟨_, rfl, R.b, R.dx, _, rfl, hR1.ins, rfs_no _ _ _ (by simp), R, i + 1, dp, _, rfl, hR1, hz1.head, rfl, _, rfl, iteDT rfl ?_⟩
      exact ⟨_, rfl, R.b, R.dx, _, rfl, hR1.ins, rfs_no _ _ _ (by simp), R, i + 1, dp, _, rfl, hR1, hz1.head, fun H2 k2 hR2 => ⟨rfl, k1.trans k2, hR2⟩⟩
    | some n =>
      refine ⟨_, rfl, R.b, R.dx, _, rfl, hR1.ins, rfs_no _ _ _ (by simp), R, i + 1, dp, _, rfl, hR1, hz1.head, rfl, _, rfl, iteDF (by decide +kernel) ?_⟩
      refine ⟨_, rfl, R.b, R.dx, _, rfl, hR1.ins, rfs_no _ _ _ (by simp), R, i + 1, dp, kw "write", rfl, hR1, hz1.head, fun H2 k2 hR2 => ?_⟩
      exact ⟨_, rfl, R.b, R.dx, _, rfl, hR2.ins, rfs_no _ _ _ (by simp), R, i + 1 + 1, dp, n, rfl, hR2, hz1.tail.head, hst n rfl, fun H3 k3 hR3 => ⟨rfl, (k1.trans k2).trans k3, hR3⟩⟩
  rintro σ H2 ⟨rfl, k2, hR2⟩
  have hz2 := hz1.right
  generalize hj : i + 1 + (startW st).length = j at hR2 hz2
  refine ⟨_, rfl, R.b, R.dx, _, rfl, hR2.ins, rfs_no _ _ _ (by simp), R, j, dp, kw ":", rfl, hR2, hz2.head, fun H3 k3 hR3 => ?_⟩
  have hz3 := hz2.tail
  refine ⟨_, rfl, R.b, R.dx, _, rfl, hR3.ins, rfs_no _ _ _ (by simp), R, j + 1, dp, k0, rfl, hR3, hz3.left, hsm k0 List.mem_cons_self, fun H4 v0 k4 hR4 hv0 => ⟨by show 1 ≤ sizeLine; decide, fun la hla => ?_⟩⟩
  have hz4 : Ats R.ws (j + 1 + 5) (moreW ks ++ [kw ";"]) := hz3.right
  have k5 := ((k2.trans k3).trans k4).newT (p := la) (o := .lst [v0]) hla
  have hR5 := hR4.kp0 (H' := upd H4 la (.lst [v0])) (.new hla)
  have hv5 : IsLk K (upd H4 la (.lst [v0])) v0 k0.lk := hv0.kp (.new (S := []) hla)
  have hla5 : (upd H4 la (.lst [v0])) la = some (.lst [v0]) := upd_same
  generalize upd H4 la (.lst [v0]) = H5 at k5 hR5 hv5 hla5 ⊢
  have hlaH : H la = none := (k2.trans (k3.trans k4)).freeS (fun a ha => by rw [List.mem_singleton.mp ha]; exact ⟨_, hR4.ins⟩) hla
  have nlb : la ≠ R.b := fun e => by have := hR4.ins; rw [← e, hla] at this; cases this
  have nlw : la ≠ R.wl := fun e => by have := hR4.lst; rw [← e, hla] at this; cases this
  refine ⟨fun m σ H' => ∃ (ks1 ks2 : List PLk) (vs : List V) (j' : Nat), ks = ks1 ++ ks2 ∧ m = ks2.length ∧ σ = [some (.ref R.b), some (.str (strL z)), some (startV st), some (.ref la)] ∧ Kp [R.b, la] H5 H' ∧ Rg K H' R j' dp ∧ Ats R.ws j' (moreW ks2 ++ [kw ";"]) ∧ H' la = some (.lst vs) ∧ Paired (IsLk K H') vs ((k0 :: ks1).map PLk.lk) ∧ j' = j + 1 + 5 + (moreW ks1).length,
    ⟨_, [], ks, [v0], j + 1 + 5, rfl, rfl, rfl, .refl _ _, hR5, hz4, hla5, .cons hv5 .nil, rfl⟩, ?_⟩
  rintro m σ H6 ⟨ks1, ks2, vs, j', eks, rfl, rfl, k6, hR6, hz6, hl6, hv6, ej⟩
  have hvl : vs.length = ks1.length + 1 := by rw [paired_len hv6, List.length_map, List.length_cons]
  have hkl : ks.length = ks1.length + ks2.length := by rw [eks, List.length_append]
  cases ks2 with
  | nil =>
    refine ⟨_, rfl, R.b, R.dx, _, rfl, hR6.ins, rfs_no _ _ _ (by simp), R, j', dp, kw ";", rfl, hR6, hz6.head, rfl, _, rfl, iteDF (by decide +kernel) ?_⟩
    have ek : ks = ks1 := by rw [eks, List.append_nil]
    refine ⟨_, rfl, _, rfl, _, rfl, la, _, rfl, .inl ⟨SqL.of hl6, fun lt hlt => ⟨by show 4 ≤ sizeLine; decide, fun a ha => ?_⟩⟩⟩
    have kk : Kp [] H6 (upd (upd H6 lt (.tup vs)) a (.tup [.str "reader", .str (strL z), startV st, .ref lt])) := (Kp.new hlt).newT ha
    refine q _ a lt vs ((k5.drop k6 (fun x hx => ?_)).trans kk.mono0) ?_ (SqT.of upd_same) (kpT (SqT.of (upd_same (H := H6) (a := lt))) (Kp.new (S := []) ha)) ?_
    · have : x = R.b ∨ x = la := by simpa using hx
      rcases this with e | e
      · exact .inr (by rw [e]; simp)
      · exact .inl (by rw [e]; exact hlaH)
    · have e : i + (z :: (startW st ++ (kw ":" :: (lkW k0 ++ moreW ks)))).length = j' := by
        rw [ek, ej, ← hj, List.length_cons, List.length_append, List.length_cons, List.length_append, show (lkW k0).length = 5 from rfl]
        omega
      rw [e]
      exact hR6.kp0 kk
    · rw [ek]
      exact pkp hv6 fun _ _ z => z.kp kk
  | cons k2' ks2 =>
    have hz6' : Ats R.ws j' (kw "," :: (lkW k2' ++ (moreW ks2 ++ [kw ";"]))) := by
      have e : moreW (k2' :: ks2) ++ [kw ";"] = kw "," :: (lkW k2' ++ (moreW ks2 ++ [kw ";"])) := by
        show (kw "," :: lkW k2') ++ moreW ks2 ++ [kw ";"] = _
        rw [List.append_assoc]; rfl
      rw [← e]; exact hz6
    refine ⟨_, rfl, R.b, R.dx, _, rfl, hR6.ins, rfs_no _ _ _ (by simp), R, j', dp, kw ",", rfl, hR6, hz6'.head, rfl, _, rfl, iteDT rfl ?_⟩
    refine ⟨fun σ H' => ∃ (vs : List V), σ = [some (.ref R.b), some (.str (strL z)), some (startV st), some (.ref la)] ∧ Kp [R.b, la] H5 H' ∧ Rg K H' R (j' + 6) dp ∧ H' la = some (.lst vs) ∧ Paired (IsLk K H') vs ((k0 :: (ks1 ++ [k2'])).map PLk.lk), ?_, ?_⟩
    · rintro σ H' ⟨vs', rfl, h1, h2, h3, h4⟩
      refine ⟨ks2.length, Nat.lt_succ_self _, ks1 ++ [k2'], ks2, vs', j' + 6, by rw [eks, List.append_assoc]; rfl, rfl, rfl, h1, h2, ?_, h3, h4, ?_⟩
      · exact hz6'.tail.right
      · rw [ej]
        have : (moreW (ks1 ++ [k2'])).length = (moreW ks1).length + 6 := by
          unfold moreW
          rw [List.flatMap_append, List.length_append]
          rfl
        omega
    · refine ⟨_, rfl, R.b, R.dx, _, rfl, hR6.ins, rfs_no _ _ _ (by simp), R, j', dp, kw ",", rfl, hR6, hz6'.head, fun H7 k7 hR7 => ?_⟩
      have hl7 := k7.keep _ _ hl6 (by simp [nlb])
      refine ⟨_, rfl, .inl ⟨rfl, _, SqL.of hl7⟩, ?_⟩
      refine ⟨_, rfl, R.b, R.dx, _, rfl, hR7.ins, rfs_no _ _ _ (by simp), R, j' + 1, dp, k2', rfl, hR7, hz6'.tail.left, hsm k2' (by rw [eks]; simp), fun H8 v k8 hR8 hv8 => ?_⟩
      have hl8 := k8.keep _ _ hl7 (by simp [nlb])
      have kla : Kp [la] H8 (upd H8 la (.lst (vs ++ [v]))) := .put (by simp) hl8 rfl
      refine ⟨la, vs, _, rfl, rfl, hl8, small1000 (by omega), vs ++ [v], rfl, ((k6.trans (k7.mono (by simp))).trans (k8.mono (by simp))).trans (kla.mono (by simp)), hR8.kp kla (by simp [nlb.symm]) (by simp [nlw.symm]), upd_same, ?_⟩
      have e : (k0 :: (ks1 ++ [k2'])).map PLk.lk = (k0 :: ks1).map PLk.lk ++ [k2'.lk] := by
        rw [← List.cons_append, List.map_append]; rfl
      rw [e]
      exact paired_snoc (pkp hv6 fun _ _ z => ((z.kp k7).kp k8).kp kla) (hv8.kp kla)
end
end Ink
set_option Elab.async false
set_option linter.all false
set_option pp.maxSteps 150
set_option maxRecDepth 100000
set_option maxHeartbeats 4000000
namespace Ink
open PySem PySem.Spec PyProof.Rows L2 StX
def lv (o : Bool) : Nat := if o then 1 else 2
def clW : Cl → Nat → List (List Nat)
  | .sees i c, _ => if c = 46 then [numW i, kw "bare"] else [numW i, kw "sees", [c]]
  | .alike i j, _ => [numW i, kw "like", numW j]
  | .not a, _ => kw "not" :: clW a 3
  | .bin o a b, l => if l ≤ lv o then clW a (lv o) ++ (kw (bw o) :: clW b (lv o + 1)) else kw "(" :: (clW a (lv o) ++ (kw (bw o) :: clW b (lv o + 1)) ++ [kw ")"])
def Cl.Sm : Cl → Prop
  | .sees i c => i < 10 ∧ (c = 46 ∨ cls c = 1)
  | .alike i j => i < 10 ∧ j < 10
  | .not a => a.Sm
  | .bin _ a b => a.Sm ∧ b.Sm
def spine (o : Bool) : Cl → Cl × List Cl
  | .bin o' a b => if o' = o then ((spine o a).1, (spine o a).2 ++ [b]) else (.bin o' a b, [])
  | c => (c, [])
def tailW (o : Bool) (ys : List Cl) : List (List Nat) := ys.flatMap fun y => kw (bw o) :: clW y (lv o + 1)
theorem spine_words (o : Bool) : ∀ c : Cl, clW c (lv o) = clW (spine o c).1 (lv o + 1) ++ tailW o (spine o c).2
  | .sees i c => by simp [spine, tailW, clW]
  | .alike i j => by simp [spine, tailW, clW]
  | .not a => by simp [spine, tailW, clW]
  | .bin o' a b => by
    by_cases h : o' = o
    · subst h
      have ih := spine_words o' a
      rw [show spine o' (.bin o' a b) = ((spine o' a).1, (spine o' a).2 ++ [b]) from if_pos rfl]
      show (if lv o' ≤ lv o' then _ else _) = _
      rw [if_pos (Nat.le_refl _), ih]
      unfold tailW
      rw [List.flatMap_append, List.append_assoc]
      simp
    · rw [show spine o (.bin o' a b) = (.bin o' a b, []) from if_neg h]
      cases o <;> cases o'
      · exact absurd rfl h
      · simp [clW, lv, tailW]
      · simp [clW, lv, tailW]
      · exact absurd rfl h
theorem spine_fold (o : Bool) : ∀ c : Cl, (spine o c).2.foldl (Cl.bin o) (spine o c).1 = c
  | .sees i c => rfl
  | .alike i j => rfl
  | .not a => rfl
  | .bin o' a b => by
    by_cases h : o' = o
    · subst h
      rw [show spine o' (.bin o' a b) = ((spine o' a).1, (spine o' a).2 ++ [b]) from if_pos rfl]
      show ((spine o' a).2 ++ [b]).foldl (Cl.bin o') (spine o' a).1 = _
      rw [List.foldl_append, spine_fold o' a]
      rfl
    · rw [show spine o (.bin o' a b) = (.bin o' a b, []) from if_neg h]
      rfl
theorem spine_ht (o : Bool) : ∀ c : Cl, (spine o c).1.ht ≤ c.ht ∧ ∀ y ∈ (spine o c).2, y.ht < c.ht
  | .sees i c => ⟨Nat.le_refl _, fun y h => by cases h⟩
  | .alike i j => ⟨Nat.le_refl _, fun y h => by cases h⟩
  | .not a => ⟨Nat.le_refl _, fun y h => by cases h⟩
  | .bin o' a b => by
    by_cases h : o' = o
    · subst h
      have ih := spine_ht o' a
      rw [show spine o' (.bin o' a b) = ((spine o' a).1, (spine o' a).2 ++ [b]) from if_pos rfl]
      have hm : (Cl.bin o' a b).ht = max a.ht b.ht + 1 := rfl
      refine ⟨by have := ih.1; show (spine o' a).1.ht ≤ _; omega, fun y hy => ?_⟩
      rcases List.mem_append.mp hy with q | q
      · have := ih.2 y q; omega
      · have : y = b := by simpa using q
        subst this; omega
    · rw [show spine o (.bin o' a b) = (.bin o' a b, []) from if_neg h]
      exact ⟨Nat.le_refl _, fun y hy => by cases hy⟩
/-- not the same joiner: the whole; the same: smaller -/
theorem spine_lt (o : Bool) (a b : Cl) : (spine o (.bin o a b)).1.ht < (Cl.bin o a b).ht := by
  rw [show spine o (.bin o a b) = ((spine o a).1, (spine o a).2 ++ [b]) from if_pos rfl]
  have := (spine_ht o a).1
  show (spine o a).1.ht < max a.ht b.ht + 1
  omega
theorem spine_sm (o : Bool) : ∀ c : Cl, c.Sm → (spine o c).1.Sm ∧ ∀ y ∈ (spine o c).2, y.Sm
  | .sees i c, s => ⟨s, fun y h => by cases h⟩
  | .alike i j, s => ⟨s, fun y h => by cases h⟩
  | .not a, s => ⟨s, fun y h => by cases h⟩
  | .bin o' a b, s => by
    by_cases h : o' = o
    · subst h
      have ih := spine_sm o' a s.1
      rw [show spine o' (.bin o' a b) = ((spine o' a).1, (spine o' a).2 ++ [b]) from if_pos rfl]
      refine ⟨ih.1, fun y hy => ?_⟩
      rcases List.mem_append.mp hy with q | q
      · exact ih.2 y q
      · have : y = b := by simpa using q
        subst this; exact s.2
    · rw [show spine o (.bin o' a b) = (.bin o' a b, []) from if_neg h]
      exact ⟨s, fun y hy => by cases hy⟩
theorem clW_bin3 (o : Bool) (a b : Cl) : clW (.bin o a b) 3 = kw "(" :: (clW (.bin o a b) 1 ++ [kw ")"]) := by
  cases o <;> simp [clW, lv]
theorem num_ne {n : Nat} {s : Str} (h : n < 10) (hs : ∀ c, 48 ≤ c → c ≤ 57 → kw s ≠ [c]) : ¬ V.str (strL (numW n)) = V.str s := fun z => by
  have e : strL (numW n) = strL (kw s) := V.str.inj z
  exact hs (48 + n) (by omega) (by omega) (strL_inj e).symm
section
variable {P : Program} {w : World} {K : PySem.W.Frag} {mg : Str → Option Value} {base : Heap}
def sp_Reading_part (K : PySem.W.Frag) (D : Cl → Nat → Prop) : Sp := fun vs H Q _ => ∃ R i dp c, vs = [.ref R.b] ∧ Rg K H R i dp ∧ Ats R.ws i (clW c 3) ∧ c.Sm ∧ D c dp ∧
  ∀ H' v, Kp [R.b] H H' → Rg K H' R (i + (clW c 3).length) dp → IsCl K H' v c → Q v H'
def sp_Reading_both (K : PySem.W.Frag) (D : Cl → Nat → Prop) : Sp := fun vs H Q _ => ∃ R i dp c nx, vs = [.ref R.b] ∧ Rg K H R i dp ∧ Ats R.ws i (clW c 2 ++ [nx]) ∧ nx ≠ kw "and" ∧ c.Sm ∧ D c dp ∧
  ∀ H' v, Kp [R.b] H H' → Rg K H' R (i + (clW c 2).length) dp → IsCl K H' v c → Q v H'
def sp_Reading_claim (K : PySem.W.Frag) (D : Cl → Nat → Prop) : Sp := fun vs H Q _ => ∃ R i dp c nx, vs = [.ref R.b] ∧ Rg K H R i dp ∧ Ats R.ws i (clW c 1 ++ [nx]) ∧ nx ≠ kw "and" ∧ nx ≠ kw "or" ∧ c.Sm ∧ D c dp ∧
  ∀ H' v, Kp [R.b] H H' → Rg K H' R (i + (clW c 1).length) dp → IsCl K H' v c → Q v H'
def sp_Reading_bracket (K : PySem.W.Frag) (D : Cl → Nat → Prop) : Sp := fun vs H Q _ => ∃ R i dp c, vs = [.ref R.b] ∧ Rg K H R i dp ∧ Ats R.ws i (kw "(" :: (clW c 1 ++ [kw ")"])) ∧ c.Sm ∧ dp < 30 ∧ D c (dp + 1) ∧
  ∀ H' v, Kp [R.b] H H' → Rg K H' R (i + ((clW c 1).length + 2)) dp → IsCl K H' v c → Q v H'
theorem sc_Reading_both : FnScope ["self", "found"] ["self"] (defScope s_Reading_both) := ⟨rfl, rfl, rfl, by decide +kernel, rfl, by decide +kernel, by decide +kernel⟩
theorem ok_Reading_both (T : Txt w K mg) {k : Nat} (hk : 2 ≤ k) {D Dp : Cl → Nat → Prop} (hD : ∀ c dp, D c dp → Dp (spine false c).1 dp ∧ ∀ y ∈ (spine false c).2, Dp y dp)
    (G_Reading_part : FnOk P w K mg base CX0 k (He.ma K (He.ga K "Reading") "part") (fdA K (He.ma K (He.ga K "Reading") "part")) ["self"] (sp_Reading_part K Dp)) :
    FnOk P w K mg base CX0 (k + 1) (He.ma K (He.ga K "Reading") "both") (fdA K (He.ma K (He.ga K "Reading") "both")) ["self"] (sp_Reading_both K D) := by
  have G_Reading_word := ok_Reading_word (P := P) (base := base) T
  have G_Reading_take := ok_Reading_take (P := P) (base := base) T
  refine (m_Reading_both T).ok sc_Reading_both (fun vs H Q E h => ?_) (fun cdv A outer s H vs Q E hr h => ?_)
  · obtain ⟨_, _, _, _, _, rfl, _⟩ := h; rfl
  obtain ⟨R, i, dp, c, nx, rfl, hR, hz, hnA, hsm, hd, q⟩ := h
  refine ⟨_, (pss_cons (ps_set (i := 1) sc_Reading_both.nd rfl (Or.inl rfl) (pmeth0 (pv 0) (cl_Reading T) (a_Reading_part T) (m_Reading_part T) G_Reading_part (hr.mono (by omega))))
      (pss_cons (ps_while PassesOwn.never (pt_cmpR op_eq (pmeth0 (pv 0) (cl_Reading T) (a_Reading_word T) (m_Reading_word T) G_Reading_word (hr.mono (by omega))) pe_str (nomark _)) (pss_cons (ps_expr (pmeth0 (pv 0) (cl_Reading T) (a_Reading_take T) (m_Reading_take T) G_Reading_take (hr.mono (by omega))))
      (pss_one (ps_set (i := 1) sc_Reading_both.nd rfl (Or.inl rfl) (pe_tup (pa_cons pe_str (pa_cons (pv 1) (pa_cons (pmeth0 (pv 0) (cl_Reading T) (a_Reading_part T) (m_Reading_part T) G_Reading_part (hr.mono (by omega))) pa_nil))))))))
      (pss_one (ps_ret (pv 1))))), ?_⟩
  obtain ⟨hD1, hD2⟩ := hD c dp hd
  obtain ⟨hs1, hs2⟩ := spine_sm false c hsm
  have hw := spine_words false c
  have hfold := spine_fold false c
  have hw' : clW c 2 = clW (spine false c).1 3 ++ tailW false (spine false c).2 := hw
  rw [hw', List.append_assoc] at hz
  rw [hw'] at q
  generalize (spine false c).1 = x at *
  generalize (spine false c).2 = xs at *
  have first : ∀ ys : List Cl, ∃ nx2, True ∧ ∀ l i, Ats R.ws i (l ++ (tailW false ys ++ [nx])) → Ats R.ws i (l ++ [nx2]) := fun ys => by
    cases ys with
    | nil => exact ⟨nx, trivial, fun l i h => h⟩
    | cons y ys =>
      refine ⟨kw (bw false), trivial, fun l i h => ?_⟩
      have e : l ++ (tailW false (y :: ys) ++ [nx]) = (l ++ [kw (bw false)]) ++ (clW y (lv false + 1) ++ (tailW false ys ++ [nx])) := by
        show l ++ ((kw (bw false) :: clW y (lv false + 1)) ++ tailW false ys ++ [nx]) = _
        simp
      rw [e] at h
      exact h.left
  obtain ⟨nx0, hn0, ha0⟩ := first xs
  refine ⟨_, rfl, R.b, R.dx, _, rfl, hR.ins, rfs_no _ _ _ (by simp), R, i, dp, x, rfl, hR, hz.left, hs1, hD1, fun H1 v1 k1 hR1 hv1 => ?_⟩
  refine ⟨fun m σ H' => ∃ ys1 ys2 v, xs = ys1 ++ ys2 ∧ m = ys2.length ∧ σ = [some (.ref R.b), some v] ∧ Kp [R.b] H H' ∧ Rg K H' R (i + (clW x 3).length + (tailW false ys1).length) dp ∧ Ats R.ws (i + (clW x 3).length + (tailW false ys1).length) (tailW false ys2 ++ [nx]) ∧ IsCl K H' v (ys1.foldl (Cl.bin false) x),
    ⟨_, [], xs, v1, rfl, rfl, rfl, k1, hR1, hz.right, hv1⟩, ?_⟩
  rintro m σ H2 ⟨ys1, ys2, v, exs, rfl, rfl, k2, hR2, hz2, hv2⟩
  generalize hj : i + (clW x 3).length + (tailW false ys1).length = j at hR2 hz2
  cases ys2 with
  | nil =>
    have exs' : xs = ys1 := by rw [exs, List.append_nil]
    refine ⟨_, rfl, R.b, R.dx, _, rfl, hR2.ins, rfs_no _ _ _ (by simp), R, j, dp, nx, rfl, hR2, hz2.head, rfl, _, rfl, iteDF (fun z => hnA (strL_inj (V.str.inj z))) ?_⟩
    refine ⟨_, rfl, q H2 v k2 ?_ ?_⟩
    · rw [List.length_append, exs', ← Nat.add_assoc, hj]; exact hR2
    · rw [← hfold, exs']; exact hv2
  | cons y ys2 =>
    have hz3 : Ats R.ws j (kw (bw false) :: (clW y (lv false + 1) ++ (tailW false ys2 ++ [nx]))) := by
      have e : tailW false (y :: ys2) ++ [nx] = kw (bw false) :: (clW y (lv false + 1) ++ (tailW false ys2 ++ [nx])) := by
        show (kw (bw false) :: clW y (lv false + 1)) ++ tailW false ys2 ++ [nx] = _
        simp
      rw [← e]; exact hz2
    have hym : y ∈ xs := by rw [exs]; simp
    obtain ⟨nx3, hn3, ha3⟩ := first ys2
    refine ⟨_, rfl, R.b, R.dx, _, rfl, hR2.ins, rfs_no _ _ _ (by simp), R, j, dp, kw (bw false), rfl, hR2, hz3.head, rfl, _, rfl, iteDT rfl ?_⟩
    refine ⟨fun σ H' => ∃ v, σ = [some (.ref R.b), some v] ∧ Kp [R.b] H H' ∧ Rg K H' R (j + 1 + (clW y (lv false + 1)).length) dp ∧ IsCl K H' v ((ys1 ++ [y]).foldl (Cl.bin false) x), ?_, ?_⟩
    · rintro σ H' ⟨v', rfl, h1, h2, h3⟩
      have ej : i + (clW x 3).length + (tailW false (ys1 ++ [y])).length = j + 1 + (clW y (lv false + 1)).length := by
        have : (tailW false (ys1 ++ [y])).length = (tailW false ys1).length + ((clW y (lv false + 1)).length + 1) := by
          unfold tailW
          rw [List.flatMap_append, List.length_append]
          simp
        omega
      refine ⟨ys2.length, Nat.lt_succ_self _, ys1 ++ [y], ys2, v', by rw [exs, List.append_assoc]; rfl, rfl, rfl, h1, ?_, ?_, h3⟩
      · rw [ej]; exact h2
      · rw [ej]; exact hz3.tail.right
    · refine ⟨_, rfl, R.b, R.dx, _, rfl, hR2.ins, rfs_no _ _ _ (by simp), R, j, dp, kw (bw false), rfl, hR2, hz3.head, fun H3 k3 hR3 => ?_⟩
      refine ⟨_, rfl, _, rfl, R.b, R.dx, _, rfl, hR3.ins, rfs_no _ _ _ (by simp), R, j + 1, dp, y, rfl, hR3, hz3.tail.left, hs2 y hym, hD2 y hym, fun H4 v4 k4 hR4 hv4 => ⟨by show 3 ≤ sizeLine; decide, fun t ht => ?_⟩⟩
      have kt : Kp [] H4 (upd H4 t (.tup [.str (bw false), v, v4])) := .new ht
      refine ⟨.ref t, rfl, ((k2.trans k3).trans k4).trans kt.mono0, hR4.kp0 kt, ?_⟩
      rw [List.foldl_append]
      exact ⟨t, v, v4, rfl, SqT.of upd_same, ((hv2.kp k3).kp k4).kp kt, hv4.kp kt⟩
theorem sc_Reading_claim : FnScope ["self", "found"] ["self"] (defScope s_Reading_claim) := ⟨rfl, rfl, rfl, by decide +kernel, rfl, by decide +kernel, by decide +kernel⟩
theorem ok_Reading_claim (T : Txt w K mg) {k : Nat} (hk : 2 ≤ k) {D Dp : Cl → Nat → Prop} (hD : ∀ c dp, D c dp → Dp (spine true c).1 dp ∧ ∀ y ∈ (spine true c).2, Dp y dp)
    (G_Reading_both : FnOk P w K mg base CX0 k (He.ma K (He.ga K "Reading") "both") (fdA K (He.ma K (He.ga K "Reading") "both")) ["self"] (sp_Reading_both K Dp)) :
    FnOk P w K mg base CX0 (k + 1) (He.ma K (He.ga K "Reading") "claim") (fdA K (He.ma K (He.ga K "Reading") "claim")) ["self"] (sp_Reading_claim K D) := by
  have G_Reading_word := ok_Reading_word (P := P) (base := base) T
  have G_Reading_take := ok_Reading_take (P := P) (base := base) T
  refine (m_Reading_claim T).ok sc_Reading_claim (fun vs H Q E h => ?_) (fun cdv A outer s H vs Q E hr h => ?_)
  · obtain ⟨_, _, _, _, _, rfl, _⟩ := h; rfl
  obtain ⟨R, i, dp, c, nx, rfl, hR, hz, hnA, hnO, hsm, hd, q⟩ := h
  refine ⟨_, (pss_cons (ps_set (i := 1) sc_Reading_claim.nd rfl (Or.inl rfl) (pmeth0 (pv 0) (cl_Reading T) (a_Reading_both T) (m_Reading_both T) G_Reading_both (hr.mono (by omega))))
      (pss_cons (ps_while PassesOwn.never (pt_cmpR op_eq (pmeth0 (pv 0) (cl_Reading T) (a_Reading_word T) (m_Reading_word T) G_Reading_word (hr.mono (by omega))) pe_str (nomark _)) (pss_cons (ps_expr (pmeth0 (pv 0) (cl_Reading T) (a_Reading_take T) (m_Reading_take T) G_Reading_take (hr.mono (by omega))))
      (pss_one (ps_set (i := 1) sc_Reading_claim.nd rfl (Or.inl rfl) (pe_tup (pa_cons pe_str (pa_cons (pv 1) (pa_cons (pmeth0 (pv 0) (cl_Reading T) (a_Reading_both T) (m_Reading_both T) G_Reading_both (hr.mono (by omega))) pa_nil))))))))
      (pss_one (ps_ret (pv 1))))), ?_⟩
  obtain ⟨hD1, hD2⟩ := hD c dp hd
  obtain ⟨hs1, hs2⟩ := spine_sm true c hsm
  have hw := spine_words true c
  have hfold := spine_fold true c
  have hw' : clW c 1 = clW (spine true c).1 2 ++ tailW true (spine true c).2 := hw
  rw [hw', List.append_assoc] at hz
  rw [hw'] at q
  generalize (spine true c).1 = x at *
  generalize (spine true c).2 = xs at *
  have first : ∀ ys : List Cl, ∃ nx2, nx2 ≠ kw "and" ∧ ∀ l i, Ats R.ws i (l ++ (tailW true ys ++ [nx])) → Ats R.ws i (l ++ [nx2]) := fun ys => by
    cases ys with
    | nil => exact ⟨nx, hnA, fun l i h => h⟩
    | cons y ys =>
      refine ⟨kw (bw true), by decide +kernel, fun l i h => ?_⟩
      have e : l ++ (tailW true (y :: ys) ++ [nx]) = (l ++ [kw (bw true)]) ++ (clW y (lv true + 1) ++ (tailW true ys ++ [nx])) := by
        show l ++ ((kw (bw true) :: clW y (lv true + 1)) ++ tailW true ys ++ [nx]) = _
        simp
      rw [e] at h
      exact h.left
  obtain ⟨nx0, hn0, ha0⟩ := first xs
  refine ⟨_, rfl, R.b, R.dx, _, rfl, hR.ins, rfs_no _ _ _ (by simp), R, i, dp, x, nx0, rfl, hR, ha0 _ _ hz, hn0, hs1, hD1, fun H1 v1 k1 hR1 hv1 => ?_⟩
  refine ⟨fun m σ H' => ∃ ys1 ys2 v, xs = ys1 ++ ys2 ∧ m = ys2.length ∧ σ = [some (.ref R.b), some v] ∧ Kp [R.b] H H' ∧ Rg K H' R (i + (clW x 2).length + (tailW true ys1).length) dp ∧ Ats R.ws (i + (clW x 2).length + (tailW true ys1).length) (tailW true ys2 ++ [nx]) ∧ IsCl K H' v (ys1.foldl (Cl.bin true) x),
    ⟨_, [], xs, v1, rfl, rfl, rfl, k1, hR1, hz.right, hv1⟩, ?_⟩
  rintro m σ H2 ⟨ys1, ys2, v, exs, rfl, rfl, k2, hR2, hz2, hv2⟩
  generalize hj : i + (clW x 2).length + (tailW true ys1).length = j at hR2 hz2
  cases ys2 with
  | nil =>
    have exs' : xs = ys1 := by rw [exs, List.append_nil]
    refine ⟨_, rfl, R.b, R.dx, _, rfl, hR2.ins, rfs_no _ _ _ (by simp), R, j, dp, nx, rfl, hR2, hz2.head, rfl, _, rfl, iteDF (fun z => hnO (strL_inj (V.str.inj z))) ?_⟩
    refine ⟨_, rfl, q H2 v k2 ?_ ?_⟩
    · rw [List.length_append, exs', ← Nat.add_assoc, hj]; exact hR2
    · rw [← hfold, exs']; exact hv2
  | cons y ys2 =>
    have hz3 : Ats R.ws j (kw (bw true) :: (clW y (lv true + 1) ++ (tailW true ys2 ++ [nx]))) := by
      have e : tailW true (y :: ys2) ++ [nx] = kw (bw true) :: (clW y (lv true + 1) ++ (tailW true ys2 ++ [nx])) := by
        show (kw (bw true) :: clW y (lv true + 1)) ++ tailW true ys2 ++ [nx] = _
        simp
      rw [← e]; exact hz2
    have hym : y ∈ xs := by rw [exs]; simp
    obtain ⟨nx3, hn3, ha3⟩ := first ys2
    refine ⟨_, rfl, R.b, R.dx, _, rfl, hR2.ins, rfs_no _ _ _ (by simp), R, j, dp, kw (bw true), rfl, hR2, hz3.head, rfl, _, rfl, iteDT rfl ?_⟩
    refine ⟨fun σ H' => ∃ v, σ = [some (.ref R.b), some v] ∧ Kp [R.b] H H' ∧ Rg K H' R (j + 1 + (clW y (lv true + 1)).length) dp ∧ IsCl K H' v ((ys1 ++ [y]).foldl (Cl.bin true) x), ?_, ?_⟩
    · rintro σ H' ⟨v', rfl, h1, h2, h3⟩
      have ej : i + (clW x 2).length + (tailW true (ys1 ++ [y])).length = j + 1 + (clW y (lv true + 1)).length := by
        have : (tailW true (ys1 ++ [y])).length = (tailW true ys1).length + ((clW y (lv true + 1)).length + 1) := by
          unfold tailW
          rw [List.flatMap_append, List.length_append]
          simp
        omega
      refine ⟨ys2.length, Nat.lt_succ_self _, ys1 ++ [y], ys2, v', by rw [exs, List.append_assoc]; rfl, rfl, rfl, h1, ?_, ?_, h3⟩
      · rw [ej]; exact h2
      · rw [ej]; exact hz3.tail.right
    · refine ⟨_, rfl, R.b, R.dx, _, rfl, hR2.ins, rfs_no _ _ _ (by simp), R, j, dp, kw (bw true), rfl, hR2, hz3.head, fun H3 k3 hR3 => ?_⟩
      refine ⟨_, rfl, _, rfl, R.b, R.dx, _, rfl, hR3.ins, rfs_no _ _ _ (by simp), R, j + 1, dp, y, nx3, rfl, hR3, ha3 _ _ hz3.tail, hn3, hs2 y hym, hD2 y hym, fun H4 v4 k4 hR4 hv4 => ⟨by show 3 ≤ sizeLine; decide, fun t ht => ?_⟩⟩
      have kt : Kp [] H4 (upd H4 t (.tup [.str (bw true), v, v4])) := .new ht
      refine ⟨.ref t, rfl, ((k2.trans k3).trans k4).trans kt.mono0, hR4.kp0 kt, ?_⟩
      rw [List.foldl_append]
      exact ⟨t, v, v4, rfl, SqT.of upd_same, ((hv2.kp k3).kp k4).kp kt, hv4.kp kt⟩
theorem sc_Reading_bracket : FnScope ["self", "found"] ["self"] (defScope s_Reading_bracket) := ⟨rfl, rfl, rfl, by decide +kernel, rfl, by decide +kernel, by decide +kernel⟩
theorem ok_Reading_bracket (T : Txt w K mg) {k : Nat} (hk : 2 ≤ k) {D : Cl → Nat → Prop}
    (G_Reading_claim : FnOk P w K mg base CX0 k (He.ma K (He.ga K "Reading") "claim") (fdA K (He.ma K (He.ga K "Reading") "claim")) ["self"] (sp_Reading_claim K D)) :
    FnOk P w K mg base CX0 (k + 1) (He.ma K (He.ga K "Reading") "bracket") (fdA K (He.ma K (He.ga K "Reading") "bracket")) ["self"] (sp_Reading_bracket K D) := by
  have G_Reading_take := ok_Reading_take (P := P) (base := base) T
  have G_Reading_need := ok_Reading_need (P := P) (base := base) T
  refine (m_Reading_bracket T).ok sc_Reading_bracket (fun vs H Q E h => ?_) (fun cdv A outer s H vs Q E hr h => ?_)
  · obtain ⟨_, _, _, _, rfl, _⟩ := h; rfl
  obtain ⟨R, i, dp, c, rfl, hR, hz, hsm, hdp, hd, q⟩ := h
  refine ⟨_, (pss_cons (ps_if (pt_cmpR op_ge (pe_fld (pv 0) rfl) (pgi (i_MOST_DEEP T)) (nomark _)) (pss_one ps_never) pss_nil)
      (pss_cons (ps_expr (pmeth0 (pv 0) (cl_Reading T) (a_Reading_take T) (m_Reading_take T) G_Reading_take (hr.mono (by omega))))
      (pss_cons (ps_fldaug (pv 0) pe_int in_add)
      (pss_cons (ps_set (i := 1) sc_Reading_bracket.nd rfl (Or.inl rfl) (pmeth0 (pv 0) (cl_Reading T) (a_Reading_claim T) (m_Reading_claim T) G_Reading_claim (hr.mono (by omega))))
      (pss_cons (ps_expr (pmeth (pv 0) (cl_Reading T) (a_Reading_need T) (m_Reading_need T) G_Reading_need (hr.mono (by omega)) (pa_cons pe_str pa_nil)))
      (pss_cons (ps_fldaug (pv 0) pe_int in_sub)
      (pss_one (ps_ret (pv 1))))))))), ?_⟩
  refine ⟨_, rfl, R.b, _, R.dx, _, _, rfl, hR.ins, cl_Reading T, n_Reading_deep T, rfs_deep _ _ _, _, _, rfl, rfl, _, rfl, iteDF (by omega) ?_⟩
  refine ⟨_, rfl, R.b, R.dx, _, rfl, hR.ins, rfs_no _ _ _ (by simp), R, i, dp, _, rfl, hR, hz.head, fun H1 k1 hR1 => ?_⟩
  refine ⟨_, rfl, R.b, _, R.dx, _, _, rfl, hR1.ins, cl_Reading T, n_Reading_deep T, rfs_deep _ _ _, _, _, rfl, rfl, R.dx, _, hR1.ins, by show 3 < 1000; decide, ?_⟩
  have e : putF "deep" (V.int ((dp : Nat) + 1)) (rfs R.wl (i + 1) dp) = rfs R.wl (i + 1) (dp + 1) := rfs_pdeep _ _ _ _
  rw [e]
  obtain ⟨k2, hR2⟩ := hR1.set (i + 1) (dp + 1)
  refine ⟨_, rfl, R.b, R.dx, _, rfl, hR2.ins, rfs_no _ _ _ (by simp), R, i + 1, dp + 1, c, kw ")", rfl, hR2, hz.tail, by decide +kernel, by decide +kernel, hsm, hd, fun H3 v k3 hR3 hv => ?_⟩
  refine ⟨_, rfl, R.b, R.dx, _, rfl, hR3.ins, rfs_no _ _ _ (by simp), R, i + 1 + (clW c 1).length, dp + 1, kw ")", rfl, hR3, hz.tail.right.head, fun H4 k4 hR4 => ?_⟩
  refine ⟨_, rfl, R.b, _, R.dx, _, _, rfl, hR4.ins, cl_Reading T, n_Reading_deep T, rfs_deep _ _ _, _, _, rfl, rfl, R.dx, _, hR4.ins, by show 3 < 1000; decide, ?_⟩
  have ed : ((dp + 1 : Nat) : Int) - 1 = (dp : Nat) := by omega
  have e2 : putF "deep" (V.int (((dp + 1 : Nat) : Int) - 1)) (rfs R.wl (i + 1 + (clW c 1).length + 1) (dp + 1)) = rfs R.wl (i + 1 + (clW c 1).length + 1) dp := by rw [ed]; exact rfs_pdeep _ _ _ _
  rw [e2]
  obtain ⟨k5, hR5⟩ := hR4.set (i + 1 + (clW c 1).length + 1) dp
  refine ⟨_, rfl, q _ v ((((k1.trans k2).trans k3).trans k4).trans k5) ?_ ((hv.kp k4).kp k5)⟩
  rw [show i + ((clW c 1).length + 2) = i + 1 + (clW c 1).length + 1 by omega]
  exact hR5
theorem sc_Reading_part : FnScope ["self", "look"] ["self"] (defScope s_Reading_part) := ⟨rfl, rfl, rfl, by decide +kernel, rfl, by decide +kernel, by decide +kernel⟩
theorem ok_Reading_part (T : Txt w K mg) {k : Nat} (hk : 2 ≤ k) {D Dn Db : Cl → Nat → Prop} (h1 : ∀ a dp, D (.not a) dp → Dn a dp) (h2 : ∀ o a b dp, D (.bin o a b) dp → dp < 30 ∧ Db (.bin o a b) (dp + 1))
    (G_Reading_part : FnOk P w K mg base CX0 k (He.ma K (He.ga K "Reading") "part") (fdA K (He.ma K (He.ga K "Reading") "part")) ["self"] (sp_Reading_part K Dn))
    (G_Reading_bracket : FnOk P w K mg base CX0 k (He.ma K (He.ga K "Reading") "bracket") (fdA K (He.ma K (He.ga K "Reading") "bracket")) ["self"] (sp_Reading_bracket K Db)) :
    FnOk P w K mg base CX0 (k + 1) (He.ma K (He.ga K "Reading") "part") (fdA K (He.ma K (He.ga K "Reading") "part")) ["self"] (sp_Reading_part K D) := by
  have G_Reading_word := ok_Reading_word (P := P) (base := base) T
  have G_Reading_take := ok_Reading_take (P := P) (base := base) T
  have G_Reading_need := ok_Reading_need (P := P) (base := base) T
  have G_Reading_number := ok_Reading_number (P := P) (base := base) T
  have G_Reading_sign := ok_Reading_sign (P := P) (base := base) T
  refine (m_Reading_part T).ok sc_Reading_part (fun vs H Q E h => ?_) (fun cdv A outer s H vs Q E hr h => ?_)
  · obtain ⟨_, _, _, _, rfl, _⟩ := h; rfl
  obtain ⟨R, i, dp, c, rfl, hR, hz, hsm, hd, q⟩ := h
  refine ⟨_, (pss_cons (ps_if (pt_cmpR op_eq (pmeth0 (pv 0) (cl_Reading T) (a_Reading_word T) (m_Reading_word T) G_Reading_word (hr.mono (by omega))) pe_str (nomark _)) (pss_cons (ps_expr (pmeth0 (pv 0) (cl_Reading T) (a_Reading_take T) (m_Reading_take T) G_Reading_take (hr.mono (by omega))))
      (pss_one (ps_ret (pe_tup (pa_cons pe_str (pa_cons (pmeth0 (pv 0) (cl_Reading T) (a_Reading_part T) (m_Reading_part T) G_Reading_part (hr.mono (by omega))) pa_nil)))))) pss_nil)
      (pss_cons (ps_if (pt_cmpR op_eq (pmeth0 (pv 0) (cl_Reading T) (a_Reading_word T) (m_Reading_word T) G_Reading_word (hr.mono (by omega))) pe_str (nomark _)) (pss_one (ps_ret (pmeth0 (pv 0) (cl_Reading T) (a_Reading_bracket T) (m_Reading_bracket T) G_Reading_bracket (hr.mono (by omega))))) pss_nil)
      (pss_cons (ps_set (i := 1) sc_Reading_part.nd rfl (Or.inl rfl) (pmeth0 (pv 0) (cl_Reading T) (a_Reading_number T) (m_Reading_number T) G_Reading_number (hr.mono (by omega))))
      (pss_cons (ps_if (pt_cmpR op_eq (pmeth0 (pv 0) (cl_Reading T) (a_Reading_word T) (m_Reading_word T) G_Reading_word (hr.mono (by omega))) pe_str (nomark _)) (pss_cons (ps_expr (pmeth0 (pv 0) (cl_Reading T) (a_Reading_take T) (m_Reading_take T) G_Reading_take (hr.mono (by omega))))
      (pss_one (ps_ret (pe_tup (pa_cons pe_str (pa_cons (pv 1) (pa_cons (pgs (i_BARE T)) pa_nil))))))) pss_nil)
      (pss_cons (ps_if (pt_cmpR op_eq (pmeth0 (pv 0) (cl_Reading T) (a_Reading_word T) (m_Reading_word T) G_Reading_word (hr.mono (by omega))) pe_str (nomark _)) (pss_cons (ps_expr (pmeth0 (pv 0) (cl_Reading T) (a_Reading_take T) (m_Reading_take T) G_Reading_take (hr.mono (by omega))))
      (pss_one (ps_ret (pe_tup (pa_cons pe_str (pa_cons (pv 1) (pa_cons (pmeth0 (pv 0) (cl_Reading T) (a_Reading_number T) (m_Reading_number T) G_Reading_number (hr.mono (by omega))) pa_nil))))))) pss_nil)
      (pss_cons (ps_expr (pmeth (pv 0) (cl_Reading T) (a_Reading_need T) (m_Reading_need T) G_Reading_need (hr.mono (by omega)) (pa_cons pe_str pa_nil)))
      (pss_one (ps_ret (pe_tup (pa_cons pe_str (pa_cons (pv 1) (pa_cons (pmeth0 (pv 0) (cl_Reading T) (a_Reading_sign T) (m_Reading_sign T) G_Reading_sign (hr.mono (by omega))) pa_nil)))))))))))), ?_⟩
  have kn : ∀ c : Nat, 48 ≤ c → c ≤ 57 → kw "not" ≠ [c] := fun c _ _ e => by
    have e0 : kw "not" = [110, 111, 116] := by decide +kernel
    rw [e0] at e; simp at e
  have kp' : ∀ c : Nat, 48 ≤ c → c ≤ 57 → kw "(" ≠ [c] := fun c a _ e => by
    have e0 : kw "(" = [40] := by decide +kernel
    rw [e0] at e; simp at e; omega
  cases c with
  | not a =>
    have hz' : Ats R.ws i (kw "not" :: clW a 3) := hz
    refine ⟨_, rfl, R.b, R.dx, _, rfl, hR.ins, rfs_no _ _ _ (by simp), R, i, dp, _, rfl, hR, hz'.head, rfl, _, rfl, iteDT rfl ?_⟩
    refine ⟨_, rfl, R.b, R.dx, _, rfl, hR.ins, rfs_no _ _ _ (by simp), R, i, dp, _, rfl, hR, hz'.head, fun H1 k1 hR1 => ?_⟩
    refine ⟨_, rfl, R.b, R.dx, _, rfl, hR1.ins, rfs_no _ _ _ (by simp), R, i + 1, dp, a, rfl, hR1, hz'.tail, hsm, h1 a dp hd, fun H2 v k2 hR2 hv => ⟨by show 2 ≤ sizeLine; decide, fun t ht => ?_⟩⟩
    have kt : Kp [] H2 (upd H2 t (.tup [.str "not", v])) := .new ht
    refine q _ _ ((k1.trans k2).trans kt.mono0) ?_ ⟨t, v, rfl, SqT.of upd_same, hv.kp kt⟩
    rw [show i + (clW (.not a) 3).length = i + 1 + (clW a 3).length by show i + ((clW a 3).length + 1) = _; omega]
    exact hR2.kp0 kt
  | bin o a b =>
    rw [clW_bin3] at hz q
    refine ⟨_, rfl, R.b, R.dx, _, rfl, hR.ins, rfs_no _ _ _ (by simp), R, i, dp, _, rfl, hR, hz.head, rfl, _, rfl, iteDF (by decide +kernel) ?_⟩
    refine ⟨_, rfl, R.b, R.dx, _, rfl, hR.ins, rfs_no _ _ _ (by simp), R, i, dp, _, rfl, hR, hz.head, rfl, _, rfl, iteDT rfl ?_⟩
    obtain ⟨h3, h4⟩ := h2 o a b dp hd
    refine ⟨_, rfl, R.b, R.dx, _, rfl, hR.ins, rfs_no _ _ _ (by simp), R, i, dp, _, rfl, hR, hz, hsm, h3, h4, fun H1 v k1 hR1 hv => q _ v k1 ?_ hv⟩
    rw [show (kw "(" :: (clW (.bin o a b) 1 ++ [kw ")"])).length = (clW (.bin o a b) 1).length + 2 by rw [List.length_cons, List.length_append]; rfl]
    exact hR1
  | alike m n =>
    have hz' : Ats R.ws i [numW m, kw "like", numW n] := hz
    refine ⟨_, rfl, R.b, R.dx, _, rfl, hR.ins, rfs_no _ _ _ (by simp), R, i, dp, _, rfl, hR, hz'.head, rfl, _, rfl, iteDF (num_ne hsm.1 kn) ?_⟩
    refine ⟨_, rfl, R.b, R.dx, _, rfl, hR.ins, rfs_no _ _ _ (by simp), R, i, dp, _, rfl, hR, hz'.head, rfl, _, rfl, iteDF (num_ne hsm.1 kp') ?_⟩
    refine ⟨_, rfl, R.b, R.dx, _, rfl, hR.ins, rfs_no _ _ _ (by simp), R, i, dp, m, rfl, hR, hz'.head, hsm.1, fun H1 k1 hR1 => ?_⟩
    refine ⟨_, rfl, R.b, R.dx, _, rfl, hR1.ins, rfs_no _ _ _ (by simp), R, i + 1, dp, _, rfl, hR1, hz'.tail.head, rfl, _, rfl, iteDF (by decide +kernel) ?_⟩
    refine ⟨_, rfl, R.b, R.dx, _, rfl, hR1.ins, rfs_no _ _ _ (by simp), R, i + 1, dp, _, rfl, hR1, hz'.tail.head, rfl, _, rfl, iteDT rfl ?_⟩
    refine ⟨_, rfl, R.b, R.dx, _, rfl, hR1.ins, rfs_no _ _ _ (by simp), R, i + 1, dp, _, rfl, hR1, hz'.tail.head, fun H2 k2 hR2 => ?_⟩
    refine ⟨_, rfl, _, rfl, R.b, R.dx, _, rfl, hR2.ins, rfs_no _ _ _ (by simp), R, i + 2, dp, n, rfl, hR2, hz'.tail.tail.head, hsm.2, fun H3 k3 hR3 => ⟨by show 3 ≤ sizeLine; decide, fun t ht => ?_⟩⟩
    exact q _ _ (((k1.trans k2).trans k3).newT ht) (hR3.kp0 (.new ht)) ⟨t, rfl, SqT.of upd_same⟩
  | sees m ch =>
    by_cases h46 : ch = 46
    · subst h46
      have hz' : Ats R.ws i [numW m, kw "bare"] := hz
      refine ⟨_, rfl, R.b, R.dx, _, rfl, hR.ins, rfs_no _ _ _ (by simp), R, i, dp, _, rfl, hR, hz'.head, rfl, _, rfl, iteDF (num_ne hsm.1 kn) ?_⟩
      refine ⟨_, rfl, R.b, R.dx, _, rfl, hR.ins, rfs_no _ _ _ (by simp), R, i, dp, _, rfl, hR, hz'.head, rfl, _, rfl, iteDF (num_ne hsm.1 kp') ?_⟩
      refine ⟨_, rfl, R.b, R.dx, _, rfl, hR.ins, rfs_no _ _ _ (by simp), R, i, dp, m, rfl, hR, hz'.head, hsm.1, fun H1 k1 hR1 => ?_⟩
      refine ⟨_, rfl, R.b, R.dx, _, rfl, hR1.ins, rfs_no _ _ _ (by simp), R, i + 1, dp, _, rfl, hR1, hz'.tail.head, rfl, _, rfl, iteDT rfl ?_⟩
      refine ⟨_, rfl, R.b, R.dx, _, rfl, hR1.ins, rfs_no _ _ _ (by simp), R, i + 1, dp, _, rfl, hR1, hz'.tail.head, fun H2 k2 hR2 => ?_⟩
      refine ⟨_, rfl, by show 3 ≤ sizeLine; decide, fun t ht => ?_⟩
      exact q _ _ ((k1.trans k2).newT ht) (hR2.kp0 (.new ht)) ⟨t, rfl, SqT.of upd_same⟩
    · have hz' : Ats R.ws i [numW m, kw "sees", [ch]] := by
        have e : clW (.sees m ch) 3 = [numW m, kw "sees", [ch]] := if_neg h46
        rw [← e]; exact hz
      have hq : (clW (.sees m ch) 3).length = 3 := by
        have e : clW (.sees m ch) 3 = [numW m, kw "sees", [ch]] := if_neg h46
        rw [e]; rfl
      rw [hq] at q
      have hch : cls ch = 1 := by rcases hsm.2 with z | z; exact absurd z h46; exact z
      refine ⟨_, rfl, R.b, R.dx, _, rfl, hR.ins, rfs_no _ _ _ (by simp), R, i, dp, _, rfl, hR, hz'.head, rfl, _, rfl, iteDF (num_ne hsm.1 kn) ?_⟩
      refine ⟨_, rfl, R.b, R.dx, _, rfl, hR.ins, rfs_no _ _ _ (by simp), R, i, dp, _, rfl, hR, hz'.head, rfl, _, rfl, iteDF (num_ne hsm.1 kp') ?_⟩
      refine ⟨_, rfl, R.b, R.dx, _, rfl, hR.ins, rfs_no _ _ _ (by simp), R, i, dp, m, rfl, hR, hz'.head, hsm.1, fun H1 k1 hR1 => ?_⟩
      refine ⟨_, rfl, R.b, R.dx, _, rfl, hR1.ins, rfs_no _ _ _ (by simp), R, i + 1, dp, _, rfl, hR1, hz'.tail.head, rfl, _, rfl, iteDF (by decide +kernel) ?_⟩
      refine ⟨_, rfl, R.b, R.dx, _, rfl, hR1.ins, rfs_no _ _ _ (by simp), R, i + 1, dp, _, rfl, hR1, hz'.tail.head, rfl, _, rfl, iteDF (by decide +kernel) ?_⟩
      refine ⟨_, rfl, R.b, R.dx, _, rfl, hR1.ins, rfs_no _ _ _ (by simp), R, i + 1, dp, kw "sees", rfl, hR1, hz'.tail.head, fun H2 k2 hR2 => ?_⟩
      refine ⟨_, rfl, _, rfl, R.b, R.dx, _, rfl, hR2.ins, rfs_no _ _ _ (by simp), R, i + 2, dp, ch, rfl, hR2, hz'.tail.tail.head, hch, fun H3 k3 hR3 => ⟨by show 3 ≤ sizeLine; decide, fun t ht => ?_⟩⟩
      exact q _ _ (((k1.trans k2).trans k3).newT ht) (hR3.kp0 (.new ht)) ⟨t, rfl, SqT.of upd_same⟩
/-- what part is asked at n -/
def DP (n : Nat) : Cl → Nat → Prop := fun c dp => c.ht < n ∧ dp + n ≤ 20
theorem ok_part (T : Txt w K mg) : ∀ n, FnOk P w K mg base CX0 (4 * n + 3) (He.ma K (He.ga K "Reading") "part") (fdA K (He.ma K (He.ga K "Reading") "part")) ["self"] (sp_Reading_part K (DP n))
  | 0 => (m_Reading_part T).ok sc_Reading_part (fun vs H Q E h => by obtain ⟨_, _, _, _, rfl, _⟩ := h; rfl) (fun cdv A outer s H vs Q E hr h => by obtain ⟨_, _, _, _, _, _, _, _, z, _⟩ := h; exact absurd z.1 (Nat.not_lt_zero _))
  | n + 1 => by
    have G := ok_part T n
    have GB := ok_Reading_both T (by omega) (D := fun c dp => DP n (spine false c).1 dp ∧ ∀ y ∈ (spine false c).2, DP n y dp) (fun c dp h => h) G
    have GC := ok_Reading_claim T (by omega) (D := fun c dp => (DP n (spine false (spine true c).1).1 dp ∧ ∀ y ∈ (spine false (spine true c).1).2, DP n y dp) ∧ ∀ x ∈ (spine true c).2, DP n (spine false x).1 dp ∧ ∀ y ∈ (spine false x).2, DP n y dp) (fun c dp h => h) GB
    have GK := ok_Reading_bracket T (by omega) GC
    have G' : FnOk P w K mg base CX0 (4 * n + 3 + 1 + 1 + 1) (He.ma K (He.ga K "Reading") "part") (fdA K (He.ma K (He.ga K "Reading") "part")) ["self"] (sp_Reading_part K (DP n)) := G.mono (by omega)
    refine ok_Reading_part T (k := 4 * n + 3 + 1 + 1 + 1) (by omega) (Dn := DP n) (fun a dp h => ?_) (fun o a b dp h => ?_) G' GK
    · have e : (Cl.not a).ht = a.ht + 1 := rfl
      obtain ⟨h1, h2⟩ := h
      exact ⟨by omega, by omega⟩
    · obtain ⟨h1, h2⟩ := h
      refine ⟨by omega, ?_⟩
      have lt : ∀ x : Cl, x.ht < n → DP n (spine false x).1 (dp + 1) ∧ ∀ y ∈ (spine false x).2, DP n y (dp + 1) := fun x hx => by
        have := spine_ht false x
        exact ⟨⟨by omega, by omega⟩, fun y hy => ⟨by have := this.2 y hy; omega, by omega⟩⟩
      cases o with
      | true =>
        have e1 := spine_lt true a b
        have e2 := (spine_ht true (.bin true a b)).2
        exact ⟨lt _ (by omega), fun x hx => lt x (by have := e2 x hx; omega)⟩
      | false =>
        have e0 : spine true (.bin false a b) = (.bin false a b, []) := if_neg (by decide)
        rw [e0]
        have e1 := spine_lt false a b
        have e2 := (spine_ht false (.bin false a b)).2
        exact ⟨⟨⟨by show (spine false (.bin false a b)).1.ht < n; omega, by omega⟩, fun y hy => ⟨by have := e2 y hy; omega, by omega⟩⟩, fun x hx => by cases hx⟩
/-- a claim of height up to three, not deep -/
theorem ok_claim (T : Txt w K mg) : FnOk P w K mg base CX0 21 (He.ma K (He.ga K "Reading") "claim") (fdA K (He.ma K (He.ga K "Reading") "claim")) ["self"] (sp_Reading_claim K (fun c dp => c.ht < 4 ∧ dp = 0)) := by
  have G := ok_part (P := P) (base := base) T 4
  have GB := ok_Reading_both T (by omega) (D := DP 4) (fun c dp h => by
    obtain ⟨h1, h2⟩ := h
    have := spine_ht false c
    exact ⟨⟨by omega, h2⟩, fun y hy => ⟨by have := this.2 y hy; omega, h2⟩⟩) G
  exact ok_Reading_claim T (by omega) (fun c dp h => by
    obtain ⟨h1, h2⟩ := h
    have := spine_ht true c
    exact ⟨⟨by omega, by omega⟩, fun y hy => ⟨by have := this.2 y hy; omega, by omega⟩⟩) GB
end
end Ink
set_option Elab.async false
set_option linter.all false
set_option pp.maxSteps 150
set_option maxRecDepth 100000
set_option maxHeartbeats 4000000
namespace Ink
open PySem PySem.Spec PyProof.Rows L2 StX
inductive Stm where
  | ink (z : List Nat) (n : Nat)
  | write (cell c : Nat) (z : List Nat) (lo hi : Nat)
  | reader (z : List Nat) (st : Option Nat) (k0 : PLk) (ks : List PLk)
  | reads (z : List Nat)
  | sure (z : List Nat) (c : Cl)
  | slack (z : List Nat) (m : Nat) (c : Cl)
/-- the words behind the first -/
def Stm.body : Stm → List (List Nat)
  | .ink z n => [z, numW n]
  | .write cell c z lo hi => numW cell :: [c] :: z :: restsW lo hi
  | .reader z st k0 ks => z :: (startW st ++ (kw ":" :: (lkW k0 ++ moreW ks)))
  | .reads z => [kw "reads", z]
  | .sure z c => kw "sure" :: z :: clW c 1
  | .slack z m c => kw "slack" :: z :: numW m :: clW c 1
def Stm.hd : Stm → Str
  | .ink _ _ => "ink"
  | .write _ _ _ _ _ => "write"
  | .reader _ _ _ _ => "reader"
  | _ => "ask"
def stW (s : Stm) : List (List Nat) := kw s.hd :: (s.body ++ [kw ";"])
def Stm.Sm : Stm → Prop
  | .ink z n => NameW z ∧ n < 10
  | .write cell c z lo hi => cell < 10 ∧ cls c = 1 ∧ NameW z ∧ lo < 10 ∧ hi < 10
  | .reader z st k0 ks => NameW z ∧ (∀ n, st = some n → n < 10) ∧ (∀ k ∈ k0 :: ks, k.Sm) ∧ ks.length ≤ 3
  | .reads z => NameW z
  | .sure z c => NameW z ∧ c.Sm ∧ c.ht < 4
  | .slack z m c => NameW z ∧ m < 10 ∧ c.Sm ∧ c.ht < 4
def IsStm (K : PySem.W.Frag) (H : Hp) (v : V) : Stm → Prop
  | .ink z n => ∃ a, v = .ref a ∧ SqT K H a [.str "ink", .str (strL z), .int (n : Nat)]
  | .write cell c z lo hi => ∃ a, v = .ref a ∧ SqT K H a [.str "write", .int (cell : Nat), .str (sg c), .str (strL z), .int (lo : Nat), .int (hi : Nat)]
  | .reader z st k0 ks => ∃ a b vs, v = .ref a ∧ SqT K H a [.str "reader", .str (strL z), startV st, .ref b] ∧ SqT K H b vs ∧ Paired (IsLk K H) vs ((k0 :: ks).map PLk.lk)
  | .reads z => ∃ a, v = .ref a ∧ SqT K H a [.str "ask", .str "reads", .str (strL z)]
  | .sure z c => ∃ a u, v = .ref a ∧ SqT K H a [.str "ask", .str "sure", .str (strL z), u] ∧ IsCl K H u c
  | .slack z m c => ∃ a u, v = .ref a ∧ SqT K H a [.str "ask", .str "slack", .str (strL z), .int (m : Nat), u] ∧ IsCl K H u c
theorem IsStm.kp {K : PySem.W.Frag} {S : List Addr} {H H' : Hp} {v : V} {s : Stm} (h : IsStm K H v s) (k : Kp S H H') : IsStm K H' v s := by
  cases s with
  | ink z n => obtain ⟨a, e, s⟩ := h; exact ⟨a, e, kpT s k⟩
  | write cell c z lo hi => obtain ⟨a, e, s⟩ := h; exact ⟨a, e, kpT s k⟩
  | reader z st k0 ks => obtain ⟨a, b, vs, e, s, s2, p⟩ := h; exact ⟨a, b, vs, e, kpT s k, kpT s2 k, pkp p fun _ _ z => z.kp k⟩
  | reads z => obtain ⟨a, e, s⟩ := h; exact ⟨a, e, kpT s k⟩
  | sure z c => obtain ⟨a, u, e, s, p⟩ := h; exact ⟨a, u, e, kpT s k, p.kp k⟩
  | slack z m c => obtain ⟨a, u, e, s, p⟩ := h; exact ⟨a, u, e, kpT s k, p.kp k⟩
section
variable {P : Program} {w : World} {K : PySem.W.Frag} {mg : Str → Option Value} {base : Heap}
/-- an ask's statement is parsed -/
def sp_Reading_ask (K : PySem.W.Frag) : Sp := fun vs H Q _ => ∃ (R : RB) (i : Nat) (s : Stm), vs = [.ref R.b] ∧ Rg K H R i 0 ∧ s.hd = "ask" ∧ Ats R.ws i (s.body ++ [kw ";"]) ∧ s.Sm ∧
  ∀ H' v, Kp [R.b] H H' → Rg K H' R (i + s.body.length) 0 → IsStm K H' v s → Q v H'
theorem w_ink : ¬ V.str (strL (kw "write")) = V.str "ink" := by decide +kernel
theorem r_ink : ¬ V.str (strL (kw "reader")) = V.str "ink" := by decide +kernel
theorem r_write : ¬ V.str (strL (kw "reader")) = V.str "write" := by decide +kernel
theorem a_ink : ¬ V.str (strL (kw "ask")) = V.str "ink" := by decide +kernel
theorem a_write : ¬ V.str (strL (kw "ask")) = V.str "write" := by decide +kernel
theorem a_reader : ¬ V.str (strL (kw "ask")) = V.str "reader" := by decide +kernel
theorem hd_mem (s : Stm) : s.hd ∈ (["ink", "write", "reader", "ask"] : List Str) := by cases s <;> simp [Stm.hd]
theorem hd_in : ∀ x ∈ (["ink", "write", "reader", "ask"] : List Str), inV (.str (strL (kw x))) [.str "ink", .str "write", .str "reader", .str "ask"] = true := by decide +kernel
theorem semi_ne : kw ";" ≠ kw "and" ∧ kw ";" ≠ kw "or" := by decide +kernel
theorem sc_Reading_ask : FnScope ["self", "word", "name", "most"] ["self"] (defScope s_Reading_ask) := ⟨rfl, rfl, rfl, by decide +kernel, rfl, by decide +kernel, by decide +kernel⟩
theorem ok_Reading_ask (T : Txt w K mg) : FnOk P w K mg base CX0 22 (He.ma K (He.ga K "Reading") "ask") (fdA K (He.ma K (He.ga K "Reading") "ask")) ["self"] (sp_Reading_ask K) := by
  have G_Reading_word := ok_Reading_word (P := P) (base := base) T
  have G_Reading_take := ok_Reading_take (P := P) (base := base) T
  have G_Reading_number := ok_Reading_number (P := P) (base := base) T
  have G_Reading_name := ok_Reading_name (P := P) (base := base) T
  have G_Reading_claim := ok_claim (P := P) (base := base) T
  refine (m_Reading_ask T).ok sc_Reading_ask (fun vs H Q E h => ?_) (fun cdv A outer s H vs Q E hr h => ?_)
  · obtain ⟨_, _, _, rfl, _⟩ := h; rfl
  obtain ⟨R, i, st, rfl, hR, hhd, hz, hsm, q⟩ := h
  refine ⟨_, (pss_cons (ps_set (i := 1) sc_Reading_ask.nd rfl (Or.inl rfl) (pmeth0 (pv 0) (cl_Reading T) (a_Reading_word T) (m_Reading_word T) G_Reading_word (hr.mono (by decide))))
      (pss_cons (ps_if (pt_cmpR op_notIn_seq (pv 1) (pe_glob (v := .ref (He.ga K "ASKS")) (by rfl) (g_ASKS T) rfl) (by with_unfolding_all rfl)) (pss_one ps_never) pss_nil)
      (pss_cons (ps_expr (pmeth0 (pv 0) (cl_Reading T) (a_Reading_take T) (m_Reading_take T) G_Reading_take (hr.mono (by decide))))
      (pss_cons (ps_set (i := 2) sc_Reading_ask.nd rfl (Or.inl rfl) (pmeth0 (pv 0) (cl_Reading T) (a_Reading_name T) (m_Reading_name T) G_Reading_name (hr.mono (by decide))))
      (pss_cons (ps_if (pt_cmpR op_eq (pv 1) pe_str (nomark _)) (pss_one (ps_ret (pe_tup (pa_cons pe_str (pa_cons (pv 1) (pa_cons (pv 2) pa_nil)))))) pss_nil)
      (pss_cons (ps_if (pt_cmpR op_eq (pv 1) pe_str (nomark _)) (pss_one (ps_ret (pe_tup (pa_cons pe_str (pa_cons (pv 1) (pa_cons (pv 2) (pa_cons (pmeth0 (pv 0) (cl_Reading T) (a_Reading_claim T) (m_Reading_claim T) G_Reading_claim (hr.mono (by decide))) pa_nil))))))) pss_nil)
      (pss_cons (ps_set (i := 3) sc_Reading_ask.nd rfl (Or.inl rfl) (pmeth0 (pv 0) (cl_Reading T) (a_Reading_number T) (m_Reading_number T) G_Reading_number (hr.mono (by decide))))
      (pss_one (ps_ret (pe_tup (pa_cons pe_str (pa_cons (pv 1) (pa_cons (pv 2) (pa_cons (pv 3) (pa_cons (pmeth0 (pv 0) (cl_Reading T) (a_Reading_claim T) (m_Reading_claim T) G_Reading_claim (hr.mono (by decide))) pa_nil))))))))))))))), ?_⟩
  cases st with
  | ink z n => exact absurd hhd (show ¬ ("ink" : Str) = "ask" by decide +kernel)
  | write cell c z lo hi => exact absurd hhd (show ¬ ("write" : Str) = "ask" by decide +kernel)
  | reader z st k0 ks => exact absurd hhd (show ¬ ("reader" : Str) = "ask" by decide +kernel)
  | reads z =>
    have hz' : Ats R.ws i (kw "reads" :: z :: [kw ";"]) := hz
    refine ⟨_, rfl, R.b, R.dx, _, rfl, hR.ins, rfs_no _ _ _ (by simp), R, i, 0, _, rfl, hR, hz'.head, ?_⟩
    refine ⟨_, rfl, _, _, rfl, .inr (t_ASKS T H), rfl, rfl, _, rfl, iteEF (by decide +kernel) ?_⟩
    refine ⟨_, rfl, R.b, R.dx, _, rfl, hR.ins, rfs_no _ _ _ (by simp), R, i, 0, _, rfl, hR, hz'.head, fun H1 k1 hR1 => ?_⟩
    refine ⟨_, rfl, R.b, R.dx, _, rfl, hR1.ins, rfs_no _ _ _ (by simp), R, i + 1, 0, z, rfl, hR1, hz'.tail.head, hsm, fun H2 k2 hR2 => ?_⟩
    refine ⟨_, rfl, rfl, _, rfl, iteDT rfl ?_⟩
    refine ⟨_, rfl, _, rfl, by show 3 ≤ sizeLine; decide, fun t ht => ?_⟩
    exact q _ _ ((k1.trans k2).newT ht) (hR2.kp0 (.new ht)) ⟨t, rfl, SqT.of upd_same⟩
  | sure z c =>
    have hz' : Ats R.ws i (kw "sure" :: z :: (clW c 1 ++ [kw ";"])) := hz
    refine ⟨_, rfl, R.b, R.dx, _, rfl, hR.ins, rfs_no _ _ _ (by simp), R, i, 0, _, rfl, hR, hz'.head, ?_⟩
    refine ⟨_, rfl, _, _, rfl, .inr (t_ASKS T H), rfl, rfl, _, rfl, iteEF (by decide +kernel) ?_⟩
    refine ⟨_, rfl, R.b, R.dx, _, rfl, hR.ins, rfs_no _ _ _ (by simp), R, i, 0, _, rfl, hR, hz'.head, fun H1 k1 hR1 => ?_⟩
    refine ⟨_, rfl, R.b, R.dx, _, rfl, hR1.ins, rfs_no _ _ _ (by simp), R, i + 1, 0, z, rfl, hR1, hz'.tail.head, hsm.1, fun H2 k2 hR2 => ?_⟩
    refine ⟨_, rfl, rfl, _, rfl, iteDF (by decide +kernel) ?_⟩
    refine ⟨_, rfl, rfl, _, rfl, iteDT rfl ?_⟩
    refine ⟨_, rfl, _, rfl, _, rfl, R.b, R.dx, _, rfl, hR2.ins, rfs_no _ _ _ (by simp), R, i + 2, 0, c, kw ";", rfl, hR2, hz'.tail.tail, semi_ne.1, semi_ne.2, hsm.2.1, ⟨hsm.2.2, rfl⟩, fun H3 u k3 hR3 hu => ⟨by show 4 ≤ sizeLine; decide, fun t ht => ?_⟩⟩
    refine q _ _ (((k1.trans k2).trans k3).newT ht) ?_ ⟨t, u, rfl, SqT.of upd_same, hu.kp (.new (S := []) ht)⟩
    rw [show i + (Stm.sure z c).body.length = i + 2 + (clW c 1).length by show i + ((clW c 1).length + 1 + 1) = _; omega]
    exact hR3.kp0 (.new ht)
  | slack z m c =>
    have hz' : Ats R.ws i (kw "slack" :: z :: numW m :: (clW c 1 ++ [kw ";"])) := hz
    refine ⟨_, rfl, R.b, R.dx, _, rfl, hR.ins, rfs_no _ _ _ (by simp), R, i, 0, _, rfl, hR, hz'.head, ?_⟩
    refine ⟨_, rfl, _, _, rfl, .inr (t_ASKS T H), rfl, rfl, _, rfl, iteEF (by decide +kernel) ?_⟩
    refine ⟨_, rfl, R.b, R.dx, _, rfl, hR.ins, rfs_no _ _ _ (by simp), R, i, 0, _, rfl, hR, hz'.head, fun H1 k1 hR1 => ?_⟩
    refine ⟨_, rfl, R.b, R.dx, _, rfl, hR1.ins, rfs_no _ _ _ (by simp), R, i + 1, 0, z, rfl, hR1, hz'.tail.head, hsm.1, fun H2 k2 hR2 => ?_⟩
    refine ⟨_, rfl, rfl, _, rfl, iteDF (by decide +kernel) ?_⟩
    refine ⟨_, rfl, rfl, _, rfl, iteDF (by decide +kernel) ?_⟩
    refine ⟨_, rfl, R.b, R.dx, _, rfl, hR2.ins, rfs_no _ _ _ (by simp), R, i + 2, 0, m, rfl, hR2, hz'.tail.tail.head, hsm.2.1, fun H3 k3 hR3 => ?_⟩
    refine ⟨_, rfl, _, rfl, _, rfl, _, rfl, R.b, R.dx, _, rfl, hR3.ins, rfs_no _ _ _ (by simp), R, i + 3, 0, c, kw ";", rfl, hR3, hz'.tail.tail.tail, semi_ne.1, semi_ne.2, hsm.2.2.1, ⟨hsm.2.2.2, rfl⟩, fun H4 u k4 hR4 hu => ⟨by show 5 ≤ sizeLine; decide, fun t ht => ?_⟩⟩
    refine q _ _ ((((k1.trans k2).trans k3).trans k4).newT ht) ?_ ⟨t, u, rfl, SqT.of upd_same, hu.kp (.new (S := []) ht)⟩
    rw [show i + (Stm.slack z m c).body.length = i + 3 + (clW c 1).length by show i + ((clW c 1).length + 1 + 1 + 1) = _; omega]
    exact hR4.kp0 (.new ht)
def sp_Reading_statement (K : PySem.W.Frag) : Sp := fun vs H Q _ => ∃ (R : RB) (i : Nat) (s : Stm), vs = [.ref R.b] ∧ Rg K H R i 0 ∧ Ats R.ws i (stW s) ∧ s.Sm ∧
  ∀ H' v, Kp [R.b] H H' → Rg K H' R (i + (stW s).length) 0 → IsStm K H' v s → Q v H'
theorem sc_Reading_statement : FnScope ["self", "word", "name", "found"] ["self"] (defScope s_Reading_statement) := ⟨rfl, rfl, rfl, by decide +kernel, rfl, by decide +kernel, by decide +kernel⟩
theorem ok_Reading_statement (T : Txt w K mg) : FnOk P w K mg base CX0 23 (He.ma K (He.ga K "Reading") "statement") (fdA K (He.ma K (He.ga K "Reading") "statement")) ["self"] (sp_Reading_statement K) := by
  have G_Reading_word := ok_Reading_word (P := P) (base := base) T
  have G_Reading_take := ok_Reading_take (P := P) (base := base) T
  have G_Reading_need := ok_Reading_need (P := P) (base := base) T
  have G_Reading_number := ok_Reading_number (P := P) (base := base) T
  have G_Reading_name := ok_Reading_name (P := P) (base := base) T
  have G_Reading_write := ok_Reading_write (P := P) (base := base) T
  have G_Reading_reader := ok_Reading_reader (P := P) (base := base) T
  have G_Reading_ask := ok_Reading_ask (P := P) (base := base) T
  refine (m_Reading_statement T).ok sc_Reading_statement (fun vs H Q E h => ?_) (fun cdv A outer s H vs Q E hr h => ?_)
  · obtain ⟨_, _, _, rfl, _⟩ := h; rfl
  obtain ⟨R, i, st, rfl, hR, hz, hsm, q⟩ := h
  refine ⟨_, (pss_cons (ps_set (i := 1) sc_Reading_statement.nd rfl (Or.inl rfl) (pmeth0 (pv 0) (cl_Reading T) (a_Reading_word T) (m_Reading_word T) G_Reading_word (hr.mono (by decide))))
      (pss_cons (ps_if (pt_cmpR op_notIn_seq (pv 1) (pe_tup (pa_cons pe_str (pa_cons pe_str (pa_cons pe_str (pa_cons pe_str pa_nil))))) (by with_unfolding_all rfl)) (pss_one ps_never) pss_nil)
      (pss_cons (ps_expr (pmeth0 (pv 0) (cl_Reading T) (a_Reading_take T) (m_Reading_take T) G_Reading_take (hr.mono (by decide))))
      (pss_cons (ps_cut (ps_if (pt_cmpR op_eq (pv 1) pe_str (nomark _)) (pss_cons (ps_set (i := 2) sc_Reading_statement.nd rfl (Or.inl rfl) (pmeth0 (pv 0) (cl_Reading T) (a_Reading_name T) (m_Reading_name T) G_Reading_name (hr.mono (by decide))))
      (pss_one (ps_set (i := 3) sc_Reading_statement.nd rfl (Or.inl rfl) (pe_tup (pa_cons pe_str (pa_cons (pv 2) (pa_cons (pmeth0 (pv 0) (cl_Reading T) (a_Reading_number T) (m_Reading_number T) G_Reading_number (hr.mono (by decide))) pa_nil))))))) (pss_one (ps_if (pt_cmpR op_eq (pv 1) pe_str (nomark _)) (pss_one (ps_set (i := 3) sc_Reading_statement.nd rfl (Or.inl rfl) (pmeth0 (pv 0) (cl_Reading T) (a_Reading_write T) (m_Reading_write T) G_Reading_write (hr.mono (by decide))))) (pss_one (ps_set (i := 3) sc_Reading_statement.nd rfl (Or.inl rfl) (pe_ifExp (pt_cmpR op_eq (pv 1) pe_str (nomark _)) (pmeth0 (pv 0) (cl_Reading T) (a_Reading_reader T) (m_Reading_reader T) G_Reading_reader (hr.mono (by decide))) (pmeth0 (pv 0) (cl_Reading T) (a_Reading_ask T) (m_Reading_ask T) G_Reading_ask (hr.mono (by decide))))))))))
      (pss_cons (ps_expr (pmeth (pv 0) (cl_Reading T) (a_Reading_need T) (m_Reading_need T) G_Reading_need (hr.mono (by decide)) (pa_cons pe_str pa_nil)))
      (pss_one (ps_ret (pv 3)))))))), ?_⟩
  have hz' : Ats R.ws i (kw st.hd :: (st.body ++ [kw ";"])) := hz
  have hln : i + (stW st).length = i + 1 + st.body.length + 1 := by
    unfold stW
    rw [List.length_cons, List.length_append, List.length_singleton]; omega
  refine ⟨_, rfl, R.b, R.dx, _, rfl, hR.ins, rfs_no _ _ _ (by simp), R, i, 0, _, rfl, hR, hz'.head, ?_⟩
  refine ⟨_, rfl, by show 4 ≤ sizeLine; decide, fun t0 ht0 => ?_⟩
  have k0 : Kp [] H (upd H t0 (.tup [.str "ink", .str "write", .str "reader", .str "ask"])) := .new ht0
  have ht1 : SqT K (upd H t0 (.tup [.str "ink", .str "write", .str "reader", .str "ask"])) t0 [.str "ink", .str "write", .str "reader", .str "ask"] := SqT.of upd_same
  have hR0 := hR.kp0 k0
  generalize upd H t0 (.tup [.str "ink", .str "write", .str "reader", .str "ask"]) = H0 at k0 ht1 hR0 ⊢
  have hin : inV (.str (strL (kw st.hd))) [.str "ink", .str "write", .str "reader", .str "ask"] = true := hd_in _ (hd_mem st)
  refine ⟨t0, _, rfl, .inr ht1, rfl, rfl, _, rfl, iteEF (by show (!inV _ _) = false; rw [hin]; rfl) ?_⟩
  refine ⟨_, rfl, R.b, R.dx, _, rfl, hR0.ins, rfs_no _ _ _ (by simp), R, i, 0, _, rfl, hR0, hz'.head, fun H1 k1 hR1 => ?_⟩
  have hz1 := hz'.tail
  refine ⟨fun σ H' => ∃ o2 v, σ = [some (.ref R.b), some (.str (strL (kw st.hd))), o2, some v] ∧ Kp [R.b] H H' ∧ Rg K H' R (i + 1 + st.body.length) 0 ∧ IsStm K H' v st, ?_, ?_⟩
  · have k01 : Kp [R.b] H H1 := k0.mono0.trans k1
    cases st with
    | ink z n =>
      refine ⟨_, rfl, rfl, _, rfl, iteDT rfl ?_⟩
      have hzz : Ats R.ws (i + 1) (z :: numW n :: [kw ";"]) := hz1
      refine ⟨_, rfl, R.b, R.dx, _, rfl, hR1.ins, rfs_no _ _ _ (by simp), R, i + 1, 0, z, rfl, hR1, hzz.head, hsm.1, fun H2 k2 hR2 => ?_⟩
      refine ⟨_, rfl, _, rfl, R.b, R.dx, _, rfl, hR2.ins, rfs_no _ _ _ (by simp), R, i + 2, 0, n, rfl, hR2, hzz.tail.head, hsm.2, fun H3 k3 hR3 => ⟨by show 3 ≤ sizeLine; decide, fun t ht => ?_⟩⟩
      exact ⟨_, _, rfl, ((k01.trans k2).trans k3).newT ht, hR3.kp0 (.new ht), t, rfl, SqT.of upd_same⟩
    | write cell c z lo hi =>
      refine ⟨_, rfl, rfl, _, rfl, iteDF w_ink ?_⟩
      refine ⟨_, rfl, rfl, _, rfl, iteDT rfl ?_⟩
      obtain ⟨s1, s2, s3, s4, s5⟩ := hsm
      refine ⟨_, rfl, R.b, R.dx, _, rfl, hR1.ins, rfs_no _ _ _ (by simp), R, i + 1, 0, cell, c, z, lo, hi, rfl, hR1, hz1.left, s1, s2, s3, s4, s5, fun H2 a k2 hR2 ha => ?_⟩
      exact ⟨_, _, rfl, k01.trans k2, hR2, a, rfl, ha⟩
    | reader z stt k0' ks =>
      refine ⟨_, rfl, rfl, _, rfl, iteDF r_ink ?_⟩
      refine ⟨_, rfl, rfl, _, rfl, iteDF r_write ?_⟩
      refine ⟨_, rfl, rfl, _, rfl, iteDT rfl ?_⟩
      obtain ⟨s1, s2, s3, s4⟩ := hsm
      have hb : (Stm.reader z stt k0' ks).body ++ [kw ";"] = z :: (startW stt ++ (kw ":" :: (lkW k0' ++ (moreW ks ++ [kw ";"])))) := by
        show (z :: (startW stt ++ (kw ":" :: (lkW k0' ++ moreW ks)))) ++ [kw ";"] = _
        simp
      have hz2 := hz1
      rw [hb] at hz2
      refine ⟨_, rfl, R.b, R.dx, _, rfl, hR1.ins, rfs_no _ _ _ (by simp), R, i + 1, 0, z, stt, k0', ks, rfl, hR1, hz2, s1, s2, s3, s4, fun H2 a b vs k2 hR2 ha hb hvs => ?_⟩
      exact ⟨_, _, rfl, k01.trans k2, hR2, a, b, vs, rfl, ha, hb, hvs⟩
    | reads z =>
      refine ⟨_, rfl, rfl, _, rfl, iteDF a_ink ?_⟩
      refine ⟨_, rfl, rfl, _, rfl, iteDF a_write ?_⟩
      refine ⟨_, rfl, rfl, _, rfl, iteDF a_reader ?_⟩
      have hh : (Stm.reads z).hd = "ask" := rfl
      have hno := rfs_no R.wl (i + 1) 0 (m := "ask") (by simp)
      exact ⟨_, rfl, R.b, R.dx, _, rfl, hR1.ins, hno, R, i + 1, (Stm.reads z), rfl, hR1, hh, hz1, hsm, fun H2 v k2 hR2 hv => ⟨_, v, rfl, k01.trans k2, hR2, hv⟩⟩
    | sure z c =>
      refine ⟨_, rfl, rfl, _, rfl, iteDF a_ink ?_⟩
      refine ⟨_, rfl, rfl, _, rfl, iteDF a_write ?_⟩
      refine ⟨_, rfl, rfl, _, rfl, iteDF a_reader ?_⟩
      have hh : (Stm.sure z c).hd = "ask" := rfl
      have hno := rfs_no R.wl (i + 1) 0 (m := "ask") (by simp)
      exact ⟨_, rfl, R.b, R.dx, _, rfl, hR1.ins, hno, R, i + 1, (Stm.sure z c), rfl, hR1, hh, hz1, hsm, fun H2 v k2 hR2 hv => ⟨_, v, rfl, k01.trans k2, hR2, hv⟩⟩
    | slack z m c =>
      refine ⟨_, rfl, rfl, _, rfl, iteDF a_ink ?_⟩
      refine ⟨_, rfl, rfl, _, rfl, iteDF a_write ?_⟩
      refine ⟨_, rfl, rfl, _, rfl, iteDF a_reader ?_⟩
      have hh : (Stm.slack z m c).hd = "ask" := rfl
      have hno := rfs_no R.wl (i + 1) 0 (m := "ask") (by simp)
      exact ⟨_, rfl, R.b, R.dx, _, rfl, hR1.ins, hno, R, i + 1, (Stm.slack z m c), rfl, hR1, hh, hz1, hsm, fun H2 v k2 hR2 hv => ⟨_, v, rfl, k01.trans k2, hR2, hv⟩⟩
  rintro σ H2 ⟨o2, v, rfl, k2, hR2, hv⟩
  refine ⟨_, rfl, R.b, R.dx, _, rfl, hR2.ins, rfs_no _ _ _ (by simp), R, i + 1 + st.body.length, 0, kw ";", rfl, hR2, hz1.right.head, fun H3 k3 hR3 => ⟨_, rfl, q _ v (k2.trans k3) ?_ (hv.kp k3)⟩⟩
  rw [hln]
  exact hR3
end
end Ink
set_option Elab.async false
set_option linter.all false
set_option pp.maxSteps 150
set_option maxRecDepth 100000
set_option maxHeartbeats 4000000
namespace Ink
open PySem PySem.Spec PyProof.Rows L2 StX
/-! ### the state that statements lead through -/
structure PWr where
  cell : Nat
  c : Nat
  z : List Nat
  lo : Nat
  hi : Nat
structure PSt where
  inks : List (List Nat × Nat)
  ws : List PWr
  rds : List (List Nat × (Option Nat × List PLk))
def PSt.names (S : PSt) : List (List Nat) := S.inks.map (·.1)
def PSt.rd (S : PSt) (z : List Nat) : Option (Option Nat × List PLk) := (S.rds.find? fun x => decide (x.1 = z)).map (·.2)
def PSt.next (S : PSt) : Stm → PSt
  | .ink z n => { S with inks := S.inks ++ [(z, n)] }
  | .write cell c z lo hi => { S with ws := S.ws ++ [⟨cell, c, z, lo, hi⟩] }
  | .reader z st k0 ks => { S with rds := S.rds ++ [(z, (st, k0 :: ks))] }
  | _ => S
def VStm (cells : Nat) (S : PSt) : Stm → Prop
  | .ink z n => z ∉ S.names ∧ S.rd z = none ∧ 1 ≤ n ∧ n ≤ 50 ∧ S.inks.length + 1 ≤ 4
  | .write cell c z lo hi => cell < cells ∧ z ∈ S.names ∧ lo ≤ hi ∧ hi ≤ 50 ∧ S.ws.length + 1 ≤ 4
  | .reader z st k0 ks => z ∉ S.names ∧ S.rd z = none ∧ (∀ n, st = some n → n < S.ws.length) ∧ (∀ k ∈ k0 :: ks, k.cell < cells ∧ k.low ≤ k.high ∧ k.high ≤ 200) ∧ ks.length ≤ 1 ∧ S.rds.length < 10
  | .reads z => ∃ d, S.rd z = some d
  | .sure z c => ∃ d, S.rd z = some d ∧ c.Ok d.2.length ∧ c.ht < 4 ∧ c.parts ≤ 20
  | .slack z m c => ∃ d, S.rd z = some d ∧ c.Ok d.2.length ∧ c.ht < 4 ∧ c.parts ≤ 20 ∧ m = 0
def VProg (cells : Nat) : PSt → List Stm → Prop
  | _, [] => True
  | S, s :: ss => s.Sm ∧ VStm cells S s ∧ VProg cells (S.next s) ss
def S0 : PSt := ⟨[], [], []⟩
def progW (cells : Nat) (ss : List Stm) : List (List Nat) := kw "cells" :: numW cells :: kw ";" :: ss.flatMap stW
theorem inV_str (z : List Nat) : ∀ l : List (List Nat), inV (.str (strL z)) (l.map fun x => V.str (strL x)) = decide (z ∈ l)
  | [] => rfl
  | x :: l => by
    show (eqV (.str (strL x)) (.str (strL z)) || inV (.str (strL z)) (l.map fun x => V.str (strL x))) = _
    rw [inV_str z l]
    show ((strL x == strL z) || decide (z ∈ l)) = _
    by_cases h : x = z
    · subst h; simp
    · have : (strL x == strL z) = false := beq_eq_false_iff_ne.mpr fun e => h (strL_inj e)
      rw [this]
      have h2 : (z ∈ x :: l) ↔ z ∈ l := by simp [Ne.symm h]
      rw [Bool.false_or]
      exact decide_eq_decide.mpr h2.symm
theorem flat_strs : ∀ l : List (List Nat), (l.map fun x => V.str (strL x)).all flatV = true
  | [] => rfl
  | x :: l => flat_strs l
theorem valV_strs {β : Type} (g : β → V) (z : List Nat) : ∀ l : List (List Nat × β), valV (l.map fun x => ((Sum.inr (strL x.1) : Key), g x.2)) (.inr (strL z)) = ((l.find? fun x => decide (x.1 = z)).map (·.2)).map g
  | [] => rfl
  | x :: l => by
    by_cases h : x.1 = z
    · rw [List.map_cons, valV_pos (by rw [h]), List.find?_cons, decide_eq_true h]; rfl
    · rw [List.map_cons, valV_neg (fun e => h (strL_inj (Sum.inr.inj e))), List.find?_cons, decide_eq_false h]
      exact valV_strs g z l
structure NB where
  b : Addr
  dx : Addr
  il : Addr
  rl : Addr
def nfs (cells : Nat) (il rl : Addr) (nw : Nat) : List (Str × V) := [("cells", .int (cells : Nat)), ("inks", .ref il), ("writes", .int (nw : Nat)), ("readers", .ref rl)]
theorem nfs_cells (c : Nat) (il rl : Addr) (n : Nat) : (nfs c il rl n).lookup ("cells" : Str) = some (.int (c : Nat)) := by kernel_rfl
theorem nfs_inks (c : Nat) (il rl : Addr) (n : Nat) : (nfs c il rl n).lookup ("inks" : Str) = some (.ref il) := by kernel_rfl
theorem nfs_writes (c : Nat) (il rl : Addr) (n : Nat) : (nfs c il rl n).lookup ("writes" : Str) = some (.int (n : Nat)) := by kernel_rfl
theorem nfs_readers (c : Nat) (il rl : Addr) (n : Nat) : (nfs c il rl n).lookup ("readers" : Str) = some (.ref rl) := by kernel_rfl
theorem nfs_put (c : Nat) (il rl : Addr) (n m : Nat) : putF "writes" (.int (m : Nat)) (nfs c il rl n) = nfs c il rl m := by kernel_rfl
theorem nfs_no (c : Nat) (il rl : Addr) (n : Nat) : (nfs c il rl n).lookup ("need_new" : Str) = none ∧ (nfs c il rl n).lookup ("need_cell" : Str) = none ∧ (nfs c il rl n).lookup ("ink" : Str) = none ∧ (nfs c il rl n).lookup ("write" : Str) = none ∧ (nfs c il rl n).lookup ("reader" : Str) = none ∧ (nfs c il rl n).lookup ("ask" : Str) = none := by
  refine ⟨?_, ?_, ?_, ?_, ?_, ?_⟩ <;> kernel_rfl
def nmInks (S : PSt) : List V := S.names.map fun x => V.str (strL x)
def nmRds (S : PSt) : List (Key × V) := S.rds.map fun x => ((Sum.inr (strL x.1) : Key), V.int (x.2.2.length : Nat))
structure Nm (K : PySem.W.Frag) (H : Hp) (N : NB) (cells : Nat) (S : PSt) : Prop where
  ins : H N.b = some (.ins (He.ga K "Names") N.dx (nfs cells N.il N.rl S.ws.length))
  il : H N.il = some (.lst (nmInks S))
  rl : H N.rl = some (.dK (nmRds S))
def NB.S (N : NB) : List Addr := [N.b, N.il, N.rl]
theorem Nm.kp {K : PySem.W.Frag} {H H' : Hp} {N : NB} {cells : Nat} {S : PSt} {T : List Addr} (h : Nm K H N cells S) (k : Kp T H H') (hb : N.b ∉ T) (hi : N.il ∉ T) (hr : N.rl ∉ T) : Nm K H' N cells S := ⟨k.keep _ _ h.ins hb, k.keep _ _ h.il hi, k.keep _ _ h.rl hr⟩
theorem Nm.ne {K : PySem.W.Frag} {H : Hp} {N : NB} {cells : Nat} {S : PSt} (h : Nm K H N cells S) : N.b ≠ N.il ∧ N.b ≠ N.rl ∧ N.il ≠ N.rl :=
  ⟨ne_of h.ins h.il (by intro z; cases z), ne_of h.ins h.rl (by intro z; cases z), ne_of h.il h.rl (by intro z; cases z)⟩
section
variable {P : Program} {w : World} {K : PySem.W.Frag} {mg : Str → Option Value} {base : Heap}
def sp_Reading_program (K : PySem.W.Frag) : Sp := fun vs H Q _ => ∃ (R : RB) (n : Nat) (ss : List Stm), vs = [.ref R.b] ∧ Rg K H R 0 0 ∧ R.ws = progW n ss ++ [[]] ∧ n < 10 ∧ (∀ s ∈ ss, s.Sm) ∧ ss.length ≤ 500 ∧
  ∀ H' a f tv, Kp [R.b] H H' → SqT K H' a [.int (n : Nat), .ref f] → H' f = some (.lst tv) → H f = none → Paired (IsStm K H') tv ss → Q (.ref a) H'
theorem sc_Reading_program : FnScope ["self", "cells", "found"] ["self"] (defScope s_Reading_program) := ⟨rfl, rfl, rfl, by decide +kernel, rfl, by decide +kernel, by decide +kernel⟩
theorem ok_Reading_program (T : Txt w K mg) : FnOk P w K mg base CX0 24 (He.ma K (He.ga K "Reading") "program") (fdA K (He.ma K (He.ga K "Reading") "program")) ["self"] (sp_Reading_program K) := by
  have G_Reading_word := ok_Reading_word (P := P) (base := base) T
  have G_Reading_need := ok_Reading_need (P := P) (base := base) T
  have G_Reading_number := ok_Reading_number (P := P) (base := base) T
  have G_Reading_statement := ok_Reading_statement (P := P) (base := base) T
  refine (m_Reading_program T).ok sc_Reading_program (fun vs H Q E h => ?_) (fun cdv A outer s H vs Q E hr h => ?_)
  · obtain ⟨_, _, _, rfl, _⟩ := h; rfl
  obtain ⟨R, n, ss, rfl, hR, hws, hn, hsm, hlen, q⟩ := h
  have hz : Ats R.ws 0 (kw "cells" :: numW n :: kw ";" :: (ss.flatMap stW ++ [[]])) := ⟨[], by rw [hws, List.append_nil]; rfl⟩
  refine ⟨_, (pss_cons (ps_expr (pmeth (pv 0) (cl_Reading T) (a_Reading_need T) (m_Reading_need T) G_Reading_need (hr.mono (by decide)) (pa_cons pe_str pa_nil)))
      (pss_cons (ps_par (i := 1) (j := 2) rfl sc_Reading_program.nd rfl rfl (by decide) rfl rfl (pa_cons (pmeth0 (pv 0) (cl_Reading T) (a_Reading_number T) (m_Reading_number T) G_Reading_number (hr.mono (by decide))) (pa_cons (pe_lst pa_nil) pa_nil)) (by rfl))
      (pss_cons (ps_expr (pmeth (pv 0) (cl_Reading T) (a_Reading_need T) (m_Reading_need T) G_Reading_need (hr.mono (by decide)) (pa_cons pe_str pa_nil)))
      (pss_cons (ps_while PassesOwn.never (pt_cmpR op_ne (pmeth0 (pv 0) (cl_Reading T) (a_Reading_word T) (m_Reading_word T) G_Reading_word (hr.mono (by decide))) pe_str (nomark _)) (pss_one (ps_expr (pe_bm PySem.F.plainAttrs_list PySem.F.slot_list_append PySem.F.type_list_append mt_append (pv 2) (pa_cons (pmeth0 (pv 0) (cl_Reading T) (a_Reading_statement T) (m_Reading_statement T) G_Reading_statement (hr.mono (by decide))) pa_nil)))))
      (pss_one (ps_ret (pe_tup (pa_cons (pv 1) (pa_cons (pv 2) pa_nil))))))))), ?_⟩
  refine ⟨_, rfl, R.b, R.dx, _, rfl, hR.ins, rfs_no _ _ _ (by simp), R, 0, 0, kw "cells", rfl, hR, hz.head, fun H1 k1 hR1 => ?_⟩
  refine ⟨_, rfl, R.b, R.dx, _, rfl, hR1.ins, rfs_no _ _ _ (by simp), R, 1, 0, n, rfl, hR1, hz.tail.head, hn, fun H2 k2 hR2 => ⟨by show 0 ≤ sizeLine; decide, fun f hf => ⟨_, _, rfl, ?_⟩⟩⟩
  have kf : Kp [] H2 (upd H2 f (.lst [])) := .new hf
  have hR3 := hR2.kp0 kf
  have hf3 : (upd H2 f (.lst [])) f = some (.lst []) := upd_same
  have hfH : H f = none := (k1.trans k2).freeS (fun a ha => by rw [List.mem_singleton.mp ha]; exact ⟨_, hR2.ins⟩) hf
  have nfb : f ≠ R.b := fun e => by have := hR2.ins; rw [← e, hf] at this; cases this
  have nfw : f ≠ R.wl := fun e => by have := hR2.lst; rw [← e, hf] at this; cases this
  have k3 := (k1.trans k2).newT (p := f) (o := .lst []) hf
  generalize upd H2 f (.lst []) = H3 at hR3 hf3 k3 ⊢
  refine ⟨_, rfl, R.b, R.dx, _, rfl, hR3.ins, rfs_no _ _ _ (by simp), R, 2, 0, kw ";", rfl, hR3, hz.tail.tail.head, fun H4 k4 hR4 => ?_⟩
  have hf4 := k4.keep _ _ hf3 (by simp [nfb])
  refine ⟨fun m σ H' => ∃ ss1 ss2 tv j, ss = ss1 ++ ss2 ∧ m = ss2.length ∧ σ = [some (.ref R.b), some (.int (n : Nat)), some (.ref f)] ∧ Kp [R.b, f] H4 H' ∧ Rg K H' R j 0 ∧ Ats R.ws j (ss2.flatMap stW ++ [[]]) ∧ H' f = some (.lst tv) ∧ Paired (IsStm K H') tv ss1,
    ⟨_, [], ss, [], 3, rfl, rfl, rfl, .refl _ _, hR4, hz.tail.tail.tail, hf4, .nil⟩, ?_⟩
  rintro m σ H5 ⟨ss1, ss2, tv, j, ess, rfl, rfl, k5, hR5, hz5, hf5, htv⟩
  have htl : tv.length = ss1.length := paired_len htv
  have hsl : ss.length = ss1.length + ss2.length := by rw [ess, List.length_append]
  cases ss2 with
  | nil =>
    refine ⟨_, rfl, R.b, R.dx, _, rfl, hR5.ins, rfs_no _ _ _ (by simp), R, j, 0, [], rfl, hR5, hz5.head, rfl, _, rfl, iteNF (by rw [strL_nil]) ?_⟩
    refine ⟨_, rfl, _, rfl, by show 2 ≤ sizeLine; decide, fun a ha => ?_⟩
    have ka : Kp [] H5 (upd H5 a (.tup [.int (n : Nat), .ref f])) := .new ha
    rw [show ss = ss1 by rw [ess, List.append_nil]] at q
    refine q _ a f tv (((k3.trans k4).drop k5 fun x hx => ?_).trans ka.mono0) (SqT.of upd_same) (ka.keep _ _ hf5 (by simp)) hfH (pkp htv fun _ _ z => z.kp ka)
    have : x = R.b ∨ x = f := by simpa using hx
    rcases this with e | e
    · exact .inr (by rw [e]; simp)
    · exact .inl (by rw [e]; exact hfH)
  | cons st ss2 =>
    have hz6 : Ats R.ws j (stW st ++ (ss2.flatMap stW ++ [[]])) := by rw [← List.append_assoc]; exact hz5
    have hne : ¬ V.str (strL (kw st.hd)) = V.str "" := by
      have : ∀ x ∈ (["ink", "write", "reader", "ask"] : List Str), ¬ V.str (strL (kw x)) = V.str "" := by decide +kernel
      exact this _ (hd_mem st)
    have hz7 : Ats R.ws j (kw st.hd :: (st.body ++ [kw ";"] ++ (ss2.flatMap stW ++ [[]]))) := hz6
    refine ⟨_, rfl, R.b, R.dx, _, rfl, hR5.ins, rfs_no _ _ _ (by simp), R, j, 0, _, rfl, hR5, hz7.head, rfl, _, rfl, iteNT hne ?_⟩
    refine ⟨fun σ H' => ∃ tv, σ = [some (.ref R.b), some (.int (n : Nat)), some (.ref f)] ∧ Kp [R.b, f] H4 H' ∧ Rg K H' R (j + (stW st).length) 0 ∧ H' f = some (.lst tv) ∧ Paired (IsStm K H') tv (ss1 ++ [st]), ?_, ?_⟩
    · rintro σ H' ⟨tv', rfl, g1, g2, g3, g4⟩
      exact ⟨ss2.length, Nat.lt_succ_self _, ss1 ++ [st], ss2, tv', j + (stW st).length, by rw [ess, List.append_assoc]; rfl, rfl, rfl, g1, g2, hz6.right, g3, g4⟩
    · refine ⟨_, rfl, .inl ⟨rfl, _, SqL.of hf5⟩, ?_⟩
      refine ⟨_, rfl, R.b, R.dx, _, rfl, hR5.ins, rfs_no _ _ _ (by simp), R, j, st, rfl, hR5, hz6.left, hsm st (by rw [ess]; simp), fun H6 v k6 hR6 hv => ?_⟩
      have hf6 := k6.keep _ _ hf5 (by simp [nfb])
      have kff : Kp [f] H6 (upd H6 f (.lst (tv ++ [v]))) := .put (by simp) hf6 rfl
      exact ⟨f, tv, _, rfl, rfl, hf6, small1000 (by omega), tv ++ [v], rfl, (k5.trans (k6.mono (by simp))).trans (kff.mono (by simp)), hR6.kp kff (by simp [nfb.symm]) (by simp [nfw.symm]), upd_same, paired_snoc (pkp htv fun _ _ z => (z.kp k6).kp kff) (hv.kp kff)⟩
def sp_need_bound : Sp := fun vs H Q _ => ∃ n lo hi, vs = [.int n, .int lo, .int hi] ∧ lo ≤ n ∧ n ≤ hi ∧ Q .non H
theorem sc_need_bound : FnScope ["number", "low", "high"] ["number", "low", "high"] (defScope s_need_bound) := ⟨rfl, rfl, rfl, by decide +kernel, rfl, by decide +kernel, by decide +kernel⟩
theorem ok_need_bound (T : Txt w K mg) : FnOk P w K mg base CX0 1 (He.ga K "need_bound") (fdA K (He.ga K "need_bound")) ["number", "low", "high"] sp_need_bound := by
  refine (d_need_bound T).ok sc_need_bound (fun vs H Q E h => ?_) (fun cdv A outer s H vs Q E hr h => ?_)
  · obtain ⟨_, _, _, rfl, _⟩ := h; rfl
  obtain ⟨n, lo, hi, rfl, h1, h2, q⟩ := h
  refine ⟨_, (pss_one (ps_if (pt_not (pt_chain op_le op_le (pv 1) (pv 0) (pv 2))) pss_never pss_nil)), ?_⟩
  exact ⟨_, rfl, _, rfl, _, _, rfl, rfl, _, rfl, iteDT h1 ⟨_, rfl, _, _, rfl, rfl, _, rfl, iteNF h2 q⟩⟩
def sp_Names_init (K : PySem.W.Frag) : Sp := fun vs H Q _ => ∃ (x dx : Addr) (n : Nat), vs = [.ref x, .int (n : Nat)] ∧ H x = some (.ins (He.ga K "Names") dx []) ∧
  ∀ H' N, Kp [x] H H' → N.b = x → H N.il = none → H N.rl = none → Nm K H' N n S0 → Q .non H'
theorem sc_Names_init : FnScope ["self", "cells"] ["self", "cells"] (defScope s_Names_init) := ⟨rfl, rfl, rfl, by decide +kernel, rfl, by decide +kernel, by decide +kernel⟩
theorem ok_Names_init (T : Txt w K mg) : FnOk P w K mg base CX0 1 (He.ma K (He.ga K "Names") "__init__") (fdA K (He.ma K (He.ga K "Names") "__init__")) ["self", "cells"] (sp_Names_init K) := by
  refine (m_Names_init T).ok sc_Names_init (fun vs H Q E h => ?_) (fun cdv A outer s H vs Q E hr h => ?_)
  · obtain ⟨_, _, _, rfl, _⟩ := h; rfl
  obtain ⟨x, dx, n, rfl, hx, q⟩ := h
  refine ⟨_, (pss_cons (ps_fld (pv 0) (pv 1) rfl)
      (pss_cons (ps_fld (pv 0) (pe_lst pa_nil) rfl)
      (pss_cons (ps_fld (pv 0) pe_int rfl)
      (pss_one (ps_fld (pv 0) pe_dnewK rfl))))), ?_⟩
  refine ⟨_, rfl, _, rfl, x, _, dx, _, rfl, hx, cl_Names T, n_Names_cells T, (by show 0 < 1000; decide), ?_⟩
  have k1 : Kp [x] H (upd H x (.ins (He.ga K "Names") dx (putF "cells" (.int (n : Nat)) []))) := .put (by simp) hx rfl
  have hx1 : (upd H x (.ins (He.ga K "Names") dx (putF "cells" (.int (n : Nat)) []))) x = some (.ins (He.ga K "Names") dx (putF "cells" (.int (n : Nat)) [])) := upd_same
  generalize upd H x (.ins (He.ga K "Names") dx (putF "cells" (.int (n : Nat)) [])) = H1 at k1 hx1 ⊢
  refine ⟨by show 0 ≤ sizeLine; decide, fun il hil => ?_⟩
  have nxi : x ≠ il := fun e => by rw [← e, hx1] at hil; cases hil
  have hilH : H il = none := k1.freeS (fun a ha => by rw [List.mem_singleton.mp ha]; exact ⟨_, hx1⟩) hil
  have hx2 : upd H1 il (.lst []) x = some (.ins (He.ga K "Names") dx (putF "cells" (.int (n : Nat)) [])) := by rw [upd_ne nxi]; exact hx1
  refine ⟨_, rfl, x, _, dx, _, rfl, hx2, cl_Names T, n_Names_inks T, (by show 1 < 1000; decide), ?_⟩
  refine ⟨_, rfl, x, _, dx, _, rfl, upd_same, cl_Names T, n_Names_writes T, (by show 2 < 1000; decide), ?_⟩
  refine fun rl hrl => ?_
  have hrl0 : rl ≠ x ∧ upd H1 il (.lst []) rl = none := by
    have h1 := upd_none hrl
    have h2 := upd_none h1.2
    exact ⟨h1.1, h2.2⟩
  have hrl1 := upd_none hrl0.2
  have hrlH : H rl = none := k1.freeS (fun a ha => by rw [List.mem_singleton.mp ha]; exact ⟨_, hx1⟩) hrl1.2
  have hx3 : upd (upd (upd (upd H1 il (.lst [])) x (.ins (He.ga K "Names") dx (putF "inks" (.ref il) (putF "cells" (.int (n : Nat)) [])))) x (.ins (He.ga K "Names") dx (putF "writes" (.int 0) (putF "inks" (.ref il) (putF "cells" (.int (n : Nat)) []))))) rl (.dK []) x =
      some (.ins (He.ga K "Names") dx (putF "writes" (.int 0) (putF "inks" (.ref il) (putF "cells" (.int (n : Nat)) [])))) := by rw [upd_ne hrl0.1.symm, upd_same]
  refine ⟨_, rfl, x, _, dx, _, rfl, hx3, cl_Names T, n_Names_readers T, (by show 3 < 1000; decide), ?_⟩
  have e : putF "readers" (V.ref rl) (putF "writes" (.int 0) (putF "inks" (.ref il) (putF "cells" (.int (n : Nat)) []))) = nfs n il rl 0 := by kernel_rfl
  rw [e]
  have kk := (((((k1.newT (p := il) (o := .lst []) hil).trans (.put (p := x) (o := .ins (He.ga K "Names") dx (putF "inks" (.ref il) (putF "cells" (.int (n : Nat)) []))) (by simp) hx2 rfl)).trans (.put (p := x) (o := .ins (He.ga K "Names") dx (putF "writes" (.int 0) (putF "inks" (.ref il) (putF "cells" (.int (n : Nat)) [])))) (by simp) upd_same rfl)).newT (p := rl) (o := .dK []) hrl).trans (.put (p := x) (o := .ins (He.ga K "Names") dx (nfs n il rl 0)) (by simp) hx3 rfl))
  refine q _ ⟨x, dx, il, rl⟩ kk rfl hilH hrlH ⟨upd_same, ?_, ?_⟩
  · show upd _ x _ il = _
    rw [upd_ne nxi.symm, upd_ne hrl1.1.symm, upd_ne nxi.symm, upd_ne nxi.symm, upd_same]
    rfl
  · show upd _ x _ rl = _
    rw [upd_ne hrl0.1, upd_same]
    rfl
/-- a method that takes a statement -/
def sp_Nm (K : PySem.W.Frag) (m : Str) : Sp := fun vs H Q _ => ∃ (N : NB) (cells : Nat) (S : PSt) (v : V) (s : Stm), vs = [.ref N.b, v] ∧ Nm K H N cells S ∧ IsStm K H v s ∧ s.hd = m ∧ s.Sm ∧ VStm cells S s ∧
  ∀ H', Kp N.S H H' → Nm K H' N cells (S.next s) → Q .non H'
def sp_Names_need_new (K : PySem.W.Frag) : Sp := fun vs H Q _ => ∃ (N : NB) (cells : Nat) (S : PSt) (z : List Nat), vs = [.ref N.b, .str (strL z)] ∧ Nm K H N cells S ∧ z ∉ S.names ∧ S.rd z = none ∧ Q .non H
theorem rd_val (S : PSt) (z : List Nat) : valV (nmRds S) (.inr (strL z)) = (S.rd z).map fun d => V.int (d.2.length : Nat) := valV_strs (fun (d : Option Nat × List PLk) => V.int (d.2.length : Nat)) z S.rds
theorem sc_Names_need_new : FnScope ["self", "name"] ["self", "name"] (defScope s_Names_need_new) := ⟨rfl, rfl, rfl, by decide +kernel, rfl, by decide +kernel, by decide +kernel⟩
theorem ok_Names_need_new (T : Txt w K mg) : FnOk P w K mg base CX0 1 (He.ma K (He.ga K "Names") "need_new") (fdA K (He.ma K (He.ga K "Names") "need_new")) ["self", "name"] (sp_Names_need_new K) := by
  refine (m_Names_need_new T).ok sc_Names_need_new (fun vs H Q E h => ?_) (fun cdv A outer s H vs Q E hr h => ?_)
  · obtain ⟨_, _, _, _, rfl, _⟩ := h; rfl
  obtain ⟨N, cells, S, z, rfl, hN, h1, h2, q⟩ := h
  refine ⟨_, (pss_one (ps_if (PW.pt (pw_or (pt_cmpR op_in_seq (pv 1) (pe_fld (pv 0) rfl) (by with_unfolding_all rfl)) (pw_or1 (pt_cmp (pc_din (hu_of hr) (pv 1) (pe_fld (pv 0) rfl)))))) pss_never pss_nil)), ?_⟩
  refine ⟨_, rfl, _, rfl, N.b, _, N.dx, _, _, rfl, hN.ins, cl_Names T, n_Names_inks T, nfs_inks _ _ _ _, N.il, _, rfl, .inl (SqL.of hN.il), rfl, flat_strs _, _, rfl, ?_⟩
  refine iteEF (by show inV _ (S.names.map fun x => V.str (strL x)) = false; rw [inV_str]; exact decide_eq_false h1) ?_
  refine ⟨_, rfl, _, rfl, N.b, _, N.dx, _, _, rfl, hN.ins, cl_Names T, n_Names_readers T, nfs_readers _ _ _ _, N.rl, _, rfl, DGet.k (k := .inr (strL z)) hN.rl, ?_⟩
  rw [rd_val, h2]
  exact ⟨_, rfl, iteF q⟩
def sp_Names_need_cell (K : PySem.W.Frag) : Sp := fun vs H Q _ => ∃ (N : NB) (cells : Nat) (S : PSt) (c : Nat), vs = [.ref N.b, .int (c : Nat)] ∧ Nm K H N cells S ∧ c < cells ∧ Q .non H
theorem sc_Names_need_cell : FnScope ["self", "cell"] ["self", "cell"] (defScope s_Names_need_cell) := ⟨rfl, rfl, rfl, by decide +kernel, rfl, by decide +kernel, by decide +kernel⟩
theorem ok_Names_need_cell (T : Txt w K mg) : FnOk P w K mg base CX0 1 (He.ma K (He.ga K "Names") "need_cell") (fdA K (He.ma K (He.ga K "Names") "need_cell")) ["self", "cell"] (sp_Names_need_cell K) := by
  refine (m_Names_need_cell T).ok sc_Names_need_cell (fun vs H Q E h => ?_) (fun cdv A outer s H vs Q E hr h => ?_)
  · obtain ⟨_, _, _, _, rfl, _⟩ := h; rfl
  obtain ⟨N, cells, S, c, rfl, hN, h1, q⟩ := h
  refine ⟨_, (pss_one (ps_if (pt_cmpR op_ge (pv 1) (pe_fld (pv 0) rfl) (nomark _)) pss_never pss_nil)), ?_⟩
  exact ⟨_, rfl, _, rfl, N.b, _, N.dx, _, _, rfl, hN.ins, cl_Names T, n_Names_cells T, nfs_cells _ _ _ _, _, _, rfl, rfl, _, rfl, iteDF (by omega) q⟩
theorem sc_Names_ink : FnScope ["self", "told"] ["self", "told"] (defScope s_Names_ink) := ⟨rfl, rfl, rfl, by decide +kernel, rfl, by decide +kernel, by decide +kernel⟩
theorem ok_Names_ink (T : Txt w K mg) : FnOk P w K mg base CX0 2 (He.ma K (He.ga K "Names") "ink") (fdA K (He.ma K (He.ga K "Names") "ink")) ["self", "told"] (sp_Nm K "ink") := by
  have G_need_bound := ok_need_bound (P := P) (base := base) T
  have G_Names_need_new := ok_Names_need_new (P := P) (base := base) T
  refine (m_Names_ink T).ok sc_Names_ink (fun vs H Q E h => ?_) (fun cdv A outer s H vs Q E hr h => ?_)
  · obtain ⟨_, _, _, _, _, rfl, _⟩ := h; rfl
  obtain ⟨N, cells, S, v, st, rfl, hN, hs, hh, hsm, hv, q⟩ := h
  refine ⟨_, (pss_cons (ps_expr (pmeth (pv 0) (cl_Names T) (a_Names_need_new T) (m_Names_need_new T) G_Names_need_new (hr.mono (by decide)) (pa_cons (pe_ix ix_tup (pv 1) pe_int (fun _ _ => rfl)) pa_nil)))
      (pss_cons (ps_expr (pcall (d_need_bound T) G_need_bound (hr.mono (by decide)) (pa_cons (pe_ix ix_tup (pv 1) pe_int (fun _ _ => rfl)) (pa_cons pe_int (pa_cons (pgi (i_MOST_STAY T)) pa_nil)))))
      (pss_cons (ps_expr (pcall (d_need_bound T) G_need_bound (hr.mono (by decide)) (pa_cons (pe_op op_add (pe_callB call_len (by rfl) (f_len T) bb_len (pa_cons (pe_fld (pv 0) rfl) pa_nil)) pe_int) (pa_cons pe_int (pa_cons (pgi (i_MOST_INKS T)) pa_nil)))))
      (pss_one (ps_expr (pe_bm PySem.F.plainAttrs_list PySem.F.slot_list_append PySem.F.type_list_append mt_append (pe_fld (pv 0) rfl) (pa_cons (pe_ix ix_tup (pv 1) pe_int (fun _ _ => rfl)) pa_nil))))))), ?_⟩
  cases st with
  | ink z n =>
    obtain ⟨a, rfl, ha⟩ := hs
    obtain ⟨v1, v2, v3, v4, v5⟩ := hv
    have hl : (nmInks S).length = S.inks.length := by unfold nmInks PSt.names; rw [List.length_map, List.length_map]
    refine ⟨_, rfl, N.b, N.dx, _, rfl, hN.ins, (nfs_no _ _ _ _).1, _, rfl, a, _, _, _, rfl, rfl, ha, rfl, N, cells, S, z, rfl, hN, v1, v2, ?_⟩
    refine ⟨_, rfl, a, _, _, _, rfl, rfl, ha, rfl, _, _, _, rfl, by omega, by omega, ?_⟩
    refine ⟨_, rfl, N.b, _, N.dx, _, _, rfl, hN.ins, cl_Names T, n_Names_inks T, nfs_inks _ _ _ _, _, _, rfl, .inl ⟨_, SqL.of hN.il, rfl⟩, _, _, rfl, rfl, _, _, _, rfl, by omega, by omega, ?_⟩
    refine ⟨_, rfl, N.b, _, N.dx, _, _, rfl, hN.ins, cl_Names T, n_Names_inks T, nfs_inks _ _ _ _, .inl ⟨rfl, _, SqL.of hN.il⟩, _, rfl, a, _, _, _, rfl, rfl, ha, rfl, N.il, _, _, rfl, rfl, hN.il, small1000 (by omega), ?_⟩
    have ki : Kp [N.il] H (upd H N.il (.lst (nmInks S ++ [.str (strL z)]))) := .put (by simp) hN.il rfl
    obtain ⟨n1, n2, n3⟩ := hN.ne
    refine q _ (ki.mono (by simp [NB.S])) ⟨ki.keep _ _ hN.ins (by simp [n1]), ?_, ki.keep _ _ hN.rl (by simp [n3.symm])⟩
    rw [upd_same]
    show some (HO.lst _) = some (HO.lst (((S.inks ++ [(z, n)]).map (·.1)).map fun x => V.str (strL x)))
    rw [List.map_append, List.map_append]
    rfl
  | write cell c z lo hi => exact absurd hh (show ¬ ("write" : Str) = "ink" by decide +kernel)
  | reader z st k0 ks => exact absurd hh (show ¬ ("reader" : Str) = "ink" by decide +kernel)
  | reads z => exact absurd hh (show ¬ ("ask" : Str) = "ink" by decide +kernel)
  | sure z c => exact absurd hh (show ¬ ("ask" : Str) = "ink" by decide +kernel)
  | slack z m c => exact absurd hh (show ¬ ("ask" : Str) = "ink" by decide +kernel)
theorem sc_Names_write : FnScope ["self", "told"] ["self", "told"] (defScope s_Names_write) := ⟨rfl, rfl, rfl, by decide +kernel, rfl, by decide +kernel, by decide +kernel⟩
theorem ok_Names_write (T : Txt w K mg) : FnOk P w K mg base CX0 2 (He.ma K (He.ga K "Names") "write") (fdA K (He.ma K (He.ga K "Names") "write")) ["self", "told"] (sp_Nm K "write") := by
  have G_need_bound := ok_need_bound (P := P) (base := base) T
  have G_Names_need_cell := ok_Names_need_cell (P := P) (base := base) T
  refine (m_Names_write T).ok sc_Names_write (fun vs H Q E h => ?_) (fun cdv A outer s H vs Q E hr h => ?_)
  · obtain ⟨_, _, _, _, _, rfl, _⟩ := h; rfl
  obtain ⟨N, cells, S, v, st, rfl, hN, hs, hh, hsm, hv, q⟩ := h
  refine ⟨_, (pss_cons (ps_expr (pmeth (pv 0) (cl_Names T) (a_Names_need_cell T) (m_Names_need_cell T) G_Names_need_cell (hr.mono (by decide)) (pa_cons (pe_ix ix_tup (pv 1) pe_int (fun _ _ => rfl)) pa_nil)))
      (pss_cons (ps_if (pt_cmpR op_notIn_seq (pe_ix ix_tup (pv 1) pe_int (fun _ _ => rfl)) (pe_fld (pv 0) rfl) (by with_unfolding_all rfl)) pss_never pss_nil)
      (pss_cons (ps_expr (pcall (d_need_bound T) G_need_bound (hr.mono (by decide)) (pa_cons (pe_ix ix_tup (pv 1) pe_int (fun _ _ => rfl)) (pa_cons pe_int (pa_cons (pgi (i_MOST_REST T)) pa_nil)))))
      (pss_cons (ps_expr (pcall (d_need_bound T) G_need_bound (hr.mono (by decide)) (pa_cons (pe_ix ix_tup (pv 1) pe_int (fun _ _ => rfl)) (pa_cons (pe_ix ix_tup (pv 1) pe_int (fun _ _ => rfl)) (pa_cons (pgi (i_MOST_REST T)) pa_nil)))))
      (pss_cons (ps_expr (pcall (d_need_bound T) G_need_bound (hr.mono (by decide)) (pa_cons (pe_op op_add (pe_fld (pv 0) rfl) pe_int) (pa_cons pe_int (pa_cons (pgi (i_MOST_WRITES T)) pa_nil)))))
      (pss_one (ps_fldaug (pv 0) pe_int in_add))))))), ?_⟩
  cases st with
  | write cell c z lo hi =>
    obtain ⟨a, rfl, ha⟩ := hs
    obtain ⟨v1, v2, v3, v4, v5⟩ := hv
    refine ⟨_, rfl, N.b, N.dx, _, rfl, hN.ins, (nfs_no _ _ _ _).2.1, _, rfl, a, _, _, _, rfl, rfl, ha, rfl, N, cells, S, cell, rfl, hN, v1, ?_⟩
    refine ⟨_, rfl, a, _, _, _, rfl, rfl, ha, rfl, _, rfl, N.b, _, N.dx, _, _, rfl, hN.ins, cl_Names T, n_Names_inks T, nfs_inks _ _ _ _, N.il, _, rfl, .inl (SqL.of hN.il), rfl, flat_strs _, _, rfl, ?_⟩
    refine iteEF (by show (!inV _ (S.names.map fun x => V.str (strL x))) = false; rw [inV_str, decide_eq_true v2]; rfl) ?_
    refine ⟨_, rfl, a, _, _, _, rfl, rfl, ha, rfl, _, _, _, rfl, by omega, by omega, ?_⟩
    refine ⟨_, rfl, a, _, _, _, rfl, rfl, ha, rfl, _, rfl, a, _, _, _, rfl, rfl, ha, rfl, _, _, _, rfl, by omega, by omega, ?_⟩
    refine ⟨_, rfl, N.b, _, N.dx, _, _, rfl, hN.ins, cl_Names T, n_Names_writes T, nfs_writes _ _ _ _, _, _, rfl, rfl, _, _, _, rfl, by omega, by omega, ?_⟩
    refine ⟨_, rfl, N.b, _, N.dx, _, _, rfl, hN.ins, cl_Names T, n_Names_writes T, nfs_writes _ _ _ _, _, _, rfl, rfl, N.dx, _, hN.ins, by show 4 < 1000; decide, ?_⟩
    have e : putF "writes" (V.int ((S.ws.length : Nat) + 1)) (nfs cells N.il N.rl S.ws.length) = nfs cells N.il N.rl (S.ws.length + 1) := nfs_put _ _ _ _ _
    rw [e]
    have ki : Kp [N.b] H (upd H N.b (.ins (He.ga K "Names") N.dx (nfs cells N.il N.rl (S.ws.length + 1)))) := .put (by simp) hN.ins rfl
    obtain ⟨n1, n2, n3⟩ := hN.ne
    refine q _ (ki.mono (by simp [NB.S])) ⟨?_, ki.keep _ _ hN.il (by simp [n1.symm]), ki.keep _ _ hN.rl (by simp [n2.symm])⟩
    rw [upd_same]
    show some (HO.ins _ _ _) = some (HO.ins _ _ (nfs cells N.il N.rl (S.ws ++ [_]).length))
    rw [List.length_append]
    rfl
  | ink z n => exact absurd hh (show ¬ ("ink" : Str) = "write" by decide +kernel)
  | reader z st k0 ks => exact absurd hh (show ¬ ("reader" : Str) = "write" by decide +kernel)
  | reads z => exact absurd hh (show ¬ ("ask" : Str) = "write" by decide +kernel)
  | sure z c => exact absurd hh (show ¬ ("ask" : Str) = "write" by decide +kernel)
  | slack z m c => exact absurd hh (show ¬ ("ask" : Str) = "write" by decide +kernel)
theorem sc_Names_reader : FnScope ["self", "told", "at", "look"] ["self", "told"] (defScope s_Names_reader) := ⟨rfl, rfl, rfl, by decide +kernel, rfl, by decide +kernel, by decide +kernel⟩
theorem ok_Names_reader (T : Txt w K mg) : FnOk P w K mg base CX0 2 (He.ma K (He.ga K "Names") "reader") (fdA K (He.ma K (He.ga K "Names") "reader")) ["self", "told"] (sp_Nm K "reader") := by
  have G_need_bound := ok_need_bound (P := P) (base := base) T
  have G_Names_need_new := ok_Names_need_new (P := P) (base := base) T
  have G_Names_need_cell := ok_Names_need_cell (P := P) (base := base) T
  refine (m_Names_reader T).ok sc_Names_reader (fun vs H Q E h => ?_) (fun cdv A outer s H vs Q E hr h => ?_)
  · obtain ⟨_, _, _, _, _, rfl, _⟩ := h; rfl
  obtain ⟨N, cells, S, v, st, rfl, hN, hs, hh, hsm, hv, q⟩ := h
  refine ⟨_, (pss_cons (ps_expr (pmeth (pv 0) (cl_Names T) (a_Names_need_new T) (m_Names_need_new T) G_Names_need_new (hr.mono (by decide)) (pa_cons (pe_ix ix_tup (pv 1) pe_int (fun _ _ => rfl)) pa_nil)))
      (pss_cons (ps_cut (ps_if (PW.pt (pw_and (pt_cmpR op_notN (pe_ix ix_tup (pv 1) pe_int (fun _ _ => rfl)) pe_non (nomark _)) (pw_and1 (pt_cmpR op_ge (pe_ix ix_tup (pv 1) pe_int (fun _ _ => rfl)) (pe_fld (pv 0) rfl) (nomark _))))) pss_never pss_nil))
      (pss_cons (ps_for PassesOwn.never rfl (pi_enumT (by rfl) (f_enumerate T) (pa_cons (pe_ix ix_tup (pv 1) pe_int (fun _ _ => rfl)) pa_nil)) (pg_tup rfl (pgs_cons (pg_name (i := 2) sc_Names_reader.nd rfl (Or.inl rfl)) (pgs_cons (pg_name (i := 3) sc_Names_reader.nd rfl (Or.inl rfl)) pgs_nil))) (pss_cons (ps_expr (pmeth (pv 0) (cl_Names T) (a_Names_need_cell T) (m_Names_need_cell T) G_Names_need_cell (hr.mono (by decide)) (pa_cons (pe_ix ix_tup (pv 3) pe_int (fun _ _ => rfl)) pa_nil)))
      (pss_cons (ps_expr (pcall (d_need_bound T) G_need_bound (hr.mono (by decide)) (pa_cons (pe_ix ix_tup (pv 3) pe_int (fun _ _ => rfl)) (pa_cons pe_int (pa_cons (pgi (i_MOST_WAIT T)) pa_nil)))))
      (pss_cons (ps_expr (pcall (d_need_bound T) G_need_bound (hr.mono (by decide)) (pa_cons (pe_ix ix_tup (pv 3) pe_int (fun _ _ => rfl)) (pa_cons (pe_ix ix_tup (pv 3) pe_int (fun _ _ => rfl)) (pa_cons (pgi (i_MOST_WAIT T)) pa_nil)))))
      (pss_one (ps_expr (pcall (d_need_bound T) G_need_bound (hr.mono (by decide)) (pa_cons (pe_op op_add (pv 2) pe_int) (pa_cons pe_int (pa_cons (pgi (i_MOST_LOOKS T)) pa_nil))))))))))
      (pss_one (ps_dput (hu_of hr) (pe_fld (pv 0) rfl) (pe_ix ix_tup (pv 1) pe_int (fun _ _ => rfl)) (pe_callB call_len (by rfl) (f_len T) bb_len (pa_cons (pe_ix ix_tup (pv 1) pe_int (fun _ _ => rfl)) pa_nil)) rfl))))), ?_⟩
  cases st with
  | reader z stt k0 ks =>
    obtain ⟨a, b, vs, rfl, ha, hb, hvs⟩ := hs
    obtain ⟨v1, v2, v3, v4, v5, v6⟩ := hv
    have hvl : vs.length = ks.length + 1 := by rw [paired_len hvs, List.length_map, List.length_cons]
    refine ⟨_, rfl, N.b, N.dx, _, rfl, hN.ins, (nfs_no _ _ _ _).1, _, rfl, a, _, _, _, rfl, rfl, ha, rfl, N, cells, S, z, rfl, hN, v1, v2, ?_⟩
    refine ⟨fun σ H' => σ = [some (.ref N.b), some (.ref a), none, none] ∧ H' = H, ?_, ?_⟩
    · refine ⟨_, rfl, a, _, _, _, rfl, rfl, ha, rfl, rfl, _, rfl, ?_⟩
      cases stt with
      | none => exact iteNF rfl (iteF ⟨rfl, rfl⟩)
      | some n =>
        refine iteNT (by intro z; cases z) ⟨_, rfl, a, _, _, _, rfl, rfl, ha, rfl, _, rfl, N.b, _, N.dx, _, _, rfl, hN.ins, cl_Names T, n_Names_writes T, nfs_writes _ _ _ _, _, _, rfl, rfl, _, rfl, iteDF (by have := v3 n rfl; omega) ⟨rfl, rfl⟩⟩
    rintro σ H' ⟨rfl, rfl⟩
    refine ⟨_, rfl, a, _, _, _, rfl, rfl, ha, rfl, b, vs, rfl, hb, for_it walk_enumG (fun i σ H1 => ∃ o2 o3, σ = [some (.ref N.b), some (.ref a), o2, o3] ∧ Kp [] H' H1) ⟨_, _, rfl, .refl _ _⟩ (fun i σ H _ h => by obtain ⟨_, _, _, k⟩ := h; exact kpT hb k) ?_ ?_⟩
    · rintro i y σ H1 H2 hi ⟨o2, o3, rfl, k1⟩ ⟨t, y0, u, rfl, ht, rfl, h1, h2⟩
      cases h1
      obtain ⟨lk, hlk, g, rfl, hg⟩ := paired_at hvs h2
      rw [List.getElem?_map] at hlk
      obtain ⟨pk', hpk, rfl⟩ := Option.map_eq_some_iff.mp hlk
      obtain ⟨w1, w2, w3⟩ := v4 pk' (List.mem_of_getElem? hpk)
      have k2 := k1.newT (p := t) (o := .tup [.int (i : Nat), .ref g]) ht
      have hN2 := hN.kp k2 (by simp) (by simp) (by simp)
      have hg2 := kpT hg k2
      refine ⟨t, _, rfl, SqT.of upd_same, rfl, _, _, rfl, _, _, rfl, rfl, ?_⟩
      refine ⟨_, rfl, N.b, N.dx, _, rfl, hN2.ins, (nfs_no _ _ _ _).2.1, _, rfl, g, _, _, _, rfl, rfl, hg2, rfl, N, cells, S, pk'.cell, rfl, hN2, w1, ?_⟩
      refine ⟨_, rfl, g, _, _, _, rfl, rfl, hg2, rfl, _, _, _, rfl, by show (0 : Int) ≤ (pk'.low : Nat); omega, by show ((pk'.low : Nat) : Int) ≤ 200; omega, ?_⟩
      refine ⟨_, rfl, g, _, _, _, rfl, rfl, hg2, rfl, _, rfl, g, _, _, _, rfl, rfl, hg2, rfl, _, _, _, rfl, by show ((pk'.low : Nat) : Int) ≤ (pk'.high : Nat); omega, by show ((pk'.high : Nat) : Int) ≤ 200; omega, ?_⟩
      exact ⟨_, rfl, _, _, rfl, rfl, _, _, _, rfl, by omega, by omega, _, _, rfl, k2⟩
    · rintro σ H1 ⟨o2, o3, rfl, k1⟩
      have hN1 := hN.kp k1 (by simp) (by simp) (by simp)
      have ha1 := kpT ha k1
      have hl : (nmRds S).length = S.rds.length := by unfold nmRds; rw [List.length_map]
      refine ⟨_, rfl, a, _, _, _, rfl, rfl, ha1, rfl, _, _, rfl, .inr ⟨_, kpT hb k1, rfl⟩, _, rfl, N.b, _, N.dx, _, _, rfl, hN1.ins, cl_Names T, n_Names_readers T, nfs_readers _ _ _ _, _, rfl, a, _, _, _, rfl, rfl, ha1, rfl, ?_⟩
      refine ⟨N.rl, _, rfl, DPut.k (k := .inr (strL z)) hN1.rl (Nat.lt_trans (show (nmRds S).length < 10 by omega) (by decide)), ?_⟩
      have hnone : valV (nmRds S) (.inr (strL z)) = none := by rw [rd_val, v2]; rfl
      rw [putK_new _ hnone]
      have ki : Kp [N.rl] H1 (upd H1 N.rl (.dK (nmRds S ++ [(.inr (strL z), .int (vs.length : Nat))]))) := .put (by simp) hN1.rl rfl
      obtain ⟨n1, n2, n3⟩ := hN1.ne
      refine q _ (k1.mono0.trans (ki.mono (by simp [NB.S]))) ⟨ki.keep _ _ hN1.ins (by simp [n2]), ki.keep _ _ hN1.il (by simp [n3]), ?_⟩
      rw [upd_same, hvl]
      show some (HO.dK _) = some (HO.dK ((S.rds ++ [(z, (stt, k0 :: ks))]).map _))
      rw [List.map_append]
      rfl
  | ink z n => exact absurd hh (show ¬ ("ink" : Str) = "reader" by decide +kernel)
  | write cell c z lo hi => exact absurd hh (show ¬ ("write" : Str) = "reader" by decide +kernel)
  | reads z => exact absurd hh (show ¬ ("ask" : Str) = "reader" by decide +kernel)
  | sure z c => exact absurd hh (show ¬ ("ask" : Str) = "reader" by decide +kernel)
  | slack z m c => exact absurd hh (show ¬ ("ask" : Str) = "reader" by decide +kernel)
theorem sc_Names_ask : FnScope ["self", "told", "many"] ["self", "told"] (defScope s_Names_ask) := ⟨rfl, rfl, rfl, by decide +kernel, rfl, by decide +kernel, by decide +kernel⟩
theorem ok_Names_ask (T : Txt w K mg) : FnOk P w K mg base CX0 8 (He.ma K (He.ga K "Names") "ask") (fdA K (He.ma K (He.ga K "Names") "ask")) ["self", "told"] (sp_Nm K "ask") := by
  have G_need_bound := ok_need_bound (P := P) (base := base) T
  have G_parts_of := ok_parts_of (P := P) (base := base) T 4
  refine (m_Names_ask T).ok sc_Names_ask (fun vs H Q E h => ?_) (fun cdv A outer s H vs Q E hr h => ?_)
  · obtain ⟨_, _, _, _, _, rfl, _⟩ := h; rfl
  obtain ⟨N, cells, S, v, st, rfl, hN, hs, hh, hsm, hv, q⟩ := h
  refine ⟨_, (pss_cons (ps_if (pt_cmp (pc_dnotin (hu_of hr) (pe_ix ix_tup (pv 1) pe_int (fun _ _ => rfl)) (pe_fld (pv 0) rfl))) pss_never pss_nil)
      (pss_cons (ps_cut (ps_if (pt_cmpR op_eq (pe_ix ix_tup (pv 1) pe_int (fun _ _ => rfl)) pe_str (nomark _)) (pss_one (ps_expr (pcall (d_need_bound T) G_need_bound (hr.mono (by decide)) (pa_cons (pe_ix ix_tup (pv 1) pe_int (fun _ _ => rfl)) (pa_cons pe_int (pa_cons (pgi (i_MOST_SLACK T)) pa_nil)))))) pss_nil))
      (pss_one (ps_if (pt_cmpR op_ne (pe_ix ix_tup (pv 1) pe_int (fun _ _ => rfl)) pe_str (nomark _)) (pss_cons (ps_set (i := 2) sc_Names_ask.nd rfl (Or.inl rfl) (pcall (d_parts_of T) G_parts_of (hr.mono (by decide)) (pa_cons (pe_dget (hu_of hr) (pe_fld (pv 0) rfl) (pe_ix ix_tup (pv 1) pe_int (fun _ _ => rfl)) (fun _ _ => rfl)) (pa_cons (pe_ix ix_tup (pv 1) (pe_un un_neg pe_int) (fun _ _ => rfl)) pa_nil))))
      (pss_one (ps_if (PW.pt (pw_or (pt_cmpR op_isN (pv 2) pe_non (nomark _)) (pw_or1 (pt_cmpR op_gt (pv 2) (pgi (i_MOST_PARTS T)) (nomark _))))) pss_never pss_nil))) pss_nil)))), ?_⟩
  cases st with
  | reads z =>
    obtain ⟨a, rfl, ha⟩ := hs
    obtain ⟨d, hd⟩ := hv
    refine ⟨_, rfl, a, _, _, _, rfl, rfl, ha, rfl, _, rfl, N.b, _, N.dx, _, _, rfl, hN.ins, cl_Names T, n_Names_readers T, nfs_readers _ _ _ _, N.rl, _, rfl, DGet.k (k := .inr (strL z)) hN.rl, ?_⟩
    rw [rd_val, hd]
    refine ⟨_, rfl, iteF ?_⟩
    refine ⟨fun σ H' => σ = [some (.ref N.b), some (.ref a), none] ∧ H' = H, ?_, ?_⟩
    · exact ⟨_, rfl, a, _, _, _, rfl, rfl, ha, rfl, rfl, _, rfl, iteDF (by decide +kernel) ⟨rfl, rfl⟩⟩
    rintro σ H' ⟨rfl, rfl⟩
    exact ⟨_, rfl, a, _, _, _, rfl, rfl, ha, rfl, rfl, _, rfl, iteNF rfl (q _ (.refl _ _) hN)⟩
  | sure z c =>
    obtain ⟨a, u, rfl, ha, hu⟩ := hs
    obtain ⟨d, hd, h1, h2, h3⟩ := hv
    refine ⟨_, rfl, a, _, _, _, rfl, rfl, ha, rfl, _, rfl, N.b, _, N.dx, _, _, rfl, hN.ins, cl_Names T, n_Names_readers T, nfs_readers _ _ _ _, N.rl, _, rfl, DGet.k (k := .inr (strL z)) hN.rl, ?_⟩
    rw [rd_val, hd]
    refine ⟨_, rfl, iteF ?_⟩
    refine ⟨fun σ H' => σ = [some (.ref N.b), some (.ref a), none] ∧ H' = H, ?_, ?_⟩
    · exact ⟨_, rfl, a, _, _, _, rfl, rfl, ha, rfl, rfl, _, rfl, iteDF (by decide +kernel) ⟨rfl, rfl⟩⟩
    rintro σ H' ⟨rfl, rfl⟩
    refine ⟨_, rfl, a, _, _, _, rfl, rfl, ha, rfl, rfl, _, rfl, iteNT (by decide +kernel) ?_⟩
    have g := DGet.k (k := .inr (strL z)) hN.rl
    rw [rd_val, hd] at g
    refine ⟨_, rfl, N.b, _, N.dx, _, _, rfl, hN.ins, cl_Names T, n_Names_readers T, nfs_readers _ _ _ _, _, rfl, a, _, _, _, rfl, rfl, ha, rfl, N.rl, _, rfl, g, _, rfl, _, rfl, a, _, _, _, rfl, rfl, ha, rfl, d.2.length, u, c, rfl, hu, h1, h2, by omega, fun H1 k1 => ?_⟩
    exact ⟨_, rfl, rfl, _, rfl, iteDF (by intro z; cases z) ⟨_, rfl, _, _, rfl, rfl, _, rfl, iteDF (by omega) (q _ k1.mono0 (hN.kp k1 (by simp) (by simp) (by simp)))⟩⟩
  | slack z m c =>
    obtain ⟨a, u, rfl, ha, hu⟩ := hs
    obtain ⟨d, hd, h1, h2, h3, rfl⟩ := hv
    refine ⟨_, rfl, a, _, _, _, rfl, rfl, ha, rfl, _, rfl, N.b, _, N.dx, _, _, rfl, hN.ins, cl_Names T, n_Names_readers T, nfs_readers _ _ _ _, N.rl, _, rfl, DGet.k (k := .inr (strL z)) hN.rl, ?_⟩
    rw [rd_val, hd]
    refine ⟨_, rfl, iteF ?_⟩
    refine ⟨fun σ H' => σ = [some (.ref N.b), some (.ref a), none] ∧ H' = H, ?_, ?_⟩
    · refine ⟨_, rfl, a, _, _, _, rfl, rfl, ha, rfl, rfl, _, rfl, iteDT rfl ?_⟩
      exact ⟨_, rfl, a, _, _, _, rfl, rfl, ha, rfl, _, _, _, rfl, by decide, by decide, rfl, rfl⟩
    rintro σ H' ⟨rfl, rfl⟩
    refine ⟨_, rfl, a, _, _, _, rfl, rfl, ha, rfl, rfl, _, rfl, iteNT (by decide +kernel) ?_⟩
    have g := DGet.k (k := .inr (strL z)) hN.rl
    rw [rd_val, hd] at g
    refine ⟨_, rfl, N.b, _, N.dx, _, _, rfl, hN.ins, cl_Names T, n_Names_readers T, nfs_readers _ _ _ _, _, rfl, a, _, _, _, rfl, rfl, ha, rfl, N.rl, _, rfl, g, _, rfl, _, rfl, a, _, _, _, rfl, rfl, ha, rfl, d.2.length, u, c, rfl, hu, h1, h2, by omega, fun H1 k1 => ?_⟩
    exact ⟨_, rfl, rfl, _, rfl, iteDF (by intro z; cases z) ⟨_, rfl, _, _, rfl, rfl, _, rfl, iteDF (by omega) (q _ k1.mono0 (hN.kp k1 (by simp) (by simp) (by simp)))⟩⟩
  | ink z n => exact absurd hh (show ¬ ("ink" : Str) = "ask" by decide +kernel)
  | write cell c z lo hi => exact absurd hh (show ¬ ("write" : Str) = "ask" by decide +kernel)
  | reader z st k0 ks => exact absurd hh (show ¬ ("reader" : Str) = "ask" by decide +kernel)
end
end Ink
set_option Elab.async false
set_option linter.all false
set_option pp.maxSteps 150
set_option maxRecDepth 100000
set_option maxHeartbeats 4000000
namespace Ink
open PySem PySem.Spec PyProof.Rows L2 StX
theorem IsStm.hd' {K : PySem.W.Frag} {H : Hp} {v : V} {s : Stm} (h : IsStm K H v s) : ∃ a r, v = .ref a ∧ SqT K H a (.str s.hd :: r) := by
  cases s with
  | ink z n => obtain ⟨a, e, s⟩ := h; exact ⟨a, _, e, s⟩
  | write cell c z lo hi => obtain ⟨a, e, s⟩ := h; exact ⟨a, _, e, s⟩
  | reader z st k0 ks => obtain ⟨a, b, vs, e, s, _⟩ := h; exact ⟨a, _, e, s⟩
  | reads z => obtain ⟨a, e, s⟩ := h; exact ⟨a, _, e, s⟩
  | sure z c => obtain ⟨a, u, e, s, _⟩ := h; exact ⟨a, _, e, s⟩
  | slack z m c => obtain ⟨a, u, e, s, _⟩ := h; exact ⟨a, _, e, s⟩
theorem vprog_at {cells : Nat} : ∀ {ss : List Stm} {S : PSt} {i : Nat} {s : Stm}, VProg cells S ss → ss[i]? = some s → s.Sm ∧ VStm cells ((ss.take i).foldl PSt.next S) s
  | [], _, i, _, _, h => by cases i <;> cases h
  | t :: ss, S, 0, s, hv, h => by cases h; exact ⟨hv.1, hv.2.1⟩
  | t :: ss, S, i + 1, s, hv, h => vprog_at (ss := ss) (S := S.next t) (i := i) hv.2.2 h
theorem next_take {ss : List Stm} {S : PSt} {i : Nat} {s : Stm} (h : ss[i]? = some s) : (ss.take (i + 1)).foldl PSt.next S = ((ss.take i).foldl PSt.next S).next s := by
  rw [List.take_succ, h, List.foldl_append]
  rfl
section
variable {P : Program} {w : World} {K : PySem.W.Frag} {mg : Str → Option Value} {base : Heap}
structure ProgOk (cells : Nat) (ss : List Stm) : Prop where
  c0 : 1 ≤ cells
  c1 : cells ≤ 4
  v : VProg cells S0 ss
  n : ss.length ≤ 500
def sp_program_of (K : PySem.W.Frag) : Sp := fun vs H Q _ => ∃ (cs : List Nat) (cells : Nat) (ss : List Stm), vs = [.str (strL cs)] ∧ Lex cs (progW cells ss) ∧ cs.length ≤ 2000 ∧ ProgOk cells ss ∧
  ∀ H' a f tv, Kp [] H H' → SqT K H' a [.int (cells : Nat), .ref f] → H' f = some (.lst tv) → H f = none → Paired (IsStm K H') tv ss → Q (.ref a) H'
theorem sc_program_of : FnScope ["text", "cells", "told", "names", "statement"] ["text"] (defScope s_program_of) := ⟨rfl, rfl, rfl, by decide +kernel, rfl, by decide +kernel, by decide +kernel⟩
theorem ok_program_of (T : Txt w K mg) : FnOk P w K mg base CX0 25 (He.ga K "program_of") (fdA K (He.ga K "program_of")) ["text"] (sp_program_of K) := by
  have G_Reading_init := ok_Reading_init (P := P) (base := base) T
  have G_Reading_program := ok_Reading_program (P := P) (base := base) T
  have G_need_bound := ok_need_bound (P := P) (base := base) T
  have G_Names_init := ok_Names_init (P := P) (base := base) T
  have G_Names_ink := ok_Names_ink (P := P) (base := base) T
  have G_Names_write := ok_Names_write (P := P) (base := base) T
  have G_Names_reader := ok_Names_reader (P := P) (base := base) T
  have G_Names_ask := ok_Names_ask (P := P) (base := base) T
  refine (d_program_of T).ok sc_program_of (fun vs H Q E h => ?_) (fun cdv A outer s H vs Q E hr h => ?_)
  · obtain ⟨_, _, _, rfl, _⟩ := h; rfl
  obtain ⟨cs, cells, ss, rfl, hlex, hlen, ok, q⟩ := h
  have hszl : (strL cs).length ≤ sizeLine := Nat.le_trans hlen (by decide)
  have hsm : ∀ s ∈ ss, s.Sm := fun s hs => by
    obtain ⟨i, hi⟩ := List.mem_iff_getElem?.mp hs
    exact (vprog_at ok.v hi).1
  have c0 := ok.c0
  have c1 := ok.c1
  refine ⟨_, (pss_cons (ps_if (pt_not (pt_val (pe_callB call_isi (by rfl) (f_isinstance T) bb_isinstance (pa_cons (pv 0) (pa_cons (pe_bltn (v := .ty "str") (by rfl) (f_str T) bb_str rfl) pa_nil))))) pss_never pss_nil)
      (pss_cons (ps_if (pt_cmpR op_gt (pe_callB call_len (by rfl) (f_len T) bb_len (pa_cons (pv 0) pa_nil)) (pgi (i_MOST_SIGNS T)) (nomark _)) pss_never pss_nil)
      (pss_cons (ps_asg (pmeth0 (pmake (mk_Reading T) (c_Reading T) (m_Reading_init T) G_Reading_init (hr.mono (by decide)) (pa_cons (pv 0) pa_nil)) (cl_Reading T) (a_Reading_program T) (m_Reading_program T) G_Reading_program (hr.mono (by decide))) (pg_tup rfl (pgs_cons (pg_name (i := 1) sc_program_of.nd rfl (Or.inl rfl)) (pgs_cons (pg_name (i := 2) sc_program_of.nd rfl (Or.inl rfl)) pgs_nil))))
      (pss_cons (ps_expr (pcall (d_need_bound T) G_need_bound (hr.mono (by decide)) (pa_cons (pv 1) (pa_cons pe_int (pa_cons (pgi (i_MOST_CELLS T)) pa_nil)))))
      (pss_cons (ps_set (i := 3) sc_program_of.nd rfl (Or.inl rfl) (pmake (mk_Names T) (c_Names T) (m_Names_init T) G_Names_init (hr.mono (by decide)) (pa_cons (pv 1) pa_nil)))
      (pss_cons (ps_for PassesOwn.never rfl (pi_list (pv 2)) (pg_name (i := 4) sc_program_of.nd rfl (Or.inl rfl)) (pss_one (ps_if (pt_cmpR op_eq (pe_ix ix_tup (pv 4) pe_int (fun _ _ => rfl)) pe_str (nomark _)) (pss_one (ps_expr (pmeth (pv 3) (cl_Names T) (a_Names_ink T) (m_Names_ink T) G_Names_ink (hr.mono (by decide)) (pa_cons (pv 4) pa_nil)))) (pss_one (ps_if (pt_cmpR op_eq (pe_ix ix_tup (pv 4) pe_int (fun _ _ => rfl)) pe_str (nomark _)) (pss_one (ps_expr (pmeth (pv 3) (cl_Names T) (a_Names_write T) (m_Names_write T) G_Names_write (hr.mono (by decide)) (pa_cons (pv 4) pa_nil)))) (pss_one (ps_if (pt_cmpR op_eq (pe_ix ix_tup (pv 4) pe_int (fun _ _ => rfl)) pe_str (nomark _)) (pss_one (ps_expr (pmeth (pv 3) (cl_Names T) (a_Names_reader T) (m_Names_reader T) G_Names_reader (hr.mono (by decide)) (pa_cons (pv 4) pa_nil)))) (pss_one (ps_expr (pmeth (pv 3) (cl_Names T) (a_Names_ask T) (m_Names_ask T) G_Names_ask (hr.mono (by decide)) (pa_cons (pv 4) pa_nil)))))))))))
      (pss_one (ps_ret (pe_tup (pa_cons (pv 1) (pa_cons (pv 2) pa_nil))))))))))), ?_⟩
  refine ⟨_, rfl, _, _, _, _, _, rfl, .ty _, .base (.str _), kit_ss, _, rfl, iteF ?_⟩
  refine ⟨_, rfl, _, _, rfl, ⟨hszl, rfl⟩, _, _, rfl, rfl, _, rfl, iteDF (by have : (strL cs).length = cs.length := rfl; omega) ?_⟩
  refine ⟨_, rfl, fun x dx hx hdx ne => ⟨x, dx, cs, _, rfl, upd_same, hlex, hlen, fun H1 R k1 hRb hRw hR hwl => ⟨rfl, ?_⟩⟩⟩
  have k0 : Kp [] H (upd (upd H dx (.own x)) x (.ins (He.ga K "Reading") dx [])) := ((Kp.refl [] H).putN hdx).putN hx
  have kH1 : Kp [] H H1 := k0.drop1 k1 hx
  subst hRb
  refine ⟨R.b, R.dx, _, rfl, hR.ins, rfs_no _ _ _ (by simp), R, cells, ss, rfl, hR, hRw, by omega, hsm, ok.n, fun H2 a f tv k2 ha hf hfn htv => ?_⟩
  have kH2 : Kp [] H H2 := kH1.drop1 k2 hx
  have hfH := kH1.free hfn
  refine ⟨a, _, rfl, ha, rfl, _, _, rfl, _, _, rfl, rfl, ?_⟩
  refine ⟨_, rfl, _, _, _, rfl, by omega, by omega, ?_⟩
  refine ⟨_, rfl, fun y dy hy hdy ne2 => ⟨y, dy, cells, rfl, upd_same, fun H3 N k3 hNb hNi hNr hN => ⟨rfl, ?_⟩⟩⟩
  have k23 : Kp [] H2 (upd (upd H2 dy (.own y)) y (.ins (He.ga K "Names") dy [])) := ((Kp.refl [] H2).putN hdy).putN hy
  have k2' : Kp [] H2 H3 := k23.drop1 k3 hy
  subst hNb
  have hNiH2 : H2 N.il = none := by have := upd_none (upd_none hNi).2; exact this.2
  have hNrH2 : H2 N.rl = none := by have := upd_none (upd_none hNr).2; exact this.2
  have hf3 := k2'.keep _ _ hf (by simp)
  have nfS : f ∉ N.S := fun m => by
    have : f = N.b ∨ f = N.il ∨ f = N.rl := by simpa [NB.S] using m
    rcases this with e | e | e
    · rw [e, hy] at hf; cases hf
    · rw [e, hNiH2] at hf; cases hf
    · rw [e, hNrH2] at hf; cases hf
  have htl : tv.length = ss.length := paired_len htv
  refine ⟨_, rfl, f, rfl, ⟨_, SqL.of hf3⟩, for_list (xs := tv) (fun i σ H' => ∃ o4, σ = [some (.str (strL cs)), some (.int (cells : Nat)), some (.ref f), some (.ref N.b), o4] ∧ Kp N.S H3 H' ∧ Nm K H' N cells ((ss.take i).foldl PSt.next S0))
    ⟨_, rfl, .refl _ _, hN⟩ (fun i σ H' _ h => by obtain ⟨_, _, k, _⟩ := h; exact SqL.of (k.keep _ _ hf3 nfS)) ?_ ?_⟩
  · rintro i v σ H4 hv ⟨o4, rfl, k4, hN4⟩
    obtain ⟨st, hst, hiv⟩ := paired_at htv hv
    obtain ⟨sm, vs⟩ := vprog_at ok.v hst
    have hiv4 := (hiv.kp k2').kp k4
    obtain ⟨t, r, rfl, ht⟩ := hiv4.hd'
    have fin : ∀ H', Kp N.S H4 H' → Nm K H' N cells (((ss.take i).foldl PSt.next S0).next st) → ∃ o4, ([some (.str (strL cs)), some (.int (cells : Nat)), some (.ref f), some (.ref N.b), some (.ref t)] : L2.St) = [some (.str (strL cs)), some (.int (cells : Nat)), some (.ref f), some (.ref N.b), o4] ∧ Kp N.S H3 H' ∧ Nm K H' N cells ((ss.take (i + 1)).foldl PSt.next S0) := fun H' k hn => ⟨_, rfl, k4.trans k, by rw [next_take hst]; exact hn⟩
    have hh := hd_mem st
    simp only [List.mem_cons, List.not_mem_nil, or_false] at hh
    rcases hh with hh | hh | hh | hh
    · rw [hh] at ht
      refine ⟨_, rfl, t, _, _, _, rfl, rfl, ht, at0 _ _, rfl, _, rfl, iteDT rfl ?_⟩
      exact ⟨_, rfl, N.b, N.dx, _, rfl, hN4.ins, (nfs_no _ _ _ _).2.2.1, _, rfl, N, cells, _, _, st, rfl, hN4, hiv4, hh, sm, vs, fin⟩
    · rw [hh] at ht
      refine ⟨_, rfl, t, _, _, _, rfl, rfl, ht, at0 _ _, rfl, _, rfl, iteDF w_ink ?_⟩
      refine ⟨_, rfl, t, _, _, _, rfl, rfl, ht, at0 _ _, rfl, _, rfl, iteDT rfl ?_⟩
      exact ⟨_, rfl, N.b, N.dx, _, rfl, hN4.ins, (nfs_no _ _ _ _).2.2.2.1, _, rfl, N, cells, _, _, st, rfl, hN4, hiv4, hh, sm, vs, fin⟩
    · rw [hh] at ht
      refine ⟨_, rfl, t, _, _, _, rfl, rfl, ht, at0 _ _, rfl, _, rfl, iteDF r_ink ?_⟩
      refine ⟨_, rfl, t, _, _, _, rfl, rfl, ht, at0 _ _, rfl, _, rfl, iteDF r_write ?_⟩
      refine ⟨_, rfl, t, _, _, _, rfl, rfl, ht, at0 _ _, rfl, _, rfl, iteDT rfl ?_⟩
      exact ⟨_, rfl, N.b, N.dx, _, rfl, hN4.ins, (nfs_no _ _ _ _).2.2.2.2.1, _, rfl, N, cells, _, _, st, rfl, hN4, hiv4, hh, sm, vs, fin⟩
    · rw [hh] at ht
      refine ⟨_, rfl, t, _, _, _, rfl, rfl, ht, at0 _ _, rfl, _, rfl, iteDF a_ink ?_⟩
      refine ⟨_, rfl, t, _, _, _, rfl, rfl, ht, at0 _ _, rfl, _, rfl, iteDF a_write ?_⟩
      refine ⟨_, rfl, t, _, _, _, rfl, rfl, ht, at0 _ _, rfl, _, rfl, iteDF a_reader ?_⟩
      exact ⟨_, rfl, N.b, N.dx, _, rfl, hN4.ins, (nfs_no _ _ _ _).2.2.2.2.2, _, rfl, N, cells, _, _, st, rfl, hN4, hiv4, hh, sm, vs, fin⟩
  · rintro σ H4 ⟨o4, rfl, k4, hN4⟩
    refine ⟨_, rfl, _, rfl, by show 2 ≤ sizeLine; decide, fun a2 ha2 => ?_⟩
    have k24 : Kp [] H2 H4 := k2'.drop k4 (fun x hx => .inl (by
      have : x = N.b ∨ x = N.il ∨ x = N.rl := by simpa [NB.S] using hx
      rcases this with e | e | e
      · rw [e]; exact hy
      · rw [e]; exact hNiH2
      · rw [e]; exact hNrH2))
    have ka : Kp [] H4 (upd H4 a2 (.tup [.int (cells : Nat), .ref f])) := .new ha2
    exact q _ a2 f tv ((kH2.trans k24).trans ka) (SqT.of upd_same) ((k24.trans ka).keep _ _ hf (by simp)) hfH (pkp htv fun _ _ z => (z.kp k24).kp ka)
def sp_check (K : PySem.W.Frag) : Sp := fun vs H Q _ => ∃ (cs : List Nat) (cells : Nat) (ss : List Stm), vs = [.str (strL cs)] ∧ Lex cs (progW cells ss) ∧ cs.length ≤ 2000 ∧ ProgOk cells ss ∧ ∀ H', Kp [] H H' → Q .non H'
theorem sc_check : FnScope ["text"] ["text"] (defScope s_check) := ⟨rfl, rfl, rfl, by decide +kernel, rfl, by decide +kernel, by decide +kernel⟩
theorem ok_check (T : Txt w K mg) : FnOk P w K mg base CX0 26 (He.ga K "check") (fdA K (He.ga K "check")) ["text"] (sp_check K) := by
  have G_program_of := ok_program_of (P := P) (base := base) T
  refine (d_check T).ok sc_check (fun vs H Q E h => ?_) (fun cdv A outer s H vs Q E hr h => ?_)
  · obtain ⟨_, _, _, rfl, _⟩ := h; rfl
  obtain ⟨cs, cells, ss, rfl, hlex, hlen, ok, q⟩ := h
  refine ⟨_, (pss_one (ps_expr (pcall (d_program_of T) G_program_of (hr.mono (by decide)) (pa_cons (pv 0) pa_nil)))), ?_⟩
  exact ⟨_, rfl, cs, cells, ss, rfl, hlex, hlen, ok, fun H1 a f tv k _ _ _ _ => q _ k⟩
end
end Ink
set_option Elab.async false
set_option linter.all false
set_option pp.maxSteps 150
set_option maxRecDepth 100000
set_option maxHeartbeats 4000000
namespace Ink
open PySem PySem.Spec PyProof.Rows L2 StX
/-! ### the printed text -/
def clT : Cl → Nat → List Nat
  | .sees i c, _ => numW i ++ (if c = 46 then kw " bare" else kw " sees " ++ [c])
  | .alike i j, _ => numW i ++ kw " like " ++ numW j
  | .not a, _ => kw "not " ++ clT a 3
  | .bin o a b, l => if l ≤ lv o then clT a (lv o) ++ kw " " ++ kw (bw o) ++ kw " " ++ clT b (lv o + 1) else kw "(" ++ (clT a (lv o) ++ kw " " ++ kw (bw o) ++ kw " " ++ clT b (lv o + 1)) ++ kw ")"
def restsT (lo hi : Nat) : List Nat := numW lo ++ kw ".." ++ numW hi
def lkT (k : PLk) : List Nat := numW k.cell ++ kw " at " ++ restsT k.low k.high
def startT : Option Nat → List Nat
  | none => kw "begin"
  | some n => kw "write " ++ numW n
def joinL (s : List Nat) : List (List Nat) → List Nat
  | [] => []
  | [x] => x
  | x :: y :: r => x ++ s ++ joinL s (y :: r)
theorem num_str {n : Nat} (h : n < 10) : (Str.ofString (toString ((n : Nat) : Int))) = strL (numW n) := by
  have : n = 0 ∨ n = 1 ∨ n = 2 ∨ n = 3 ∨ n = 4 ∨ n = 5 ∨ n = 6 ∨ n = 7 ∨ n = 8 ∨ n = 9 := by omega
  rcases this with rfl | rfl | rfl | rfl | rfl | rfl | rfl | rfl | rfl | rfl <;> decide +kernel
theorem num_log {n : Nat} (h : n < 10) : ((n : Nat) : Int).natAbs.log2 < 1920 := by
  have : n = 0 ∨ n = 1 ∨ n = 2 ∨ n = 3 ∨ n = 4 ∨ n = 5 ∨ n = 6 ∨ n = 7 ∨ n = 8 ∨ n = 9 := by omega
  rcases this with rfl | rfl | rfl | rfl | rfl | rfl | rfl | rfl | rfl | rfl <;> decide +kernel
theorem clT_len : ∀ (c : Cl) (l : Nat), (clT c l).length ≤ 16 * 3 ^ c.ht
  | .sees i c, l => by
    have e1 : (kw " bare").length = 5 := by decide +kernel
    have e2 : (kw " sees ").length = 6 := by decide +kernel
    by_cases h : c = 46
    · simp only [clT, if_pos h, List.length_append, Cl.ht, List.length_singleton, e1]; decide
    · simp only [clT, if_neg h, List.length_append, Cl.ht, List.length_singleton, e2]; decide
  | .alike i j, l => by
    have e1 : (kw " like ").length = 6 := by decide +kernel
    simp only [clT, List.length_append, Cl.ht, List.length_singleton, e1]; decide
  | .not a, l => by
    have := clT_len a 3
    have e : (kw "not ").length = 4 := by decide +kernel
    have : 1 ≤ 3 ^ a.ht := Nat.one_le_pow _ _ (by decide)
    simp only [clT, List.length_append, Cl.ht, e, Nat.pow_succ]
    omega
  | .bin o a b, l => by
    have h1 := clT_len a (lv o)
    have h2 := clT_len b (lv o + 1)
    have e1 : (kw " ").length = 1 := by decide +kernel
    have e2 : (kw "(").length = 1 := by decide +kernel
    have e3 : (kw ")").length = 1 := by decide +kernel
    have e4 : (kw (bw o)).length ≤ 3 := by cases o <;> decide +kernel
    have m1 : 3 ^ a.ht ≤ 3 ^ (max a.ht b.ht) := Nat.pow_le_pow_right (by decide) (Nat.le_max_left _ _)
    have m2 : 3 ^ b.ht ≤ 3 ^ (max a.ht b.ht) := Nat.pow_le_pow_right (by decide) (Nat.le_max_right _ _)
    have m3 : 1 ≤ 3 ^ (max a.ht b.ht) := Nat.one_le_pow _ _ (by decide)
    by_cases h : l ≤ lv o
    · simp only [clT, if_pos h, List.length_append, Cl.ht, e1, Nat.pow_succ]
      omega
    · simp only [clT, if_neg h, List.length_append, Cl.ht, e1, e2, e3, Nat.pow_succ]
      omega
theorem clT_small {c : Cl} (h : c.ht < 4) (l : Nat) : (clT c l).length ≤ 432 := by
  have h1 := clT_len c l
  have h2 : 3 ^ c.ht ≤ 3 ^ 3 := Nat.pow_le_pow_right (by decide) (by omega)
  omega
section
variable {P : Program} {w : World} {K : PySem.W.Frag} {mg : Str → Option Value} {base : Heap}
theorem levels (T : Txt w K mg) (o : Bool) : KDct K w (He.ga K "LEVELS") (bw o) (.int (lv o : Nat)) := by
  obtain ⟨es, n, hD⟩ := t_LEVELS T
  cases o with
  | true =>
    obtain ⟨u, h1, h2⟩ := v_LEVELS T (q := ("or", .int 1)) (by simp)
    exact ⟨es, n, u, hD.at_, hD.lit, h1, h2⟩
  | false =>
    obtain ⟨u, h1, h2⟩ := v_LEVELS T (q := ("and", .int 2)) (by simp)
    exact ⟨es, n, u, hD.at_, hD.lit, h1, h2⟩
def sp_claim_text (K : PySem.W.Frag) (h : Nat) : Sp := fun vs H Q _ => ∃ (v : V) (c : Cl) (l : Nat), vs = [v, .int (l : Nat)] ∧ IsCl K H v c ∧ c.Sm ∧ c.ht < h ∧ c.ht < 4 ∧ Q (.str (strL (clT c l))) H
theorem szl {n : Nat} (h : n ≤ 16000) : n ≤ sizeLine := Nat.le_trans h (by decide)
theorem app_len (a b : Str) : (a ++ b).length = a.length + b.length := by
  show (a.cps ++ b.cps).size = _
  rw [Array.size_append]; rfl
theorem sz2 {a b : Str} {m n : Nat} (ha : a.length ≤ m) (hb : b.length ≤ n) (h : m + n ≤ 16000) : a.length + b.length ≤ sizeLine := szl (by omega)
theorem apl {a b : Str} {m n : Nat} (ha : a.length ≤ m) (hb : b.length ≤ n) : (a ++ b).length ≤ m + n := by rw [app_len]; omega
theorem sc_claim_text : FnScope ["claim", "least", "word", "level", "found"] ["claim", "least"] (defScope s_claim_text) := ⟨rfl, rfl, rfl, by decide +kernel, rfl, by decide +kernel, by decide +kernel⟩
theorem ok_claim_text (T : Txt w K mg) : ∀ h, FnOk P w K mg base CX0 (h + 1) (He.ga K "claim_text") (fdA K (He.ga K "claim_text")) ["claim", "least"] (sp_claim_text K h)
  | 0 => (d_claim_text T).ok sc_claim_text (fun vs H Q E h => by obtain ⟨_, _, _, rfl, _⟩ := h; rfl) (fun cdv A outer s H vs Q E hr h => by obtain ⟨_, _, _, _, _, _, z, _⟩ := h; exact absurd z (Nat.not_lt_zero _))
  | h + 1 => by
    have G_claim_text := ok_claim_text T h
    refine (d_claim_text T).ok sc_claim_text (fun vs H Q E h => ?_) (fun cdv A outer s H vs Q E hr h => ?_)
    · obtain ⟨_, _, _, rfl, _⟩ := h; rfl
    obtain ⟨v, c, l, rfl, hc, hsm, hlt, h4, q⟩ := h
    refine ⟨_, (pss_cons (ps_set (i := 2) sc_claim_text.nd rfl (Or.inl rfl) (pe_ix ix_tup (pv 0) pe_int (fun _ _ => rfl)))
      (pss_cons (ps_if (pt_cmpR op_eq (pv 2) pe_str (nomark _)) (pss_one (ps_ret (pe_op op_add_str (pe_callTy call_str_int (by rfl) (f_str T) bb_str (pa_cons (pe_ix ix_tup (pv 0) pe_int (fun _ _ => rfl)) pa_nil)) (pe_ifExp (pt_cmpR op_eq (pe_ix ix_tup (pv 0) pe_int (fun _ _ => rfl)) (pgs (i_BARE T)) (nomark _)) pe_str (pe_op op_add_str pe_str (pe_ix ix_tup (pv 0) pe_int (fun _ _ => rfl))))))) pss_nil)
      (pss_cons (ps_if (pt_cmpR op_eq (pv 2) pe_str (nomark _)) (pss_one (ps_ret (pe_op op_add_str (pe_op op_add_str (pe_callTy call_str_int (by rfl) (f_str T) bb_str (pa_cons (pe_ix ix_tup (pv 0) pe_int (fun _ _ => rfl)) pa_nil)) pe_str) (pe_callTy call_str_int (by rfl) (f_str T) bb_str (pa_cons (pe_ix ix_tup (pv 0) pe_int (fun _ _ => rfl)) pa_nil))))) pss_nil)
      (pss_cons (ps_if (pt_cmpR op_eq (pv 2) pe_str (nomark _)) (pss_one (ps_ret (pe_op op_add_str pe_str (pcall (d_claim_text T) G_claim_text (hr.mono (by omega)) (pa_cons (pe_ix ix_tup (pv 0) pe_int (fun _ _ => rfl)) (pa_cons pe_int pa_nil)))))) pss_nil)
      (pss_cons (ps_set (i := 3) sc_claim_text.nd rfl (Or.inl rfl) (pe_ix ix_kdict (pe_glob (v := .ref (He.ga K "LEVELS")) (by rfl) (g_LEVELS T) rfl) (pv 2) (fun _ _ => rfl)))
      (pss_cons (ps_set (i := 4) sc_claim_text.nd rfl (Or.inl rfl) (pe_op op_add_str (pe_op op_add_str (pe_op op_add_str (pe_op op_add_str (pcall (d_claim_text T) G_claim_text (hr.mono (by omega)) (pa_cons (pe_ix ix_tup (pv 0) pe_int (fun _ _ => rfl)) (pa_cons (pv 3) pa_nil))) pe_str) (pv 2)) pe_str) (pcall (d_claim_text T) G_claim_text (hr.mono (by omega)) (pa_cons (pe_ix ix_tup (pv 0) pe_int (fun _ _ => rfl)) (pa_cons (pe_op op_add (pv 3) pe_int) pa_nil)))))
      (pss_one (ps_ret (pe_ifExp (pt_cmpR op_ge (pv 3) (pv 1) (nomark _)) (pv 4) (pe_op op_add_str (pe_op op_add_str pe_str (pv 4)) pe_str)))))))))), ?_⟩
    cases c with
    | sees i ch =>
      obtain ⟨a, rfl, ha⟩ := hc
      refine ⟨_, rfl, a, _, _, _, rfl, rfl, ha, rfl, _, rfl, rfl, _, rfl, iteDT rfl ?_⟩
      refine ⟨_, rfl, a, _, _, _, rfl, rfl, ha, rfl, _, rfl, num_log hsm.1, ?_⟩
      rw [num_str hsm.1]
      refine ⟨_, rfl, a, _, _, _, rfl, rfl, ha, rfl, rfl, _, rfl, ?_⟩
      by_cases h46 : ch = 46
      · subst h46
        refine iteDT (by decide +kernel) ⟨_, _, rfl, rfl, sz2 (m := 1) (n := 9) (Nat.le_refl 1) (by decide +kernel) (by decide), ?_⟩
        exact q
      · refine iteDF (fun z => h46 (sg_inj z)) ⟨_, rfl, a, _, _, _, rfl, rfl, ha, rfl, _, _, rfl, rfl, sz2 (m := 9) (n := 1) (by decide +kernel) (Nat.le_refl 1) (by decide), _, _, rfl, rfl, sz2 (m := 1) (n := 10) (Nat.le_refl 1) (apl (m := 9) (n := 1) (by decide +kernel) (Nat.le_refl 1)) (by decide), ?_⟩
        refine qv ?_ q
        show V.str (strL (numW i) ++ (strL (kw " sees ") ++ strL [ch])) = V.str (strL (numW i ++ (if ch = 46 then kw " bare" else kw " sees " ++ [ch])))
        rw [if_neg h46, strL_app, strL_app]
    | alike i j =>
      obtain ⟨a, rfl, ha⟩ := hc
      refine ⟨_, rfl, a, _, _, _, rfl, rfl, ha, rfl, _, rfl, rfl, _, rfl, iteDF (by decide +kernel) ?_⟩
      refine ⟨_, rfl, rfl, _, rfl, iteDT rfl ?_⟩
      refine ⟨_, rfl, a, _, _, _, rfl, rfl, ha, rfl, _, rfl, num_log hsm.1, ?_⟩
      rw [num_str hsm.1]
      refine ⟨_, _, rfl, rfl, sz2 (m := 1) (n := 9) (Nat.le_refl 1) (by decide +kernel) (by decide), _, rfl, a, _, _, _, rfl, rfl, ha, rfl, _, rfl, num_log hsm.2, ?_⟩
      rw [num_str hsm.2]
      refine ⟨_, _, rfl, rfl, sz2 (m := 10) (n := 1) (apl (m := 1) (n := 9) (Nat.le_refl 1) (by decide +kernel)) (Nat.le_refl 1) (by decide), ?_⟩
      refine qv ?_ q
      show V.str (strL (numW i) ++ strL (kw " like ") ++ strL (numW j)) = _
      rw [strL_app, strL_app]
      rfl
    | not x =>
      obtain ⟨a, u, rfl, ha, hx⟩ := hc
      have e1 : x.ht + 1 < h + 1 := hlt
      have e2 : x.ht + 1 < 4 := h4
      refine ⟨_, rfl, a, _, _, _, rfl, rfl, ha, rfl, _, rfl, rfl, _, rfl, iteDF (by decide +kernel) ?_⟩
      refine ⟨_, rfl, rfl, _, rfl, iteDF (by decide +kernel) ?_⟩
      refine ⟨_, rfl, rfl, _, rfl, iteDT rfl ?_⟩
      refine ⟨_, rfl, a, _, _, _, rfl, rfl, ha, rfl, u, x, 3, rfl, hx, hsm, by omega, by omega, _, _, rfl, rfl, sz2 (m := 9) (n := 432) (by decide +kernel) (clT_small (by omega) 3) (by decide), ?_⟩
      refine qv ?_ q
      show V.str (strL (kw "not ") ++ strL (clT x 3)) = _
      rw [strL_app]
      rfl
    | bin o x y =>
      obtain ⟨a, u, t, rfl, ha, hx, hy⟩ := hc
      have e1 : max x.ht y.ht + 1 < h + 1 := hlt
      have e2 : max x.ht y.ht + 1 < 4 := h4
      have w1 : ¬ (V.str (bw o) = V.str "sees") := by cases o <;> decide +kernel
      have w2 : ¬ (V.str (bw o) = V.str "alike") := by cases o <;> decide +kernel
      have w3 : ¬ (V.str (bw o) = V.str "not") := by cases o <;> decide +kernel
      have lb : (bw o).length ≤ 3 := by cases o <;> decide +kernel
      have l1 := clT_small (c := x) (by omega) (lv o)
      have l2 := clT_small (c := y) (by omega) (lv o + 1)
      refine ⟨_, rfl, a, _, _, _, rfl, rfl, ha, rfl, _, rfl, rfl, _, rfl, iteDF w1 ?_⟩
      refine ⟨_, rfl, rfl, _, rfl, iteDF w2 ?_⟩
      refine ⟨_, rfl, rfl, _, rfl, iteDF w3 ?_⟩
      refine ⟨_, rfl, _, _, _, rfl, rfl, levels T o, ?_⟩
      refine ⟨_, rfl, a, _, _, _, rfl, rfl, ha, rfl, _, rfl, u, x, lv o, rfl, hx, hsm.1, by omega, by omega, ?_⟩
      refine ⟨_, _, rfl, rfl, sz2 (m := 432) (n := 1) l1 (by decide +kernel) (by decide), _, rfl, _, _, rfl, rfl, sz2 (m := 433) (n := 3) (apl (m := 432) (n := 1) l1 (by decide +kernel)) lb (by decide), _, _, rfl, rfl, sz2 (m := 436) (n := 1) (apl (m := 433) (n := 3) (apl (m := 432) (n := 1) l1 (by decide +kernel)) lb) (by decide +kernel) (by decide), ?_⟩
      refine ⟨_, rfl, a, _, _, _, rfl, rfl, ha, rfl, _, rfl, _, _, rfl, rfl, t, y, lv o + 1, rfl, hy, hsm.2, by omega, by omega, _, _, rfl, rfl, sz2 (m := 437) (n := 432) (apl (m := 436) (n := 1) (apl (m := 433) (n := 3) (apl (m := 432) (n := 1) l1 (by decide +kernel)) lb) (by decide +kernel)) l2 (by decide), ?_⟩
      have ein : strL (clT x (lv o)) ++ strL (kw " ") ++ strL (kw (bw o)) ++ strL (kw " ") ++ strL (clT y (lv o + 1)) = strL (clT x (lv o) ++ kw " " ++ kw (bw o) ++ kw " " ++ clT y (lv o + 1)) := by
        rw [strL_app, strL_app, strL_app, strL_app]
      have lin : (strL (clT x (lv o)) ++ strL (kw " ") ++ strL (kw (bw o)) ++ strL (kw " ") ++ strL (clT y (lv o + 1))).length ≤ 869 := apl (m := 437) (n := 432) (apl (m := 436) (n := 1) (apl (m := 433) (n := 3) (apl (m := 432) (n := 1) l1 (by decide +kernel)) lb) (by decide +kernel)) l2
      refine ⟨_, rfl, _, rfl, _, _, rfl, rfl, _, rfl, ?_⟩
      by_cases hl : l ≤ lv o
      · refine iteDT (by omega) ⟨_, rfl, ?_⟩
        refine qv ?_ q
        show V.str (strL (clT x (lv o)) ++ strL (kw " ") ++ strL (kw (bw o)) ++ strL (kw " ") ++ strL (clT y (lv o + 1))) = V.str (strL (if l ≤ lv o then _ else _))
        rw [ein, if_pos hl]
      · refine iteDF (by omega) ⟨_, rfl, _, _, rfl, rfl, sz2 (m := 1) (n := 869) (by decide +kernel) lin (by decide), _, _, rfl, rfl, sz2 (m := 870) (n := 1) (apl (m := 1) (n := 869) (by decide +kernel) lin) (by decide +kernel) (by decide), ?_⟩
        refine qv ?_ q
        show V.str (strL (kw "(") ++ (strL (clT x (lv o)) ++ strL (kw " ") ++ strL (kw (bw o)) ++ strL (kw " ") ++ strL (clT y (lv o + 1))) ++ strL (kw ")")) = V.str (strL (if l ≤ lv o then _ else _))
        rw [ein, if_neg hl, strL_app, strL_app]
end
end Ink
set_option Elab.async false
set_option linter.all false
set_option pp.maxSteps 150
set_option maxRecDepth 100000
set_option maxHeartbeats 4000000
namespace Ink
open PySem PySem.Spec PyProof.Rows L2 StX
theorem join_L (s : List Nat) : ∀ ys : List (List Nat), Str.join (strL s) (ys.map strL) = strL (joinL s ys)
  | [] => rfl
  | [x] => rfl
  | x :: y :: r => by
    have ih := join_L s (y :: r)
    show strL x ++ strL s ++ Str.join (strL s) (strL y :: r.map strL) = strL (x ++ s ++ joinL s (y :: r))
    rw [show (strL y :: r.map strL) = (y :: r).map strL from rfl, ih, strL_app, strL_app]
theorem tjoin_L (s : List Nat) (ys : List (List Nat)) : Txt.join (strL s) (ys.map strL) = strL (joinL s ys) := by
  show Builtin.Str.glued _ _ = _
  rw [StrLaws.glued_eq_join, join_L]
theorem joinL_len (s : List Nat) : ∀ ys : List (List Nat), (joinL s ys).length ≤ (ys.map (·.length)).sum + ys.length * s.length
  | [] => Nat.zero_le _
  | [x] => by show x.length ≤ _; simp
  | x :: y :: r => by
    have ih := joinL_len s (y :: r)
    have e : (x :: y :: r).length * s.length = s.length + (y :: r).length * s.length := by rw [List.length_cons, Nat.add_mul, Nat.one_mul, Nat.add_comm]
    show (x ++ s ++ joinL s (y :: r)).length ≤ (x.length + ((y :: r).map (·.length)).sum) + _
    rw [e, List.length_append, List.length_append]
    omega
def lineT : Stm → List Nat
  | .ink z n => kw "ink " ++ z ++ kw " " ++ numW n
  | .write cell c z lo hi => joinL (kw " ") [kw "write", numW cell, [c], z, restsT lo hi]
  | .reader z st k0 ks => kw "reader " ++ z ++ kw " " ++ startT st ++ kw ": " ++ joinL (kw ", ") ((k0 :: ks).map lkT)
  | .reads z => joinL (kw " ") [kw "ask", kw "reads", z]
  | .sure z c => joinL (kw " ") [kw "ask", kw "sure", z, clT c 1]
  | .slack z m c => joinL (kw " ") [kw "ask", kw "slack", z, numW m, clT c 1]
def stT (s : Stm) : List Nat := lineT s ++ kw ";"
def wholeT (cells : Nat) (ss : List Stm) : List Nat := joinL (kw "\n") ((kw "cells " ++ numW cells ++ kw ";") :: ss.map stT)
theorem restsT_len (lo hi : Nat) : (restsT lo hi).length = 4 := by
  have e : (kw "..").length = 2 := by decide +kernel
  simp only [restsT, List.length_append, List.length_singleton, e]
theorem lkT_len (k : PLk) : (lkT k).length = 9 := by
  have e : (kw " at ").length = 4 := by decide +kernel
  simp only [lkT, List.length_append, List.length_singleton, e, restsT_len]
theorem startT_len (st : Option Nat) : (startT st).length ≤ 7 := by
  cases st with
  | none => decide +kernel
  | some n =>
    have e : (kw "write ").length = 6 := by decide +kernel
    simp only [startT, List.length_append, List.length_singleton, e]
    omega
theorem lks_len (ks : List PLk) : ((ks.map lkT).map (·.length)).sum = ks.length * 9 := by
  induction ks with
  | nil => rfl
  | cons k ks ih => rw [List.map_cons, List.map_cons, List.sum_cons, ih, lkT_len, List.length_cons]; omega
theorem lineT_len {s : Stm} (h : s.Sm) : (lineT s).length ≤ 900 := by
  have w1 : (kw " ").length = 1 := by decide +kernel
  have w2 : (kw "write").length = 5 := by decide +kernel
  have w3 : (kw "ask").length = 3 := by decide +kernel
  have w4 : (kw "reads").length = 5 := by decide +kernel
  have w5 : (kw "sure").length = 4 := by decide +kernel
  have w6 : (kw "slack").length = 5 := by decide +kernel
  have w7 : (kw "ink ").length = 4 := by decide +kernel
  have w8 : (kw "reader ").length = 7 := by decide +kernel
  have w9 : (kw ": ").length = 2 := by decide +kernel
  have w0 : (kw ", ").length = 2 := by decide +kernel
  cases s with
  | ink z n =>
    have := h.1.2
    simp only [lineT, List.length_append, List.length_singleton, w7, w1]
    omega
  | write cell c z lo hi =>
    have := h.2.2.1.2
    have j := joinL_len (kw " ") [kw "write", numW cell, [c], z, restsT lo hi]
    simp only [List.map_cons, List.map_nil, List.sum_cons, List.sum_nil, List.length_cons, List.length_nil, w1, restsT_len, w2] at j
    show (joinL _ _).length ≤ 900
    omega
  | reader z st k0 ks =>
    have := h.1.2
    have h4 := h.2.2.2
    have j := joinL_len (kw ", ") ((k0 :: ks).map lkT)
    rw [lks_len, List.length_map, List.length_cons, w0] at j
    have := startT_len st
    simp only [lineT, List.length_append, w8, w1, w9]
    omega
  | reads z =>
    have := h.2
    have j := joinL_len (kw " ") [kw "ask", kw "reads", z]
    simp only [List.map_cons, List.map_nil, List.sum_cons, List.sum_nil, List.length_cons, List.length_nil, w1, w3, w4] at j
    show (joinL _ _).length ≤ 900
    omega
  | sure z c =>
    have := h.1.2
    have l := clT_small h.2.2 1
    have j := joinL_len (kw " ") [kw "ask", kw "sure", z, clT c 1]
    simp only [List.map_cons, List.map_nil, List.sum_cons, List.sum_nil, List.length_cons, List.length_nil, w1, w3, w5] at j
    show (joinL _ _).length ≤ 900
    omega
  | slack z m c =>
    have := h.1.2
    have l := clT_small h.2.2.2 1
    have j := joinL_len (kw " ") [kw "ask", kw "slack", z, numW m, clT c 1]
    simp only [List.map_cons, List.map_nil, List.sum_cons, List.sum_nil, List.length_cons, List.length_nil, w1, w3, w6] at j
    show (joinL _ _).length ≤ 900
    omega
section
variable {P : Program} {w : World} {K : PySem.W.Frag} {mg : Str → Option Value} {base : Heap}
def sp_rests_text : Sp := fun vs H Q _ => ∃ lo hi : Nat, vs = [.int (lo : Nat), .int (hi : Nat)] ∧ lo < 10 ∧ hi < 10 ∧ Q (.str (strL (restsT lo hi))) H
theorem sc_rests_text : FnScope ["low", "high"] ["low", "high"] (defScope s_rests_text) := ⟨rfl, rfl, rfl, by decide +kernel, rfl, by decide +kernel, by decide +kernel⟩
theorem ok_rests_text (T : Txt w K mg) : FnOk P w K mg base CX0 1 (He.ga K "rests_text") (fdA K (He.ga K "rests_text")) ["low", "high"] sp_rests_text := by
  refine (d_rests_text T).ok sc_rests_text (fun vs H Q E h => ?_) (fun cdv A outer s H vs Q E hr h => ?_)
  · obtain ⟨_, _, rfl, _⟩ := h; rfl
  obtain ⟨lo, hi, rfl, h1, h2, q⟩ := h
  refine ⟨_, (pss_one (ps_ret (pe_op op_add_str (pe_op op_add_str (pe_callTy call_str_int (by rfl) (f_str T) bb_str (pa_cons (pv 0) pa_nil)) pe_str) (pe_callTy call_str_int (by rfl) (f_str T) bb_str (pa_cons (pv 1) pa_nil))))), ?_⟩
  refine ⟨_, rfl, _, rfl, num_log h1, ?_⟩
  rw [num_str h1]
  refine ⟨_, _, rfl, rfl, sz2 (m := 1) (n := 9) (Nat.le_refl 1) (by decide +kernel) (by decide), _, rfl, _, rfl, num_log h2, ?_⟩
  rw [num_str h2]
  refine ⟨_, _, rfl, rfl, sz2 (m := 10) (n := 1) (apl (m := 1) (n := 9) (Nat.le_refl 1) (by decide +kernel)) (Nat.le_refl 1) (by decide), ?_⟩
  refine qv ?_ q
  show V.str (strL (numW lo) ++ strL (kw "..") ++ strL (numW hi)) = _
  rw [strL_app, strL_app]
  rfl
theorem join_sum {l : List (List Nat)} {s : List Nat} (h : (l.map (·.length)).sum + l.length * s.length ≤ 16777216) : ((l.map strL).map (·.length)).sum + (l.map strL).length * (strL s).length ≤ 16777216 := by
  rw [List.map_map, List.length_map]
  exact h
def sp_reader_text (K : PySem.W.Frag) : Sp := fun vs H Q _ => ∃ v z st k0 ks, vs = [v] ∧ IsStm K H v (.reader z st k0 ks) ∧ (Stm.reader z st k0 ks).Sm ∧ ∀ H', Kp [] H H' → Q (.str (strL (lineT (.reader z st k0 ks)))) H'
theorem sc_reader_text : FnScope ["told", "start", "looks", "cell", "low", "high"] ["told"] (defScope s_reader_text) := ⟨rfl, rfl, rfl, by decide +kernel, rfl, by decide +kernel, by decide +kernel⟩
theorem ok_reader_text (T : Txt w K mg) : FnOk P w K mg base CX0 2 (He.ga K "reader_text") (fdA K (He.ga K "reader_text")) ["told"] (sp_reader_text K) := by
  have G_rests_text := ok_rests_text (P := P) (base := base) T
  refine (d_reader_text T).ok sc_reader_text (fun vs H Q E h => ?_) (fun cdv A outer s H vs Q E hr h => ?_)
  · obtain ⟨_, _, _, _, _, rfl, _⟩ := h; rfl
  obtain ⟨v, z, st, k0, ks, rfl, ⟨a, b, vs, rfl, ha, hb, hvs⟩, ⟨s1, s2, s3, s4⟩, q⟩ := h
  have hvl : vs.length = ks.length + 1 := by rw [paired_len hvs, List.length_map, List.length_cons]
  refine ⟨_, (pss_cons (ps_set (i := 1) sc_reader_text.nd rfl (Or.inl rfl) (pe_cut (pe_ifExp (pt_cmpR op_isN (pe_ix ix_tup (pv 0) pe_int (fun _ _ => rfl)) pe_non (nomark _)) pe_str (pe_op op_add_str pe_str (pe_callTy call_str_int (by rfl) (f_str T) bb_str (pa_cons (pe_ix ix_tup (pv 0) pe_int (fun _ _ => rfl)) pa_nil))))))
      (pss_cons (ps_setLc (i := 2) (g := gTup K 3 (gCons (gName 3) (gCons (gName 4) (gCons (gName 5) gNil)))) (own := [("cell", 3), ("low", 4), ("high", 5)]) rfl sc_reader_text.nd rfl rfl (sw_true rfl rfl rfl (by decide +kernel)) (pi_tup (pe_ix ix_tup (pv 0) pe_int (fun _ _ => rfl))) (blkOk_by (own := [("cell", 3), ("low", 4), ("high", 5)]) (N := ["told", "start", "looks", "cell", "low", "high"]) (sc := defScope s_reader_text) (by decide +kernel)) (fun _ _ _ _ _ => (pg_tup rfl (pgs_cons (pg_name (i := 3) sc_reader_text.nd rfl (Or.inl rfl)) (pgs_cons (pg_name (i := 4) sc_reader_text.nd rfl (Or.inl rfl)) (pgs_cons (pg_name (i := 5) sc_reader_text.nd rfl (Or.inl rfl)) pgs_nil))))) (fun _ _ _ _ _ => pts_nil) (fun _ _ _ _ _ => (pe_op op_add_str (pe_op op_add_str (pe_callTy call_str_int (by rfl) (f_str T) bb_str (pa_cons (pv 3) pa_nil)) pe_str) (pcall (d_rests_text T) G_rests_text (hr.mono (by decide)) (pa_cons (pv 4) (pa_cons (pv 5) pa_nil))))))
      (pss_one (ps_ret (pe_op op_add_str (pe_op op_add_str (pe_op op_add_str (pe_op op_add_str (pe_op op_add_str pe_str (pe_ix ix_tup (pv 0) pe_int (fun _ _ => rfl))) pe_str) (pv 1)) pe_str) (pe_join pe_str (pv 2))))))), ?_⟩
  refine ⟨fun v H' => v = .str (strL (startT st)) ∧ H' = H, ?_, ?_⟩
  · refine ⟨_, rfl, a, _, _, _, rfl, rfl, ha, rfl, rfl, _, rfl, ?_⟩
    cases st with
    | none => exact iteDT rfl ⟨rfl, rfl⟩
    | some n =>
      refine iteDF (by intro z; cases z) ⟨_, rfl, a, _, _, _, rfl, rfl, ha, rfl, _, rfl, num_log (s2 n rfl), ?_⟩
      rw [num_str (s2 n rfl)]
      refine ⟨_, _, rfl, rfl, sz2 (m := 9) (n := 1) (by decide +kernel) (Nat.le_refl 1) (by decide), ?_, rfl⟩
      show V.str (strL (kw "write ") ++ strL (numW n)) = _
      rw [strL_app]
      rfl
  rintro v H' ⟨rfl, rfl⟩
  refine ⟨_, rfl, a, _, _, _, rfl, rfl, ha, rfl, b, rfl, ⟨_, hb⟩, fun D hD => lc_tup (xs := vs) (fun i H1 => Kp [] H' H1 ∧ H1 D = some (.lst (((((k0 :: ks).take i).map lkT).map strL).map V.str))) ⟨.new hD, upd_same⟩ (fun i H _ h => kpT hb h.1) ?_ ?_⟩
  · rintro i x H1 hx ⟨k1, hD1⟩
    obtain ⟨lk, hlk, g, rfl, hg⟩ := paired_at hvs hx
    rw [List.getElem?_map] at hlk
    obtain ⟨pk', hpk, rfl⟩ := Option.map_eq_some_iff.mp hlk
    have hi : i < vs.length := (List.getElem?_eq_some_iff.mp hx).1
    obtain ⟨m1, m2, m3⟩ := s3 pk' (List.mem_of_getElem? hpk)
    refine ⟨g, _, rfl, kpT hg k1, rfl, _, _, rfl, _, _, rfl, _, _, rfl, rfl, rfl, tyes ?_⟩
    refine iteT ?_
    refine ⟨_, rfl, _, rfl, num_log m1, ?_⟩
    rw [show Str.ofString (toString pk'.lk.cell) = strL (numW pk'.cell) from num_str m1]
    refine ⟨_, _, rfl, rfl, sz2 (m := 1) (n := 9) (Nat.le_refl 1) (by decide +kernel) (by decide), _, rfl, _, rfl, pk'.low, pk'.high, rfl, m2, m3, _, _, rfl, rfl, sz2 (m := 10) (n := 4) (apl (m := 1) (n := 9) (Nat.le_refl 1) (by decide +kernel)) (by rw [strL_len, restsT_len]; exact Nat.le_refl 4) (by decide), _, hD1, small1000 (by rw [List.length_map, List.length_map, List.length_map, List.length_take]; omega), k1.putN hD, ?_⟩
    rw [upd_same, List.take_succ, hpk, List.map_append, List.map_append, List.map_append]
    show some (HO.lst (_ ++ [V.str (strL (numW pk'.cell) ++ strL (kw " at ") ++ strL (restsT pk'.low pk'.high))])) = some (HO.lst (_ ++ [V.str (strL (lkT pk'))]))
    rw [strL_app, strL_app]
    rfl
  · rintro H1 ⟨k1, hD1⟩
    rw [List.take_of_length_le (by rw [List.length_cons]; omega)] at hD1
    have hz8 : (strL z).length ≤ 8 := s1.2
    have hst := startT_len st
    have hst' : (strL (startT st)).length ≤ 7 := hst
    have w0 : (kw ", ").length = 2 := by decide +kernel
    have jl := joinL_len (kw ", ") ((k0 :: ks).map lkT)
    have jl2 : (joinL (kw ", ") ((k0 :: ks).map lkT)).length ≤ 100 := by
      rw [lks_len, List.length_map, List.length_cons, w0] at jl
      omega
    have p1 : (Str.ofString "reader " ++ strL z).length ≤ 18 := apl (m := 10) (n := 8) (by decide +kernel) hz8
    have p2 := apl (m := 18) (n := 2) (b := Str.ofString " ") p1 (by decide +kernel)
    have p3 := apl (m := 20) (n := 7) p2 hst'
    have p4 := apl (m := 27) (n := 2) (b := Str.ofString ": ") p3 (by decide +kernel)
    refine ⟨_, rfl, a, _, _, _, rfl, rfl, kpT ha k1, rfl, _, _, rfl, rfl, sz2 (m := 10) (n := 8) (by decide +kernel) hz8 (by decide), _, _, rfl, rfl, sz2 (m := 18) (n := 2) p1 (by decide +kernel) (by decide), _, rfl, _, _, rfl, rfl, sz2 (m := 20) (n := 7) p2 hst' (by decide), _, _, rfl, rfl, sz2 (m := 27) (n := 2) p3 (by decide +kernel) (by decide), ?_⟩
    refine ⟨⟨_, rfl⟩, _, rfl, strL (kw ", "), D, ((k0 :: ks).map lkT).map strL, rfl, rfl, .inl (SqL.of hD1), join_sum (by rw [lks_len, List.length_map, List.length_cons, w0]; omega), ?_⟩
    rw [tjoin_L]
    refine ⟨_, _, rfl, rfl, sz2 (m := 29) (n := 100) p4 jl2 (by decide), ?_⟩
    refine qv ?_ (q _ k1)
    show V.str (strL (kw "reader ") ++ strL z ++ strL (kw " ") ++ strL (startT st) ++ strL (kw ": ") ++ strL (joinL (kw ", ") ((k0 :: ks).map lkT))) = _
    rw [strL_app, strL_app, strL_app, strL_app, strL_app]
    rfl
def sp_statement_text (K : PySem.W.Frag) : Sp := fun vs H Q _ => ∃ (v : V) (s : Stm), vs = [v] ∧ IsStm K H v s ∧ s.Sm ∧ ∀ H', Kp [] H H' → Q (.str (strL (stT s))) H'
theorem sc_statement_text : FnScope ["told", "words", "word"] ["told"] (defScope s_statement_text) := ⟨rfl, rfl, rfl, by decide +kernel, rfl, by decide +kernel, by decide +kernel⟩
theorem ok_statement_text (T : Txt w K mg) : FnOk P w K mg base CX0 6 (He.ga K "statement_text") (fdA K (He.ga K "statement_text")) ["told"] (sp_statement_text K) := by
  have G_rests_text := ok_rests_text (P := P) (base := base) T
  have G_reader_text := ok_reader_text (P := P) (base := base) T
  have G_claim_text := ok_claim_text (P := P) (base := base) T 4
  refine (d_statement_text T).ok sc_statement_text (fun vs H Q E h => ?_) (fun cdv A outer s H vs Q E hr h => ?_)
  · obtain ⟨_, _, rfl, _⟩ := h; rfl
  obtain ⟨v, st, rfl, hs, hsm, q⟩ := h
  refine ⟨_, (pss_cons (ps_if (pt_cmpR op_eq (pe_ix ix_tup (pv 0) pe_int (fun _ _ => rfl)) pe_str (nomark _)) (pss_one (ps_ret (pe_op op_add_str (pe_op op_add_str (pe_op op_add_str (pe_op op_add_str pe_str (pe_ix ix_tup (pv 0) pe_int (fun _ _ => rfl))) pe_str) (pe_callTy call_str_int (by rfl) (f_str T) bb_str (pa_cons (pe_ix ix_tup (pv 0) pe_int (fun _ _ => rfl)) pa_nil))) pe_str))) pss_nil)
      (pss_cons (ps_if (pt_cmpR op_eq (pe_ix ix_tup (pv 0) pe_int (fun _ _ => rfl)) pe_str (nomark _)) (pss_one (ps_ret (pe_op op_add_str (pe_join pe_str (pe_lst (pa_cons pe_str (pa_cons (pe_callTy call_str_int (by rfl) (f_str T) bb_str (pa_cons (pe_ix ix_tup (pv 0) pe_int (fun _ _ => rfl)) pa_nil)) (pa_cons (pe_ix ix_tup (pv 0) pe_int (fun _ _ => rfl)) (pa_cons (pe_ix ix_tup (pv 0) pe_int (fun _ _ => rfl)) (pa_cons (pcall (d_rests_text T) G_rests_text (hr.mono (by decide)) (pa_cons (pe_ix ix_tup (pv 0) pe_int (fun _ _ => rfl)) (pa_cons (pe_ix ix_tup (pv 0) pe_int (fun _ _ => rfl)) pa_nil))) pa_nil))))))) pe_str))) pss_nil)
      (pss_cons (ps_if (pt_cmpR op_eq (pe_ix ix_tup (pv 0) pe_int (fun _ _ => rfl)) pe_str (nomark _)) (pss_one (ps_ret (pe_op op_add_str (pcall (d_reader_text T) G_reader_text (hr.mono (by decide)) (pa_cons (pv 0) pa_nil)) pe_str))) pss_nil)
      (pss_cons (ps_setLc (i := 1) (own := [("word", 2)]) rfl sc_statement_text.nd rfl rfl (sw_true rfl rfl rfl (by decide +kernel)) (pi_tup (pe_slice sl_tupA (pv 0) po_none (po_some pe_int))) (blkOk_by (own := [("word", 2)]) (N := ["told", "words", "word"]) (sc := defScope s_statement_text) (by decide +kernel)) (fun _ _ _ _ _ => (pg_name (i := 2) sc_statement_text.nd rfl (Or.inl rfl))) (fun _ _ _ _ _ => pts_nil) (fun _ _ _ _ _ => (pe_callTy SkE.call_str_str (by rfl) (f_str T) bb_str (pa_cons (pv 2) pa_nil))))
      (pss_cons (ps_cut (ps_if (pt_cmpR op_eq (pe_ix ix_tup (pv 0) pe_int (fun _ _ => rfl)) pe_str (nomark _)) (pss_one (ps_expr (pe_bm PySem.F.plainAttrs_list PySem.F.slot_list_append PySem.F.type_list_append mt_append (pv 1) (pa_cons (pe_callTy call_str_int (by rfl) (f_str T) bb_str (pa_cons (pe_ix ix_tup (pv 0) pe_int (fun _ _ => rfl)) pa_nil)) pa_nil)))) pss_nil))
      (pss_cons (ps_cut (ps_if (pt_cmpR op_ne (pe_ix ix_tup (pv 0) pe_int (fun _ _ => rfl)) pe_str (nomark _)) (pss_one (ps_expr (pe_bm PySem.F.plainAttrs_list PySem.F.slot_list_append PySem.F.type_list_append mt_append (pv 1) (pa_cons (pcall (d_claim_text T) G_claim_text (hr.mono (by decide)) (pa_cons (pe_ix ix_tup (pv 0) (pe_un un_neg pe_int) (fun _ _ => rfl)) (pa_cons pe_int pa_nil))) pa_nil)))) pss_nil))
      (pss_one (ps_ret (pe_op op_add_str (pe_join pe_str (pv 1)) pe_str))))))))), ?_⟩
  have ll := lineT_len hsm
  have w1 : (kw " ").length = 1 := by decide +kernel
  have w2 : (kw "write").length = 5 := by decide +kernel
  have w3 : (kw "ask").length = 3 := by decide +kernel
  have w4 : (kw "reads").length = 5 := by decide +kernel
  have w5 : (kw "sure").length = 4 := by decide +kernel
  have w6 : (kw "slack").length = 5 := by decide +kernel
  cases st with
  | ink z n =>
    obtain ⟨a, rfl, ha⟩ := hs
    have hz8 : (strL z).length ≤ 8 := hsm.1.2
    refine ⟨_, rfl, a, _, _, _, rfl, rfl, ha, rfl, rfl, _, rfl, iteDT rfl ?_⟩
    have p1 : (Str.ofString "ink " ++ strL z).length ≤ 18 := apl (m := 10) (n := 8) (by decide +kernel) hz8
    have p2 := apl (m := 18) (n := 2) (b := Str.ofString " ") p1 (by decide +kernel)
    have p3 := apl (m := 20) (n := 1) (b := strL (numW n)) p2 (Nat.le_refl 1)
    refine ⟨_, rfl, a, _, _, _, rfl, rfl, ha, rfl, _, _, rfl, rfl, sz2 (m := 10) (n := 8) (by decide +kernel) hz8 (by decide), _, _, rfl, rfl, sz2 (m := 18) (n := 2) p1 (by decide +kernel) (by decide), _, rfl, a, _, _, _, rfl, rfl, ha, rfl, _, rfl, num_log hsm.2, ?_⟩
    rw [num_str hsm.2]
    refine ⟨_, _, rfl, rfl, sz2 (m := 20) (n := 1) p2 (Nat.le_refl 1) (by decide), _, _, rfl, rfl, sz2 (m := 21) (n := 2) p3 (by decide +kernel) (by decide), ?_⟩
    refine qv ?_ (q _ (.refl _ _))
    show V.str (strL (kw "ink ") ++ strL z ++ strL (kw " ") ++ strL (numW n) ++ strL (kw ";")) = _
    rw [strL_app, strL_app, strL_app, strL_app]
    rfl
  | write cell c z lo hi =>
    obtain ⟨a, rfl, ha⟩ := hs
    obtain ⟨h1, h2, h3, h4, h5⟩ := hsm
    have hz8 : (strL z).length ≤ 8 := h3.2
    have hz8' : z.length ≤ 8 := h3.2
    refine ⟨_, rfl, a, _, _, _, rfl, rfl, ha, rfl, rfl, _, rfl, iteDF w_ink ?_⟩
    refine ⟨_, rfl, a, _, _, _, rfl, rfl, ha, rfl, rfl, _, rfl, iteDT rfl ?_⟩
    refine ⟨⟨_, rfl⟩, _, rfl, a, _, _, _, rfl, rfl, ha, rfl, _, rfl, num_log h1, ?_⟩
    rw [num_str h1]
    refine ⟨_, rfl, a, _, _, _, rfl, rfl, ha, rfl, _, rfl, a, _, _, _, rfl, rfl, ha, rfl, _, rfl, a, _, _, _, rfl, rfl, ha, rfl, _, rfl, a, _, _, _, rfl, rfl, ha, rfl, lo, hi, rfl, h4, h5, by show 5 ≤ sizeLine; decide, fun D hD => ?_⟩
    have kD : Kp [] H (upd H D (.lst ([kw "write", numW cell, [c], z, restsT lo hi].map strL |>.map V.str))) := .new hD
    refine ⟨strL (kw " "), D, [kw "write", numW cell, [c], z, restsT lo hi].map strL, rfl, rfl, .inl (SqL.of upd_same), join_sum (by simp only [List.map_cons, List.map_nil, List.sum_cons, List.sum_nil, List.length_cons, List.length_nil, w1, restsT_len, w2]; omega), ?_⟩
    rw [tjoin_L]
    refine ⟨_, _, rfl, rfl, sz2 (m := 900) (n := 2) ll (by decide +kernel) (by decide), ?_⟩
    refine qv ?_ (q _ kD)
    show V.str (strL (lineT (.write cell c z lo hi)) ++ strL (kw ";")) = _
    rw [strL_app]
    rfl
  | reader z st k0 ks =>
    have hs0 := hs
    obtain ⟨a, b, vs, rfl, ha, hb, hvs⟩ := hs
    refine ⟨_, rfl, a, _, _, _, rfl, rfl, ha, rfl, rfl, _, rfl, iteDF r_ink ?_⟩
    refine ⟨_, rfl, a, _, _, _, rfl, rfl, ha, rfl, rfl, _, rfl, iteDF r_write ?_⟩
    refine ⟨_, rfl, a, _, _, _, rfl, rfl, ha, rfl, rfl, _, rfl, iteDT rfl ?_⟩
    refine ⟨_, rfl, _, z, st, k0, ks, rfl, hs0, hsm, fun H1 k1 => ⟨_, _, rfl, rfl, sz2 (m := 900) (n := 2) ll (by decide +kernel) (by decide), ?_⟩⟩
    refine qv ?_ (q _ k1)
    show V.str (strL (lineT (.reader z st k0 ks)) ++ strL (kw ";")) = _
    rw [strL_app]
    rfl
  | reads z =>
    obtain ⟨a, rfl, ha⟩ := hs
    have hz8 : z.length ≤ 8 := hsm.2
    refine ⟨_, rfl, a, _, _, _, rfl, rfl, ha, rfl, rfl, _, rfl, iteDF a_ink ?_⟩
    refine ⟨_, rfl, a, _, _, _, rfl, rfl, ha, rfl, rfl, _, rfl, iteDF a_write ?_⟩
    refine ⟨_, rfl, a, _, _, _, rfl, rfl, ha, rfl, rfl, _, rfl, iteDF a_reader ?_⟩
    refine ⟨_, rfl, _, rfl, a, _, rfl, ha, fun _ => ?_, fun z => absurd ⟨rfl, rfl⟩ z⟩
    refine ⟨a, rfl, ⟨_, ha⟩, fun D hD => lc_tup (xs := ([kw "ask", kw "reads", z].map strL).map V.str) (fun i H1 => Kp [] H H1 ∧ H1 D = some (.lst ((([kw "ask", kw "reads", z].take i).map strL).map V.str))) ⟨.new hD, upd_same⟩ (fun i H _ h => kpT ha h.1) ?_ ?_⟩
    · rintro i x H1 hx ⟨k1, hD1⟩
      rw [List.getElem?_map, List.getElem?_map] at hx
      cases e : [kw "ask", kw "reads", z][i]? with
      | none => rw [e] at hx; cases hx
      | some y =>
        rw [e] at hx
        have hx' : V.str (strL y) = x := Option.some.inj hx
        subst hx'
        have hi : i < 3 := (List.getElem?_eq_some_iff.mp e).1
        refine ⟨rfl, tyes ?_⟩
        refine iteT ?_
        refine ⟨_, rfl, _, rfl, _, hD1, small1000 (by rw [List.length_map, List.length_map, List.length_take]; omega), k1.putN hD, ?_⟩
        rw [upd_same, List.take_succ, e, List.map_append, List.map_append]
        rfl
    rintro H1 ⟨k1, hD1⟩
    have hD2 : H1 D = some (.lst (([kw "ask", kw "reads", z].map strL).map V.str)) := hD1
    have ha1 := kpT ha k1
    refine ⟨fun σ H' => σ = [some (.ref a), some (.ref D), none] ∧ H' = H1, ?_, ?_⟩
    · exact ⟨_, rfl, a, _, _, _, rfl, rfl, ha1, rfl, rfl, _, rfl, iteDF (by decide +kernel) ⟨rfl, rfl⟩⟩
    rintro σ H' ⟨rfl, rfl⟩
    refine ⟨fun σ Hx => σ = [some (.ref a), some (.ref D), none] ∧ Hx = H', ?_, ?_⟩
    · exact ⟨_, rfl, a, _, _, _, rfl, rfl, ha1, rfl, rfl, _, rfl, iteNF rfl ⟨rfl, rfl⟩⟩
    rintro σ Hx ⟨rfl, rfl⟩
    refine ⟨⟨_, rfl⟩, _, rfl, strL (kw " "), D, [kw "ask", kw "reads", z].map strL, rfl, rfl, .inl (SqL.of hD2), join_sum (by simp only [List.map_cons, List.map_nil, List.sum_cons, List.sum_nil, List.length_cons, List.length_nil, w1, w3, w4]; omega), ?_⟩
    rw [tjoin_L]
    refine ⟨_, _, rfl, rfl, sz2 (m := 900) (n := 2) ll (by decide +kernel) (by decide), ?_⟩
    refine qv ?_ (q _ k1)
    show V.str (strL (lineT (.reads z)) ++ strL (kw ";")) = _
    rw [strL_app]
    rfl
  | sure z c =>
    obtain ⟨a, u, rfl, ha, hu⟩ := hs
    have hz8 : z.length ≤ 8 := hsm.1.2
    have lc := clT_small hsm.2.2 1
    refine ⟨_, rfl, a, _, _, _, rfl, rfl, ha, rfl, rfl, _, rfl, iteDF a_ink ?_⟩
    refine ⟨_, rfl, a, _, _, _, rfl, rfl, ha, rfl, rfl, _, rfl, iteDF a_write ?_⟩
    refine ⟨_, rfl, a, _, _, _, rfl, rfl, ha, rfl, rfl, _, rfl, iteDF a_reader ?_⟩
    refine ⟨_, rfl, _, rfl, a, _, rfl, ha, fun z => absurd z.2 (show ¬ HT.sIx 4 4 (some 3) = 4 by decide), fun _ tp htp => ?_⟩
    have kt : Kp [] H (upd H tp (.tup (([kw "ask", kw "sure", z].map strL).map V.str))) := .new htp
    have ht : SqT K (upd H tp (.tup (([kw "ask", kw "sure", z].map strL).map V.str))) tp (([kw "ask", kw "sure", z].map strL).map V.str) := SqT.of upd_same
    have ec : cutV [V.str "ask", V.str "sure", V.str (strL z), u] none (some 3) = ([kw "ask", kw "sure", z].map strL).map V.str := rfl
    rw [ec]
    generalize upd H tp (.tup (([kw "ask", kw "sure", z].map strL).map V.str)) = H0 at kt ht ⊢
    refine ⟨tp, rfl, ⟨_, ht⟩, fun D hD => lc_tup (xs := ([kw "ask", kw "sure", z].map strL).map V.str) (fun i H1 => Kp [] H0 H1 ∧ H1 D = some (.lst ((([kw "ask", kw "sure", z].take i).map strL).map V.str))) ⟨.new hD, upd_same⟩ (fun i H _ h => kpT ht h.1) ?_ ?_⟩
    · rintro i x H1 hx ⟨k1, hD1⟩
      rw [List.getElem?_map, List.getElem?_map] at hx
      cases e : [kw "ask", kw "sure", z][i]? with
      | none => rw [e] at hx; cases hx
      | some y =>
        rw [e] at hx
        have hx' : V.str (strL y) = x := Option.some.inj hx
        subst hx'
        have hi : i < 3 := (List.getElem?_eq_some_iff.mp e).1
        refine ⟨rfl, tyes ?_⟩
        refine iteT ?_
        refine ⟨_, rfl, _, rfl, _, hD1, small1000 (by rw [List.length_map, List.length_map, List.length_take]; omega), k1.putN hD, ?_⟩
        rw [upd_same, List.take_succ, e, List.map_append, List.map_append]
        rfl
    rintro H1 ⟨k1, hD1⟩
    have hD2 : H1 D = some (.lst (([kw "ask", kw "sure", z].map strL).map V.str)) := hD1
    have k01 := kt.trans k1
    have ha1 := kpT ha k01
    have hDH : H D = none := kt.free hD
    refine ⟨fun σ H' => σ = [some (.ref a), some (.ref D), none] ∧ H' = H1, ?_, ?_⟩
    · exact ⟨_, rfl, a, _, _, _, rfl, rfl, ha1, rfl, rfl, _, rfl, iteDF (by decide +kernel) ⟨rfl, rfl⟩⟩
    rintro σ H' ⟨rfl, rfl⟩
    refine ⟨fun σ Hx => σ = [some (.ref a), some (.ref D), none] ∧ Kp [] H Hx ∧ Hx D = some (.lst (([kw "ask", kw "sure", z, clT c 1].map strL).map V.str)), ?_, ?_⟩
    · refine ⟨_, rfl, a, _, _, _, rfl, rfl, ha1, rfl, rfl, _, rfl, iteNT (by decide +kernel) ?_⟩
      refine ⟨_, rfl, .inl ⟨rfl, _, SqL.of hD2⟩, _, rfl, _, rfl, a, _, _, _, rfl, rfl, ha1, rfl, u, c, 1, rfl, hu.kp k01, hsm.2.1, hsm.2.2, hsm.2.2, D, _, _, rfl, rfl, hD2, small1000 (show 3 ≤ 1000 by decide), rfl, k01.putN hDH, ?_⟩
      rw [upd_same]
      rfl
    rintro σ Hx ⟨rfl, kx, hDx⟩
    refine ⟨⟨_, rfl⟩, _, rfl, strL (kw " "), D, [kw "ask", kw "sure", z, clT c 1].map strL, rfl, rfl, .inl (SqL.of hDx), join_sum (by simp only [List.map_cons, List.map_nil, List.sum_cons, List.sum_nil, List.length_cons, List.length_nil, w1, w3, w5]; omega), ?_⟩
    rw [tjoin_L]
    refine ⟨_, _, rfl, rfl, sz2 (m := 900) (n := 2) ll (by decide +kernel) (by decide), ?_⟩
    refine qv ?_ (q _ kx)
    show V.str (strL (lineT (.sure z c)) ++ strL (kw ";")) = _
    rw [strL_app]
    rfl
  | slack z m c =>
    obtain ⟨a, u, rfl, ha, hu⟩ := hs
    have hz8 : z.length ≤ 8 := hsm.1.2
    have lc := clT_small hsm.2.2.2 1
    refine ⟨_, rfl, a, _, _, _, rfl, rfl, ha, rfl, rfl, _, rfl, iteDF a_ink ?_⟩
    refine ⟨_, rfl, a, _, _, _, rfl, rfl, ha, rfl, rfl, _, rfl, iteDF a_write ?_⟩
    refine ⟨_, rfl, a, _, _, _, rfl, rfl, ha, rfl, rfl, _, rfl, iteDF a_reader ?_⟩
    refine ⟨_, rfl, _, rfl, a, _, rfl, ha, fun z => absurd z.2 (show ¬ HT.sIx 5 5 (some 3) = 5 by decide), fun _ tp htp => ?_⟩
    have kt : Kp [] H (upd H tp (.tup (([kw "ask", kw "slack", z].map strL).map V.str))) := .new htp
    have ht : SqT K (upd H tp (.tup (([kw "ask", kw "slack", z].map strL).map V.str))) tp (([kw "ask", kw "slack", z].map strL).map V.str) := SqT.of upd_same
    have ec : cutV [V.str "ask", V.str "slack", V.str (strL z), .int (m : Nat), u] none (some 3) = ([kw "ask", kw "slack", z].map strL).map V.str := rfl
    rw [ec]
    generalize upd H tp (.tup (([kw "ask", kw "slack", z].map strL).map V.str)) = H0 at kt ht ⊢
    refine ⟨tp, rfl, ⟨_, ht⟩, fun D hD => lc_tup (xs := ([kw "ask", kw "slack", z].map strL).map V.str) (fun i H1 => Kp [] H0 H1 ∧ H1 D = some (.lst ((([kw "ask", kw "slack", z].take i).map strL).map V.str))) ⟨.new hD, upd_same⟩ (fun i H _ h => kpT ht h.1) ?_ ?_⟩
    · rintro i x H1 hx ⟨k1, hD1⟩
      rw [List.getElem?_map, List.getElem?_map] at hx
      cases e : [kw "ask", kw "slack", z][i]? with
      | none => rw [e] at hx; cases hx
      | some y =>
        rw [e] at hx
        have hx' : V.str (strL y) = x := Option.some.inj hx
        subst hx'
        have hi : i < 3 := (List.getElem?_eq_some_iff.mp e).1
        refine ⟨rfl, tyes ?_⟩
        refine iteT ?_
        refine ⟨_, rfl, _, rfl, _, hD1, small1000 (by rw [List.length_map, List.length_map, List.length_take]; omega), k1.putN hD, ?_⟩
        rw [upd_same, List.take_succ, e, List.map_append, List.map_append]
        rfl
    rintro H1 ⟨k1, hD1⟩
    have hD2 : H1 D = some (.lst (([kw "ask", kw "slack", z].map strL).map V.str)) := hD1
    have k01 := kt.trans k1
    have hDH : H D = none := kt.free hD
    have ha1 := kpT ha k01
    refine ⟨fun σ Hx => σ = [some (.ref a), some (.ref D), none] ∧ Kp [] H Hx ∧ Hx D = some (.lst (([kw "ask", kw "slack", z, numW m].map strL).map V.str)), ?_, ?_⟩
    · refine ⟨_, rfl, a, _, _, _, rfl, rfl, ha1, rfl, rfl, _, rfl, iteDT rfl ?_⟩
      refine ⟨_, rfl, .inl ⟨rfl, _, SqL.of hD2⟩, _, rfl, a, _, _, _, rfl, rfl, ha1, rfl, _, rfl, num_log hsm.2.1, ?_⟩
      rw [num_str hsm.2.1]
      refine ⟨D, _, _, rfl, rfl, hD2, small1000 (show 3 ≤ 1000 by decide), rfl, k01.putN hDH, ?_⟩
      rw [upd_same]
      rfl
    rintro σ Hy ⟨rfl, ky, hDy⟩
    have hay := kpT ha ky
    refine ⟨fun σ Hx => σ = [some (.ref a), some (.ref D), none] ∧ Kp [] H Hx ∧ Hx D = some (.lst (([kw "ask", kw "slack", z, numW m, clT c 1].map strL).map V.str)), ?_, ?_⟩
    · refine ⟨_, rfl, a, _, _, _, rfl, rfl, hay, rfl, rfl, _, rfl, iteNT (by decide +kernel) ?_⟩
      refine ⟨_, rfl, .inl ⟨rfl, _, SqL.of hDy⟩, _, rfl, _, rfl, a, _, _, _, rfl, rfl, hay, rfl, u, c, 1, rfl, hu.kp ky, hsm.2.2.1, hsm.2.2.2, hsm.2.2.2, D, _, _, rfl, rfl, hDy, small1000 (show 4 ≤ 1000 by decide), rfl, ky.putN hDH, ?_⟩
      rw [upd_same]
      rfl
    rintro σ Hx ⟨rfl, kx, hDx⟩
    refine ⟨⟨_, rfl⟩, _, rfl, strL (kw " "), D, [kw "ask", kw "slack", z, numW m, clT c 1].map strL, rfl, rfl, .inl (SqL.of hDx), join_sum (by simp only [List.map_cons, List.map_nil, List.sum_cons, List.sum_nil, List.length_cons, List.length_nil, w1, w3, w6]; omega), ?_⟩
    rw [tjoin_L]
    refine ⟨_, _, rfl, rfl, sz2 (m := 900) (n := 2) ll (by decide +kernel) (by decide), ?_⟩
    refine qv ?_ (q _ kx)
    show V.str (strL (lineT (.slack z m c)) ++ strL (kw ";")) = _
    rw [strL_app]
    rfl
theorem stT_sum {ss : List Stm} (h : ∀ s ∈ ss, s.Sm) : ((ss.map stT).map (·.length)).sum ≤ ss.length * 901 := by
  have e : (kw ";").length = 1 := by decide +kernel
  induction ss with
  | nil => exact Nat.le_refl 0
  | cons s ss ih =>
    have h1 := lineT_len (h s List.mem_cons_self)
    have h2 := ih fun x hx => h x (List.mem_cons_of_mem _ hx)
    rw [List.map_cons, List.map_cons, List.sum_cons, List.length_cons, stT, List.length_append, e]
    omega
def sp_printed (K : PySem.W.Frag) : Sp := fun vs H Q _ => ∃ (cs : List Nat) (cells : Nat) (ss : List Stm), vs = [.str (strL cs)] ∧ Lex cs (progW cells ss) ∧ cs.length ≤ 2000 ∧ ProgOk cells ss ∧ ∀ H', Kp [] H H' → Q (.str (strL (wholeT cells ss))) H'
theorem sc_printed : FnScope ["text", "cells", "told", "statement"] ["text"] (defScope s_printed) := ⟨rfl, rfl, rfl, by decide +kernel, rfl, by decide +kernel, by decide +kernel⟩
theorem ok_printed (T : Txt w K mg) : FnOk P w K mg base CX0 26 (He.ga K "printed") (fdA K (He.ga K "printed")) ["text"] (sp_printed K) := by
  have G_program_of := ok_program_of (P := P) (base := base) T
  have G_statement_text := ok_statement_text (P := P) (base := base) T
  refine (d_printed T).ok sc_printed (fun vs H Q E h => ?_) (fun cdv A outer s H vs Q E hr h => ?_)
  · obtain ⟨_, _, _, rfl, _⟩ := h; rfl
  obtain ⟨cs, cells, ss, rfl, hlex, hlen, ok, q⟩ := h
  have hsm : ∀ s ∈ ss, s.Sm := fun s hs => by
    obtain ⟨i, hi⟩ := List.mem_iff_getElem?.mp hs
    exact (vprog_at ok.v hi).1
  have hc : cells < 10 := by have := ok.c1; omega
  have hsn := ok.n
  refine ⟨_, (pss_cons (ps_asg (pcall (d_program_of T) G_program_of (hr.mono (by decide)) (pa_cons (pv 0) pa_nil)) (pg_tup rfl (pgs_cons (pg_name (i := 1) sc_printed.nd rfl (Or.inl rfl)) (pgs_cons (pg_name (i := 2) sc_printed.nd rfl (Or.inl rfl)) pgs_nil))))
      (pss_one (ps_ret (pe_join pe_str (pe_lst (pa_cons (pe_op op_add_str (pe_op op_add_str pe_str (pe_callTy call_str_int (by rfl) (f_str T) bb_str (pa_cons (pv 1) pa_nil))) pe_str) (pa_star (pe_lc (own := [("statement", 3)]) rfl sc_printed.nd (pi_list (pv 2)) (blkOk_by (own := [("statement", 3)]) (N := ["text", "cells", "told", "statement"]) (sc := defScope s_printed) (by decide +kernel)) (fun _ _ _ _ _ => (pg_name (i := 3) sc_printed.nd rfl (Or.inl rfl))) (fun _ _ _ _ _ => pts_nil) (fun _ _ _ _ _ => (pcall (d_statement_text T) G_statement_text (hr.mono (by decide)) (pa_cons (pv 3) pa_nil)))) pa_nil))))))), ?_⟩
  refine ⟨_, rfl, cs, cells, ss, rfl, hlex, hlen, ok, fun H1 a f tv k1 ha hf hfH htv => ?_⟩
  refine ⟨a, _, rfl, ha, rfl, _, _, rfl, _, _, rfl, rfl, ?_⟩
  have htl : tv.length = ss.length := paired_len htv
  refine ⟨⟨_, rfl⟩, _, rfl, _, rfl, num_log hc, ?_⟩
  rw [num_str hc]
  refine ⟨_, _, rfl, rfl, sz2 (m := 9) (n := 1) (by decide +kernel) (Nat.le_refl 1) (by decide), _, _, rfl, rfl, sz2 (m := 10) (n := 2) (apl (m := 9) (n := 1) (by decide +kernel) (Nat.le_refl 1)) (by decide +kernel) (by decide), ?_⟩
  refine ⟨_, rfl, f, rfl, ⟨_, SqL.of hf⟩, fun D hD => lc_list (xs := tv) (fun i H' => Kp [] H1 H' ∧ H' D = some (.lst ((((ss.take i).map stT).map strL).map V.str))) ⟨.new hD, upd_same⟩ (fun i H' _ h => SqL.of (h.1.keep _ _ hf (by simp))) ?_ ?_⟩
  · rintro i x H2 hx ⟨k2, hD2⟩
    obtain ⟨st, hst, hiv⟩ := paired_at htv hx
    have hi : i < tv.length := (List.getElem?_eq_some_iff.mp hx).1
    refine ⟨rfl, tyes ?_⟩
    refine iteT ?_
    refine ⟨_, rfl, _, st, rfl, hiv.kp k2, hsm st (List.mem_of_getElem? hst), fun H3 k3 => ⟨_, k3.keep _ _ hD2 (by simp), small1000 (by rw [List.length_map, List.length_map, List.length_map, List.length_take]; omega), (k2.trans k3).putN hD, ?_⟩⟩
    rw [upd_same, List.take_succ, hst, List.map_append, List.map_append, List.map_append]
    rfl
  rintro H2 ⟨k2, hD2⟩
  rw [htl, List.take_length] at hD2
  have hhd : strL (kw "cells ") ++ strL (numW cells) ++ strL (kw ";") = strL (kw "cells " ++ numW cells ++ kw ";") := by rw [strL_app, strL_app]
  refine ⟨D, _, rfl, .inr (SqL.of hD2), by rw [List.length_cons, List.length_append, List.length_map, List.length_map, List.length_map]; exact szl (by show ss.length + 0 + 1 ≤ 16000; omega), fun B hB => ?_⟩
  have kB : ∀ o, Kp [] H2 (upd H2 B o) := fun o => .new hB
  refine ⟨strL (kw "\n"), B, ((kw "cells " ++ numW cells ++ kw ";") :: ss.map stT).map strL, rfl, rfl, .inl (SqL.of ?_), join_sum ?_, ?_⟩
  · rw [upd_same]
    show some (HO.lst (V.str (strL (kw "cells ") ++ strL (numW cells) ++ strL (kw ";")) :: _)) = _
    rw [hhd, List.append_nil]
    rfl
  · have e1 : (kw "cells ").length = 6 := by decide +kernel
    have e2 : (kw ";").length = 1 := by decide +kernel
    have e3 : (kw "\n").length = 1 := by decide +kernel
    have := stT_sum hsm
    rw [List.map_cons, List.sum_cons, List.length_cons, List.length_map, List.length_append, List.length_append, e1, e2, e3]
    have e4 : (numW cells).length = 1 := rfl
    rw [e4]
    omega
  · rw [tjoin_L]
    exact q _ ((k1.trans k2).trans (kB _))
end
end Ink
set_option Elab.async false
set_option linter.all false
set_option pp.maxSteps 150
set_option maxRecDepth 100000
set_option maxHeartbeats 4000000
namespace Ink
open PySem PySem.Spec PyProof.Rows L2 StX
def PWr.wr (names : List (List Nat)) (x : PWr) : Wr := ⟨(x.cell : Nat), x.c, (names.idxOf x.z : Nat), (x.lo : Nat), (x.hi : Nat)⟩
def PSt.pl (cells : Nat) (S : PSt) : Pl := ⟨(cells : Nat), S.inks.map (fun x => ((x.2 : Nat) : Int)), S.ws.map (PWr.wr S.names)⟩
def rdOf (d : Option Nat × List PLk) : Rdr := ⟨d.1, d.2.map PLk.lk⟩
def Stm.isAsk : Stm → Option (List Nat)
  | .reads z => some z
  | .sure z _ => some z
  | .slack z _ _ => some z
  | _ => none
abbrev Ask := Pl × Rdr × Stm
def askOf (cells : Nat) (S : PSt) (s : Stm) : List Ask := match s.isAsk with
  | none => []
  | some z => match S.rd z with
    | none => []
    | some d => [(S.pl cells, rdOf d, s)]
def asksOf (cells : Nat) : PSt → List Stm → List Ask
  | _, [] => []
  | S, s :: ss => askOf cells S s ++ asksOf cells (S.next s) ss
/-- what a run needs besides -/
def VRun (cells : Nat) : PSt → List Stm → Prop
  | _, [] => True
  | S, s :: ss => (∀ z, s.isAsk = some z → ∃ d, S.rd z = some d ∧ S.inks ≠ [] ∧ (S.pl cells).Ok ∧ (rdOf d).Ok (S.pl cells)) ∧ VRun cells (S.next s) ss
def IsAns (K : PySem.W.Frag) (H : Hp) (v : V) (x : Ask) : Prop := match x.2.2 with
  | .reads _ => ∃ (a : Addr) (ys : List Str) (zs : List (List Nat)), v = .ref a ∧ SqT K H a (ys.map V.str) ∧ ys.Perm (zs.map strL) ∧ sortedS ys = true ∧ zs.Nodup ∧ ∀ z, z ∈ zs ↔ Rds x.1 x.2.1 z
  | .sure _ c => ∃ b : Bool, v = .bl b ∧ (b = true ↔ ∀ z, Rds x.1 x.2.1 z → clSo z c = true)
  | .slack _ _ c => (v = .int 0 ∧ ∀ z, Rds x.1 x.2.1 z → clSo z c = true) ∨ (v = .non ∧ ∃ z, Rds x.1 x.2.1 z ∧ clSo z c = false)
  | _ => False
theorem IsAns.kp {K : PySem.W.Frag} {S : List Addr} {H H' : Hp} {v : V} {x : Ask} (h : IsAns K H v x) (k : Kp S H H') : IsAns K H' v x := by
  obtain ⟨p, r, s⟩ := x
  cases s with
  | reads z => obtain ⟨a, ys, zs, e, h1, h2⟩ := h; exact ⟨a, ys, zs, e, kpT h1 k, h2⟩
  | sure z c => exact h
  | slack z m c => exact h
  | ink _ _ => exact h
  | write _ _ _ _ _ => exact h
  | reader _ _ _ _ => exact h
theorem Kp.unlock {H H1 : Hp} {d : Addr} {u : HO} {od : Obj} (hd : H d = some u) (m : isMut u = true) (k : Kp [] (upd H d (.frz od u)) H1) : Kp [] H (upd H1 d u) := by
  refine ⟨fun b o e _ => ?_, fun b xs e => ?_, fun b o v e => ?_⟩
  · by_cases q : b = d
    · subst q; rw [upd_same]; rw [hd] at e; exact e
    · rw [upd_ne q]; exact k.keep b o (by rw [upd_ne q]; exact e) (by simp)
  · by_cases q : b = d
    · subst q; rw [hd] at e; cases e; cases m
    · rw [upd_ne q]; exact k.tup b xs (by rw [upd_ne q]; exact e)
  · by_cases q : b = d
    · subst q; rw [hd] at e; cases e; cases m
    · rw [upd_ne q]; exact k.frz b o v (by rw [upd_ne q]; exact e)
structure QB where
  b : Addr
  dx : Addr
  il : Addr
  wl : Addr
  rl : Addr
def qfs (cells : Nat) (il wl rl : Addr) : List (Str × V) := [("cells", .int (cells : Nat)), ("inks", .ref il), ("writes", .ref wl), ("readers", .ref rl)]
theorem qfs_cells (c : Nat) (il wl rl : Addr) : (qfs c il wl rl).lookup ("cells" : Str) = some (.int (c : Nat)) := by kernel_rfl
theorem qfs_inks (c : Nat) (il wl rl : Addr) : (qfs c il wl rl).lookup ("inks" : Str) = some (.ref il) := by kernel_rfl
theorem qfs_writes (c : Nat) (il wl rl : Addr) : (qfs c il wl rl).lookup ("writes" : Str) = some (.ref wl) := by kernel_rfl
theorem qfs_readers (c : Nat) (il wl rl : Addr) : (qfs c il wl rl).lookup ("readers" : Str) = some (.ref rl) := by kernel_rfl
theorem qfs_no (c : Nat) (il wl rl : Addr) : (qfs c il wl rl).lookup ("plan" : Str) = none ∧ (qfs c il wl rl).lookup ("answer" : Str) = none := by refine ⟨?_, ?_⟩ <;> kernel_rfl
def rnInks (S : PSt) : List (Key × V) := S.inks.map fun x => ((Sum.inr (strL x.1) : Key), V.int (x.2 : Nat))
structure Rn (K : PySem.W.Frag) (H : Hp) (N : QB) (cells : Nat) (S : PSt) : Prop where
  ins : H N.b = some (.ins (He.ga K "Runner") N.dx (qfs cells N.il N.wl N.rl))
  il : H N.il = some (.dK (rnInks S))
  wl : ∃ vs, H N.wl = some (.lst vs) ∧ Paired (IsWr K H) vs (S.pl cells).ws
  rl : ∃ kvs : List (Key × V), H N.rl = some (.dK kvs) ∧ Paired (fun kv x => kv.1 = Sum.inr (strL x.1) ∧ IsRdr K H kv.2 (rdOf x.2)) kvs S.rds
  nd : S.names.Nodup
  ir : N.il ≠ N.rl
def QB.S (N : QB) : List Addr := [N.b, N.il, N.wl, N.rl]
theorem Rn.kp {K : PySem.W.Frag} {H H' : Hp} {N : QB} {cells : Nat} {S : PSt} {T : List Addr} (h : Rn K H N cells S) (k : Kp T H H') (hb : N.b ∉ T) (hi : N.il ∉ T) (hw : N.wl ∉ T) (hr : N.rl ∉ T) : Rn K H' N cells S := by
  obtain ⟨vs, w1, w2⟩ := h.wl
  obtain ⟨kvs, r1, r2⟩ := h.rl
  exact ⟨k.keep _ _ h.ins hb, k.keep _ _ h.il hi, ⟨vs, k.keep _ _ w1 hw, pkp w2 fun _ _ z => z.kp k⟩, ⟨kvs, k.keep _ _ r1 hr, pkp r2 fun _ _ z => ⟨z.1, z.2.kp k⟩⟩, h.nd, h.ir⟩
theorem Rn.kp0 {K : PySem.W.Frag} {H H' : Hp} {N : QB} {cells : Nat} {S : PSt} (h : Rn K H N cells S) (k : Kp [] H H') : Rn K H' N cells S := h.kp k (by simp) (by simp) (by simp) (by simp)
theorem find_nodup {β : Type} : ∀ {l : List (List Nat × β)} {x : List Nat × β}, (l.map (·.1)).Nodup → x ∈ l → (l.find? fun y => decide (y.1 = x.1)) = some x
  | [], _, _, h => by cases h
  | y :: l, x, nd, h => by
    rw [List.map_cons, List.nodup_cons] at nd
    rw [List.find?_cons]
    rcases List.mem_cons.mp h with e | h
    · subst e; rw [decide_eq_true rfl]
    · have : y.1 ≠ x.1 := fun e => nd.1 (List.mem_map.mpr ⟨x, h, e.symm⟩)
      rw [decide_eq_false this]
      exact find_nodup nd.2 h
theorem dp_ints {K : PySem.W.Frag} {H : Hp} : ∀ ns : List Int, DpAll K H (ns.map V.int) (ns.map PyData.int)
  | [] => .nil
  | n :: ns => .cons (.int n) (dp_ints ns)
theorem lay_ints : ∀ ns : List Int, PyData.canLayAll0 (ns.map PyData.int) = true ∧ PyData.depthAll (ns.map PyData.int) = 0
  | [] => ⟨rfl, rfl⟩
  | n :: ns => by
    obtain ⟨h1, h2⟩ := lay_ints ns
    refine ⟨?_, ?_⟩
    · show (true && PyData.canLayAll0 _) = true
      rw [h1]; rfl
    · show max 0 (PyData.depthAll _) = 0
      rw [h2]; rfl
theorem shaped_ints (ns : List Int) : SeqAt.shaped (.tuple (ns.map PyData.int)) = true := by
  obtain ⟨h1, h2⟩ := lay_ints ns
  have e1 : (PyData.tuple (ns.map PyData.int)).canLay0 = true := h1
  have e2 : (PyData.tuple (ns.map PyData.int)).depth ≤ 64 := by show PyData.depthAll _ + 1 ≤ 64; rw [h2]; decide
  unfold SeqAt.shaped
  rw [e1, decide_eq_true e2]
  rfl
section
variable {P : Program} {w : World} {K : PySem.W.Frag} {mg : Str → Option Value} {base : Heap}
def sp_Runner_plan (K : PySem.W.Frag) : Sp := fun vs H Q _ => ∃ (N : QB) (cells : Nat) (S : PSt), vs = [.ref N.b] ∧ Rn K H N cells S ∧ S.inks ≠ [] ∧ (S.pl cells).Ok ∧ ∀ H' v, Kp [] H H' → IsPl K H' v (S.pl cells) → Q v H'
theorem sc_Runner_plan : FnScope ["self", "stays", "name"] ["self"] (defScope s_Runner_plan) := ⟨rfl, rfl, rfl, by decide +kernel, rfl, by decide +kernel, by decide +kernel⟩
theorem ok_Runner_plan (T : Txt w K mg) : FnOk P w K mg base CX0 1 (He.ma K (He.ga K "Runner") "plan") (fdA K (He.ma K (He.ga K "Runner") "plan")) ["self"] (sp_Runner_plan K) := by
  refine (m_Runner_plan T).ok sc_Runner_plan (fun vs H Q E h => ?_) (fun cdv A outer s H vs Q E hr h => ?_)
  · obtain ⟨_, _, _, rfl, _⟩ := h; rfl
  obtain ⟨N, cells, S, rfl, hN, hne, ok, q⟩ := h
  have hn1 := ok.n1
  have hsl : (S.pl cells).stays.length = S.inks.length := by show (S.inks.map _).length = _; rw [List.length_map]
  refine ⟨_, (pss_cons (ps_set (i := 1) sc_Runner_plan.nd rfl (Or.inl rfl) (pe_callTy call_tuple_of (by rfl) (f_tuple T) bb_tuple (pa_cons (pe_lock (pe_lc (own := [("name", 2)]) rfl sc_Runner_plan.nd (pi_keys (pe_fld (pv 0) rfl)) (blkOk_by (own := [("name", 2)]) (N := ["self", "stays", "name"]) (sc := defScope s_Runner_plan) (by decide +kernel)) (fun _ _ _ _ _ => (pg_name (i := 2) sc_Runner_plan.nd rfl (Or.inl rfl))) (fun _ _ _ _ _ => pts_nil) (fun _ _ _ _ _ => (pe_dget (hu_of hr) (pe_fldK (K := K) rfl (pv 0) rfl) (pv 2) (fun _ _ => rfl))))) pa_nil)))
      (pss_one (ps_ret (pe_tup (pa_cons (pe_fld (pv 0) rfl) (pa_cons (pe_ifExp (pt_cmpR (op_neD hr.units) (pv 1) (pe_tup pa_nil) (nomark _)) (pv 1) (pe_tup (pa_cons pe_int pa_nil))) (pa_cons (pe_callTy call_tuple_of (by rfl) (f_tuple T) bb_tuple (pa_cons (pe_fld (pv 0) rfl) pa_nil)) pa_nil))))))), ?_⟩
  refine ⟨N.il, _, hN.il, trivial, fun od => ?_⟩
  have nbi : N.b ≠ N.il := ne_of hN.ins hN.il (by intro z; cases z)
  have hb1 : upd H N.il (.frz od (.dK (rnInks S))) N.b = some (.ins (He.ga K "Runner") N.dx (qfs cells N.il N.wl N.rl)) := by rw [upd_ne nbi]; exact hN.ins
  have hi1 : upd H N.il (.frz od (.dK (rnInks S))) N.il = some (.frz od (.dK (rnInks S))) := upd_same
  have hrl : (rnInks S).length = S.inks.length := by unfold rnInks; rw [List.length_map]
  refine ⟨_, rfl, N.b, _, N.dx, _, _, rfl, hb1, cl_Runner T, n_Runner_inks T, qfs_inks _ _ _ _, ?_⟩
  refine ⟨N.il, od, rfl, .inl ⟨rnInks S, hi1, fun D hD => lc_it walk_keys (fun i H' => Kp [] (upd H N.il (.frz od (.dK (rnInks S)))) H' ∧ H' D = some (.lst ((((S.inks.take i).map fun x => ((x.2 : Nat) : Int))).map V.int))) ⟨.new hD, upd_same⟩ (fun i H' _ h => h.1.keep _ _ hi1 (by simp)) ?_ ?_⟩⟩
  · rintro i x H1 H2 hi ⟨k1, hD1⟩ ⟨rfl, k, v, hkv, rfl⟩
    have hi' : i < S.inks.length := by omega
    have hik : S.inks[i]? = some S.inks[i] := List.getElem?_eq_getElem hi'
    have e1 : (rnInks S)[i]? = some (Sum.inr (strL (S.inks[i]).1), V.int ((S.inks[i]).2 : Nat)) := by unfold rnInks; rw [List.getElem?_map, hik]; rfl
    rw [e1] at hkv
    obtain ⟨rfl, rfl⟩ := Prod.mk.inj (Option.some.inj hkv)
    refine ⟨rfl, tyes ?_⟩
    refine iteT ?_
    have hbx := k1.keep _ _ hb1 (by simp)
    have hix := k1.keep _ _ hi1 (by simp)
    have hval : valV (rnInks S) (.inr (strL (S.inks[i]).1)) = some (.int ((S.inks[i]).2 : Nat)) := by
      unfold rnInks
      rw [valV_strs (fun (n : Nat) => V.int (n : Nat)), find_nodup hN.nd (List.getElem_mem hi')]
      rfl
    have g : DGet H2 N.il (.str (strL (S.inks[i]).1)) (some (.int ((S.inks[i]).2 : Nat))) := .inl ⟨rnInks S, .inr (strL (S.inks[i]).1), .inr ⟨od, hix⟩, rfl, hval.symm⟩
    refine ⟨_, rfl, N.b, _, N.dx, _, _, rfl, hbx, cl_Runner T, n_Runner_inks T, qfs_inks _ _ _ _, _, rfl, N.il, _, rfl, g, _, hD1, small1000 (by rw [List.length_map, List.length_map, List.length_take]; omega), k1.putN hD, ?_⟩
    rw [upd_same, List.take_succ, hik, List.map_append, List.map_append]
    rfl
  rintro H1 ⟨k1, hD1⟩
  rw [hrl, List.take_length] at hD1
  have hix := k1.keep _ _ hi1 (by simp)
  refine ⟨hix, ?_⟩
  have k2 : Kp [] H (upd H1 N.il (.dK (rnInks S))) := Kp.unlock hN.il rfl k1
  have nDi : D ≠ N.il := fun e => by rw [e, hi1] at hD; cases hD
  have hD2 : upd H1 N.il (.dK (rnInks S)) D = some (.lst ((S.inks.map fun x => ((x.2 : Nat) : Int)).map V.int)) := by rw [upd_ne nDi]; exact hD1
  generalize upd H1 N.il (.dK (rnInks S)) = H2 at k2 hD2 ⊢
  refine ⟨D, _, rfl, .inl ⟨SqL.of hD2, fun ts hts => ?_⟩⟩
  have k3 := k2.newT (p := ts) (o := .tup ((S.inks.map fun x => ((x.2 : Nat) : Int)).map V.int)) hts
  have ht3 : SqT K (upd H2 ts (.tup ((S.inks.map fun x => ((x.2 : Nat) : Int)).map V.int))) ts ((S.inks.map fun x => ((x.2 : Nat) : Int)).map V.int) := SqT.of upd_same
  generalize upd H2 ts (.tup ((S.inks.map fun x => ((x.2 : Nat) : Int)).map V.int)) = H3 at k3 ht3 ⊢
  have hN3 := hN.kp0 k3
  refine ⟨_, rfl, N.b, _, N.dx, _, _, rfl, hN3.ins, cl_Runner T, n_Runner_cells T, qfs_cells _ _ _ _, ?_⟩
  refine ⟨_, rfl, by show 0 ≤ sizeLine; decide, fun t0 ht0 => ?_⟩
  have k4 := k3.newT (p := t0) (o := .tup []) ht0
  have ht4 := kpT ht3 (Kp.new (S := []) (o := .tup []) ht0)
  have he4 : SqT K (upd H3 t0 (.tup [])) t0 [] := SqT.of upd_same
  generalize upd H3 t0 (.tup []) = H4 at k4 ht4 he4 ⊢
  refine ⟨_, _, .tup ht4 (dp_ints _), .tup he4 .nil, shaped_ints _, rfl, _, rfl, ?_⟩
  have hev : PyData.eqv (.tuple ((S.inks.map fun x => ((x.2 : Nat) : Int)).map PyData.int)) (.tuple []) = false := by
    cases h : S.inks with
    | nil => exact absurd h hne
    | cons x xs => rfl
  rw [hev]
  refine iteE rfl ⟨_, rfl, ?_⟩
  have hN4 := hN.kp0 k4
  obtain ⟨wv, w1, w2⟩ := hN4.wl
  refine ⟨_, rfl, N.b, _, N.dx, _, _, rfl, hN4.ins, cl_Runner T, n_Runner_writes T, qfs_writes _ _ _ _, N.wl, _, rfl, .inl ⟨SqL.of w1, fun tw htw => ⟨by show 3 ≤ sizeLine; decide, fun tp htp => ?_⟩⟩⟩
  have kw' : Kp [] H4 (upd (upd H4 tw (.tup wv)) tp (.tup [.int (cells : Nat), .ref ts, .ref tw])) := (Kp.new htw).newT htp
  exact q _ _ (k4.trans kw') ⟨tp, ts, tw, wv, rfl, SqT.of upd_same, kpT ht4 kw', kpT (SqT.of (upd_same (H := H4) (a := tw))) (Kp.new (S := []) htp), pkp w2 fun _ _ z => z.kp kw'⟩
def sp_Runner_answer (K : PySem.W.Frag) : Sp := fun vs H Q _ => ∃ (N : QB) (cells : Nat) (S : PSt) (v : V) (s : Stm) (z : List Nat) (d : Option Nat × List PLk), vs = [.ref N.b, v] ∧ Rn K H N cells S ∧ IsStm K H v s ∧ s.isAsk = some z ∧ s.Sm ∧ VStm cells S s ∧ S.rd z = some d ∧ S.inks ≠ [] ∧ (S.pl cells).Ok ∧ (rdOf d).Ok (S.pl cells) ∧
  ∀ H' u, Kp [] H H' → IsAns K H' u (S.pl cells, rdOf d, s) → Q u H'
theorem rd_at {K : PySem.W.Frag} {H : Hp} {z : List Nat} {d : Option Nat × List PLk} {kvs : List (Key × V)} {rds : List (List Nat × (Option Nat × List PLk))} (p : Paired (fun kv x => kv.1 = Sum.inr (strL x.1) ∧ IsRdr K H kv.2 (rdOf x.2)) kvs rds) :
    (rds.find? fun x => decide (x.1 = z)).map (·.2) = some d → ∃ v, valV kvs (.inr (strL z)) = some v ∧ IsRdr K H v (rdOf d) := by
  induction p with
  | nil => intro h; cases h
  | cons h p ih =>
    rename_i kv x _ _
    intro e
    by_cases q : x.1 = z
    · rw [List.find?_cons, decide_eq_true q] at e
      have e' : x.2 = d := Option.some.inj e
      exact ⟨kv.2, valV_pos (by rw [h.1, q]), by rw [← e']; exact h.2⟩
    · rw [List.find?_cons, decide_eq_false q] at e
      obtain ⟨v, h1, h2⟩ := ih e
      exact ⟨v, by rw [valV_neg (fun e => q (strL_inj (Sum.inr.inj (h.1.symm.trans e))))]; exact h1, h2⟩
theorem vstm_d {cells : Nat} {S : PSt} {d : Option Nat × List PLk} : (∀ {z c}, VStm cells S (.sure z c) → S.rd z = some d → c.Ok (rdOf d).looks.length ∧ c.ht < 4 ∧ c.parts ≤ 20) ∧ ∀ {z m c}, VStm cells S (.slack z m c) → S.rd z = some d → c.Ok (rdOf d).looks.length ∧ c.ht < 4 ∧ c.parts ≤ 20 ∧ m = 0 := by
  have e : (rdOf d).looks.length = d.2.length := by show (d.2.map PLk.lk).length = _; rw [List.length_map]
  refine ⟨fun {z c} h hd => ?_, fun {z m c} h hd => ?_⟩
  · obtain ⟨d', h1, h2, h3, h4⟩ := h
    rw [hd] at h1; cases h1
    exact ⟨by rw [e]; exact h2, h3, h4⟩
  · obtain ⟨d', h1, h2, h3, h4, h5⟩ := h
    rw [hd] at h1; cases h1
    exact ⟨by rw [e]; exact h2, h3, h4, h5⟩
theorem sc_Runner_answer : FnScope ["self", "told", "reader"] ["self", "told"] (defScope s_Runner_answer) := ⟨rfl, rfl, rfl, by decide +kernel, rfl, by decide +kernel, by decide +kernel⟩
theorem ok_Runner_answer (T : Txt w K mg) : FnOk P w K mg base CX0 11 (He.ma K (He.ga K "Runner") "answer") (fdA K (He.ma K (He.ga K "Runner") "answer")) ["self", "told"] (sp_Runner_answer K) := by
  have G_Runner_plan := ok_Runner_plan (P := P) (base := base) T
  have G_readings_of := ok_readings_of (P := P) (base := base) T
  have G_breaking := ok_breaking (P := P) (base := base) T
  have G_slack := ok_slack (P := P) (base := base) T
  refine (m_Runner_answer T).ok sc_Runner_answer (fun vs H Q E h => ?_) (fun cdv A outer s H vs Q E hr h => ?_)
  · obtain ⟨_, _, _, _, _, _, _, rfl, _⟩ := h; rfl
  obtain ⟨N, cells, S, v, st, z, d, rfl, hN, hs, hask, hsm, hv, hd, hne, pok, rok, q⟩ := h
  refine ⟨_, (pss_cons (ps_set (i := 2) sc_Runner_answer.nd rfl (Or.inl rfl) (pe_dget (hu_of hr) (pe_fld (pv 0) rfl) (pe_ix ix_tup (pv 1) pe_int (fun _ _ => rfl)) (fun _ _ => rfl)))
      (pss_cons (ps_if (pt_cmpR op_eq (pe_ix ix_tup (pv 1) pe_int (fun _ _ => rfl)) pe_str (nomark _)) (pss_one (ps_ret (pe_callTy call_tuple_of (by rfl) (f_tuple T) bb_tuple (pa_cons (pcall (d_readings_of T) G_readings_of (hr.mono (by decide)) (pa_cons (pmeth0 (pv 0) (cl_Runner T) (a_Runner_plan T) (m_Runner_plan T) G_Runner_plan (hr.mono (by decide))) (pa_cons (pv 2) pa_nil))) pa_nil)))) pss_nil)
      (pss_cons (ps_if (pt_cmpR op_eq (pe_ix ix_tup (pv 1) pe_int (fun _ _ => rfl)) pe_str (nomark _)) (pss_one (ps_ret (pe_cmpR op_isN (pcall (d_breaking T) G_breaking (hr.mono (by decide)) (pa_cons (pmeth0 (pv 0) (cl_Runner T) (a_Runner_plan T) (m_Runner_plan T) G_Runner_plan (hr.mono (by decide))) (pa_cons (pv 2) (pa_cons (pe_ix ix_tup (pv 1) pe_int (fun _ _ => rfl)) pa_nil)))) pe_non (nomark _)))) pss_nil)
      (pss_one (ps_ret (pcall (d_slack T) G_slack (hr.mono (by decide)) (pa_cons (pmeth0 (pv 0) (cl_Runner T) (a_Runner_plan T) (m_Runner_plan T) G_Runner_plan (hr.mono (by decide))) (pa_cons (pv 2) (pa_cons (pe_ix ix_tup (pv 1) pe_int (fun _ _ => rfl)) (pa_cons (pe_ix ix_tup (pv 1) pe_int (fun _ _ => rfl)) pa_nil)))))))))), ?_⟩
  obtain ⟨kvs, r1, r2⟩ := hN.rl
  obtain ⟨rv, hval, hrd⟩ := rd_at r2 hd
  have g := DGet.k (k := .inr (strL z)) r1
  rw [hval] at g
  cases st with
  | ink _ _ => cases hask
  | write _ _ _ _ _ => cases hask
  | reader _ _ _ _ => cases hask
  | reads z' =>
    have ez : z' = z := Option.some.inj hask
    subst ez
    obtain ⟨a, rfl, ha⟩ := hs
    refine ⟨_, rfl, N.b, _, N.dx, _, _, rfl, hN.ins, cl_Runner T, n_Runner_readers T, qfs_readers _ _ _ _, _, rfl, a, _, _, _, rfl, rfl, ha, rfl, N.rl, _, rfl, g, ?_⟩
    refine ⟨_, rfl, a, _, _, _, rfl, rfl, ha, rfl, rfl, _, rfl, iteDT rfl ?_⟩
    refine ⟨_, rfl, N.b, N.dx, _, rfl, hN.ins, (qfs_no _ _ _ _).1, N, cells, S, rfl, hN, hne, pok, fun H1 pv k1 hpv => ⟨_, rfl, pv, rv, _, _, rfl, hpv, pok, hrd.kp k1, rok, fun H2 l ys zs k2 hl hl2 hp hso hnd hiff => ⟨l, _, rfl, .inl ⟨SqL.of hl2, fun t ht => ?_⟩⟩⟩⟩
    exact q _ _ ((k1.trans k2).newT ht) ⟨t, ys, zs, rfl, SqT.of upd_same, hp, hso, hnd, hiff⟩
  | sure z' c =>
    have ez : z' = z := Option.some.inj hask
    subst ez
    obtain ⟨a, u, rfl, ha, hu⟩ := hs
    obtain ⟨c1, c2, c3⟩ := vstm_d.1 hv hd
    refine ⟨_, rfl, N.b, _, N.dx, _, _, rfl, hN.ins, cl_Runner T, n_Runner_readers T, qfs_readers _ _ _ _, _, rfl, a, _, _, _, rfl, rfl, ha, rfl, N.rl, _, rfl, g, ?_⟩
    refine ⟨_, rfl, a, _, _, _, rfl, rfl, ha, rfl, rfl, _, rfl, iteDF (by decide +kernel) ?_⟩
    refine ⟨_, rfl, a, _, _, _, rfl, rfl, ha, rfl, rfl, _, rfl, iteDT rfl ?_⟩
    refine ⟨_, rfl, N.b, N.dx, _, rfl, hN.ins, (qfs_no _ _ _ _).1, N, cells, S, rfl, hN, hne, pok, fun H1 pv k1 hpv => ⟨_, rfl, _, rfl, a, _, _, _, rfl, rfl, kpT ha k1, rfl, pv, rv, _, _, u, c, rfl, hpv, pok, hrd.kp k1, rok, hu.kp k1, c1, c2, fun H2 x k2 hx => ⟨rfl, q _ _ (k1.trans k2) ⟨_, rfl, ?_⟩⟩⟩⟩
    rcases hx with ⟨rfl, hall⟩ | ⟨⟨b, rfl⟩, y, hy, hno⟩
    · exact ⟨fun _ => hall, fun _ => rfl⟩
    · exact ⟨fun e => (by simp at e), fun h => by have := h y hy; rw [hno] at this; cases this⟩
  | slack z' m c =>
    have ez : z' = z := Option.some.inj hask
    subst ez
    obtain ⟨a, u, rfl, ha, hu⟩ := hs
    obtain ⟨c1, c2, c3, rfl⟩ := vstm_d.2 hv hd
    refine ⟨_, rfl, N.b, _, N.dx, _, _, rfl, hN.ins, cl_Runner T, n_Runner_readers T, qfs_readers _ _ _ _, _, rfl, a, _, _, _, rfl, rfl, ha, rfl, N.rl, _, rfl, g, ?_⟩
    refine ⟨_, rfl, a, _, _, _, rfl, rfl, ha, rfl, rfl, _, rfl, iteDF (by decide +kernel) ?_⟩
    refine ⟨_, rfl, a, _, _, _, rfl, rfl, ha, rfl, rfl, _, rfl, iteDF (by decide +kernel) ?_⟩
    refine ⟨_, rfl, N.b, N.dx, _, rfl, hN.ins, (qfs_no _ _ _ _).1, N, cells, S, rfl, hN, hne, pok, fun H1 pv k1 hpv => ⟨_, rfl, _, rfl, a, _, _, _, rfl, rfl, kpT ha k1, rfl, _, rfl, a, _, _, _, rfl, rfl, kpT ha k1, rfl, pv, rv, _, _, u, c, rfl, hpv, pok, hrd.kp k1, rok, hu.kp k1, c1, c2, c3, fun H2 x k2 hx => q _ _ (k1.trans k2) ?_⟩⟩
    exact hx
def sp_Runner_init (K : PySem.W.Frag) : Sp := fun vs H Q _ => ∃ (x dx : Addr) (n : Nat), vs = [.ref x, .int (n : Nat)] ∧ H x = some (.ins (He.ga K "Runner") dx []) ∧
  ∀ H' N, Kp [x] H H' → N.b = x → H N.il = none → H N.wl = none → H N.rl = none → Rn K H' N n S0 → Q .non H'
theorem sc_Runner_init : FnScope ["self", "cells"] ["self", "cells"] (defScope s_Runner_init) := ⟨rfl, rfl, rfl, by decide +kernel, rfl, by decide +kernel, by decide +kernel⟩
theorem ok_Runner_init (T : Txt w K mg) : FnOk P w K mg base CX0 1 (He.ma K (He.ga K "Runner") "__init__") (fdA K (He.ma K (He.ga K "Runner") "__init__")) ["self", "cells"] (sp_Runner_init K) := by
  refine (m_Runner_init T).ok sc_Runner_init (fun vs H Q E h => ?_) (fun cdv A outer s H vs Q E hr h => ?_)
  · obtain ⟨_, _, _, rfl, _⟩ := h; rfl
  obtain ⟨x, dx, n, rfl, hx, q⟩ := h
  refine ⟨_, (pss_cons (ps_fld (pv 0) (pv 1) rfl)
      (pss_cons (ps_fld (pv 0) pe_dnewK rfl)
      (pss_cons (ps_fld (pv 0) (pe_lst pa_nil) rfl)
      (pss_one (ps_fld (pv 0) pe_dnewK rfl))))), ?_⟩
  refine ⟨_, rfl, _, rfl, x, _, dx, _, rfl, hx, cl_Runner T, n_Runner_cells T, (by show 0 < 1000; decide), ?_⟩
  have k1 : Kp [x] H (upd H x (.ins (He.ga K "Runner") dx (putF "cells" (.int (n : Nat)) []))) := .put (by simp) hx rfl
  have hx1 : (upd H x (.ins (He.ga K "Runner") dx (putF "cells" (.int (n : Nat)) []))) x = some (.ins (He.ga K "Runner") dx (putF "cells" (.int (n : Nat)) [])) := upd_same
  generalize upd H x (.ins (He.ga K "Runner") dx (putF "cells" (.int (n : Nat)) [])) = H1 at k1 hx1 ⊢
  have free : ∀ {H' : Hp} {p : Addr} {o : HO}, Kp [x] H H' → H' x = some o → H' p = none → H p = none := fun k e h => k.freeS (fun a ha => by rw [List.mem_singleton.mp ha]; exact ⟨_, e⟩) h
  refine fun il hil => ?_
  have nxi : x ≠ il := fun e => by rw [← e, hx1] at hil; cases hil
  have hilH := free k1 hx1 hil
  have k2 := k1.newT (p := il) (o := .dK []) hil
  have hx2 : upd H1 il (.dK []) x = some (.ins (He.ga K "Runner") dx (putF "cells" (.int (n : Nat)) [])) := by rw [upd_ne nxi]; exact hx1
  have hi2 : upd H1 il (.dK []) il = some (.dK []) := upd_same
  generalize upd H1 il (.dK []) = H2 at k2 hx2 hi2 ⊢
  refine ⟨_, rfl, x, _, dx, _, rfl, hx2, cl_Runner T, n_Runner_inks T, (by show 1 < 1000; decide), ?_⟩
  have k3 : Kp [x] H (upd H2 x (.ins (He.ga K "Runner") dx (putF "inks" (.ref il) (putF "cells" (.int (n : Nat)) [])))) := k2.trans (.put (by simp) hx2 rfl)
  have hx3 : upd H2 x (.ins (He.ga K "Runner") dx (putF "inks" (.ref il) (putF "cells" (.int (n : Nat)) []))) x = some (.ins (He.ga K "Runner") dx (putF "inks" (.ref il) (putF "cells" (.int (n : Nat)) []))) := upd_same
  have hi3 : upd H2 x (.ins (He.ga K "Runner") dx (putF "inks" (.ref il) (putF "cells" (.int (n : Nat)) []))) il = some (.dK []) := by rw [upd_ne nxi.symm]; exact hi2
  generalize upd H2 x (.ins (He.ga K "Runner") dx (putF "inks" (.ref il) (putF "cells" (.int (n : Nat)) []))) = H3 at k3 hx3 hi3 ⊢
  refine ⟨by show 0 ≤ sizeLine; decide, fun wl hwl => ?_⟩
  have hwlH := free k3 hx3 hwl
  have k4 := k3.newT (p := wl) (o := .lst []) hwl
  have hx4 : upd H3 wl (.lst []) x = some (.ins (He.ga K "Runner") dx (putF "inks" (.ref il) (putF "cells" (.int (n : Nat)) []))) := by rw [upd_ne (ne_of_none hx3 hwl)]; exact hx3
  have hi4 : upd H3 wl (.lst []) il = some (.dK []) := by rw [upd_ne (ne_of_none hi3 hwl)]; exact hi3
  have hw4 : upd H3 wl (.lst []) wl = some (.lst []) := upd_same
  generalize upd H3 wl (.lst []) = H4 at k4 hx4 hi4 hw4 ⊢
  have nxw : x ≠ wl := ne_of hx4 hw4 (by intro z; cases z)
  refine ⟨_, rfl, x, _, dx, _, rfl, hx4, cl_Runner T, n_Runner_writes T, (by show 2 < 1000; decide), ?_⟩
  have k5 : Kp [x] H (upd H4 x (.ins (He.ga K "Runner") dx (putF "writes" (.ref wl) (putF "inks" (.ref il) (putF "cells" (.int (n : Nat)) []))))) := k4.trans (.put (by simp) hx4 rfl)
  have hx5 : upd H4 x (.ins (He.ga K "Runner") dx (putF "writes" (.ref wl) (putF "inks" (.ref il) (putF "cells" (.int (n : Nat)) [])))) x = some (.ins (He.ga K "Runner") dx (putF "writes" (.ref wl) (putF "inks" (.ref il) (putF "cells" (.int (n : Nat)) [])))) := upd_same
  have hi5 : upd H4 x (.ins (He.ga K "Runner") dx (putF "writes" (.ref wl) (putF "inks" (.ref il) (putF "cells" (.int (n : Nat)) [])))) il = some (.dK []) := by rw [upd_ne nxi.symm]; exact hi4
  have hw5 : upd H4 x (.ins (He.ga K "Runner") dx (putF "writes" (.ref wl) (putF "inks" (.ref il) (putF "cells" (.int (n : Nat)) [])))) wl = some (.lst []) := by rw [upd_ne nxw.symm]; exact hw4
  generalize upd H4 x (.ins (He.ga K "Runner") dx (putF "writes" (.ref wl) (putF "inks" (.ref il) (putF "cells" (.int (n : Nat)) [])))) = H5 at k5 hx5 hi5 hw5 ⊢
  refine fun rl hrl => ?_
  have hrlH := free k5 hx5 hrl
  have k6 := k5.newT (p := rl) (o := .dK []) hrl
  have hx6 : upd H5 rl (.dK []) x = some (.ins (He.ga K "Runner") dx (putF "writes" (.ref wl) (putF "inks" (.ref il) (putF "cells" (.int (n : Nat)) [])))) := by rw [upd_ne (ne_of_none hx5 hrl)]; exact hx5
  refine ⟨_, rfl, x, _, dx, _, rfl, hx6, cl_Runner T, n_Runner_readers T, (by show 3 < 1000; decide), ?_⟩
  have e : putF "readers" (V.ref rl) (putF "writes" (.ref wl) (putF "inks" (.ref il) (putF "cells" (.int (n : Nat)) []))) = qfs n il wl rl := by kernel_rfl
  rw [e]
  have nxr : x ≠ rl := ne_of_none hx5 hrl
  refine q _ ⟨x, dx, il, wl, rl⟩ (k6.trans (.put (p := x) (by simp) hx6 rfl)) rfl hilH hwlH hrlH ⟨upd_same, ?_, ⟨[], ?_, .nil⟩, ⟨[], ?_, .nil⟩, List.nodup_nil, ne_of_none hi5 hrl⟩
  · show upd _ x _ il = _
    rw [upd_ne nxi.symm, upd_ne (ne_of_none hi5 hrl)]; exact hi5
  · show upd _ x _ wl = _
    rw [upd_ne nxw.symm, upd_ne (ne_of_none hw5 hrl)]; exact hw5
  · show upd _ x _ rl = _
    rw [upd_ne nxr.symm, upd_same]
end
end Ink
set_option Elab.async false
set_option linter.all false
set_option pp.maxSteps 150
set_option maxRecDepth 100000
set_option maxHeartbeats 4000000
namespace Ink
open PySem PySem.Spec PyProof.Rows L2 StX
theorem asks_snoc {cells : Nat} {s : Stm} : ∀ {ss : List Stm} {S : PSt}, asksOf cells S (ss ++ [s]) = asksOf cells S ss ++ askOf cells (ss.foldl PSt.next S) s
  | [], S => by show askOf cells S s ++ [] = [] ++ askOf cells S s; simp
  | t :: ss, S => by
    show askOf cells S t ++ asksOf cells (S.next t) (ss ++ [s]) = (askOf cells S t ++ asksOf cells (S.next t) ss) ++ _
    rw [asks_snoc, List.append_assoc]
    rfl
theorem vrun_at {cells : Nat} : ∀ {ss : List Stm} {S : PSt} {i : Nat} {s : Stm}, VRun cells S ss → ss[i]? = some s → ∀ z, s.isAsk = some z → ∃ d, ((ss.take i).foldl PSt.next S).rd z = some d ∧ ((ss.take i).foldl PSt.next S).inks ≠ [] ∧ (((ss.take i).foldl PSt.next S).pl cells).Ok ∧ (rdOf d).Ok (((ss.take i).foldl PSt.next S).pl cells)
  | [], _, i, _, _, h => by cases i <;> cases h
  | t :: ss, S, 0, s, hv, h => by cases h; exact hv.1
  | t :: ss, S, i + 1, s, hv, h => vrun_at (ss := ss) (S := S.next t) (i := i) hv.2 h
theorem find_none' {β : Type} {z : List Nat} {l : List (List Nat × β)} (h : z ∉ l.map (·.1)) : (l.find? fun x => decide (x.1 = z)) = none := by
  rw [List.find?_eq_none]
  intro x hx e
  exact h (List.mem_map.mpr ⟨x, hx, of_decide_eq_true e⟩)
theorem rd_none {K : PySem.W.Frag} {H : Hp} {z : List Nat} {kvs : List (Key × V)} {rds : List (List Nat × (Option Nat × List PLk))} (p : Paired (fun kv x => kv.1 = Sum.inr (strL x.1) ∧ IsRdr K H kv.2 (rdOf x.2)) kvs rds) :
    (rds.find? fun x => decide (x.1 = z)).map (·.2) = none → valV kvs (.inr (strL z)) = none := by
  induction p with
  | nil => intro _; rfl
  | cons h p ih =>
    rename_i kv x _ _
    intro e
    by_cases q : x.1 = z
    · rw [List.find?_cons, decide_eq_true q] at e; cases e
    · rw [List.find?_cons, decide_eq_false q] at e
      rw [valV_neg (fun e => q (strL_inj (Sum.inr.inj (h.1.symm.trans e))))]
      exact ih e
/-- the names of a state -/
structure PInv (S : PSt) : Prop where
  nd : S.names.Nodup
  wz : ∀ x ∈ S.ws, x.z ∈ S.names
theorem PInv.next {cells : Nat} {S : PSt} {s : Stm} (h : PInv S) (hv : VStm cells S s) : PInv (S.next s) := by
  cases s with
  | ink z n =>
    have e : (S.next (.ink z n)).names = S.names ++ [z] := by show (S.inks ++ [(z, n)]).map (·.1) = _; rw [List.map_append]; rfl
    refine ⟨?_, fun x hx => ?_⟩
    · rw [e, List.nodup_append]
      refine ⟨h.nd, by simp, fun a ha b hb q => ?_⟩
      have : b = z := by simpa using hb
      exact hv.1 (this ▸ q ▸ ha)
    · rw [e]; exact List.mem_append_left _ (h.wz x hx)
  | write cell c z lo hi =>
    refine ⟨h.nd, fun x hx => ?_⟩
    rcases List.mem_append.mp hx with q | q
    · exact h.wz x q
    · have : x = ⟨cell, c, z, lo, hi⟩ := by simpa using q
      subst this; exact hv.2.1
  | reader z st k0 ks => exact ⟨h.nd, h.wz⟩
  | reads z => exact h
  | sure z c => exact h
  | slack z m c => exact h
theorem idxOf_c (x z : List Nat) (l : List (List Nat)) : (x :: l).idxOf z = if x = z then 0 else l.idxOf z + 1 := by
  rw [List.idxOf_cons]
  by_cases h : x = z
  · rw [if_pos h, show (x == z) = true from beq_iff_eq.mpr h]; rfl
  · rw [if_neg h, show (x == z) = false from beq_eq_false_iff_ne.mpr h]; rfl
theorem idxOf_app {z : List Nat} {m : List (List Nat)} : ∀ {l : List (List Nat)}, z ∈ l → (l ++ m).idxOf z = l.idxOf z
  | [], h => by cases h
  | x :: l, h => by
    rw [List.cons_append, idxOf_c, idxOf_c]
    by_cases q : x = z
    · rw [if_pos q, if_pos q]
    · rw [if_neg q, if_neg q]
      rcases List.mem_cons.mp h with e | e
      · exact absurd e.symm q
      · rw [idxOf_app e]
theorem ws_ink {S : PSt} (h : PInv S) {z : List Nat} {n cells : Nat} : ((S.next (.ink z n)).pl cells).ws = (S.pl cells).ws := by
  have e : (S.next (.ink z n)).names = S.names ++ [z] := by show (S.inks ++ [(z, n)]).map (·.1) = _; rw [List.map_append]; rfl
  show S.ws.map (PWr.wr (S.next (.ink z n)).names) = S.ws.map (PWr.wr S.names)
  rw [e]
  refine List.map_congr_left fun x hx => ?_
  unfold PWr.wr
  rw [idxOf_app (h.wz x hx)]
theorem eqV_str (a b : List Nat) : eqV (.str (strL a)) (.str (strL b)) = decide (a = b) := by
  show (strL a == strL b) = _
  by_cases h : a = b
  · subst h; simp
  · rw [decide_eq_false h]
    exact beq_eq_false_iff_ne.mpr fun e => h (strL_inj e)
theorem idx_at {z : List Nat} : ∀ {l : List (List Nat)}, z ∈ l → l[l.idxOf z]? = some z ∧ ∀ m y, m < l.idxOf z → l[m]? = some y → y ≠ z
  | [], h => by cases h
  | x :: l, h => by
    by_cases q : x = z
    · subst q
      rw [idxOf_c, if_pos rfl]
      exact ⟨rfl, fun m y hm => by omega⟩
    · have hz : z ∈ l := by rcases List.mem_cons.mp h with e | e; exact absurd e.symm q; exact e
      obtain ⟨h1, h2⟩ := idx_at hz
      rw [idxOf_c, if_neg q]
      refine ⟨h1, fun m y hm hy => ?_⟩
      cases m with
      | zero => cases hy; exact q
      | succ m => exact h2 m y (by omega) hy
section
variable {P : Program} {w : World} {K : PySem.W.Frag} {mg : Str → Option Value} {base : Heap}
def sp_run (K : PySem.W.Frag) : Sp := fun vs H Q _ => ∃ (cs : List Nat) (cells : Nat) (ss : List Stm), vs = [.str (strL cs)] ∧ Lex cs (progW cells ss) ∧ cs.length ≤ 2000 ∧ ProgOk cells ss ∧ VRun cells S0 ss ∧
  ∀ H' a vs, Kp [] H H' → SqT K H' a vs → Paired (IsAns K H') vs (asksOf cells S0 ss) → Q (.ref a) H'
theorem sc_run : FnScope ["text", "cells", "told", "runner", "found", "statement", "cell", "sign", "name", "low", "high"] ["text"] (defScope s_run) := ⟨rfl, rfl, rfl, by decide +kernel, rfl, by decide +kernel, by decide +kernel⟩
set_option maxHeartbeats 8000000 in
theorem ok_run (T : Txt w K mg) : FnOk P w K mg base CX0 26 (He.ga K "run") (fdA K (He.ga K "run")) ["text"] (sp_run K) := by
  have G_program_of := ok_program_of (P := P) (base := base) T
  have G_Runner_init := ok_Runner_init (P := P) (base := base) T
  have G_Runner_answer := ok_Runner_answer (P := P) (base := base) T
  refine (d_run T).ok sc_run (fun vs H Q E h => ?_) (fun cdv A outer s H vs Q E hr h => ?_)
  · obtain ⟨_, _, _, rfl, _⟩ := h; rfl
  obtain ⟨cs, cells, ss, rfl, hlex, hlen, ok, vr, q⟩ := h
  have hsn := ok.n
  refine ⟨_, (pss_cons (ps_asg (pcall (d_program_of T) G_program_of (hr.mono (by decide)) (pa_cons (pv 0) pa_nil)) (pg_tup rfl (pgs_cons (pg_name (i := 1) sc_run.nd rfl (Or.inl rfl)) (pgs_cons (pg_name (i := 2) sc_run.nd rfl (Or.inl rfl)) pgs_nil))))
      (pss_cons (ps_par (i := 3) (j := 4) rfl sc_run.nd rfl rfl (by decide) rfl rfl (pa_cons (pmake (mk_Runner T) (c_Runner T) (m_Runner_init T) G_Runner_init (hr.mono (by decide)) (pa_cons (pv 1) pa_nil)) (pa_cons (pe_lst pa_nil) pa_nil)) (by rfl))
      (pss_cons (ps_for PassesOwn.never rfl (pi_list (pv 2)) (pg_name (i := 5) sc_run.nd rfl (Or.inl rfl)) (pss_one (ps_if (pt_cmpR op_eq (pe_ix ix_tup (pv 5) pe_int (fun _ _ => rfl)) pe_str (nomark _)) (pss_one (ps_dput (hu_of hr) (pe_fld (pv 3) rfl) (pe_ix ix_tup (pv 5) pe_int (fun _ _ => rfl)) (pe_ix ix_tup (pv 5) pe_int (fun _ _ => rfl)) rfl)) (pss_one (ps_if (pt_cmpR op_eq (pe_ix ix_tup (pv 5) pe_int (fun _ _ => rfl)) pe_str (nomark _)) (pss_cons (ps_asg (pe_slice sl_tupA (pv 5) (po_some pe_int) po_none) (pg_tup rfl (pgs_cons (pg_name (i := 6) sc_run.nd rfl (Or.inl rfl)) (pgs_cons (pg_name (i := 7) sc_run.nd rfl (Or.inl rfl)) (pgs_cons (pg_name (i := 8) sc_run.nd rfl (Or.inl rfl)) (pgs_cons (pg_name (i := 9) sc_run.nd rfl (Or.inl rfl)) (pgs_cons (pg_name (i := 10) sc_run.nd rfl (Or.inl rfl)) pgs_nil)))))))
      (pss_one (ps_expr (pe_bm PySem.F.plainAttrs_list PySem.F.slot_list_append PySem.F.type_list_append mt_append (pe_fld (pv 3) rfl) (pa_cons (pe_tup (pa_cons (pv 6) (pa_cons (pv 7) (pa_cons (pe_bm PySem.F.plainAttrs_list PySem.F.slot_list_index PySem.F.type_list_index mt_index (pe_callTy (call_listD rfl) (by rfl) (f_list T) bb_list (pa_cons (pe_fld (pv 3) rfl) pa_nil)) (pa_cons (pv 8) pa_nil)) (pa_cons (pv 9) (pa_cons (pv 10) pa_nil)))))) pa_nil))))) (pss_one (ps_if (pt_cmpR op_eq (pe_ix ix_tup (pv 5) pe_int (fun _ _ => rfl)) pe_str (nomark _)) (pss_one (ps_dput (hu_of hr) (pe_fld (pv 3) rfl) (pe_ix ix_tup (pv 5) pe_int (fun _ _ => rfl)) (pe_tup (pa_cons (pe_ix ix_tup (pv 5) pe_int (fun _ _ => rfl)) (pa_cons (pe_ix ix_tup (pv 5) pe_int (fun _ _ => rfl)) pa_nil))) rfl)) (pss_one (ps_expr (pe_bm PySem.F.plainAttrs_list PySem.F.slot_list_append PySem.F.type_list_append mt_append (pv 4) (pa_cons (pmeth (pv 3) (cl_Runner T) (a_Runner_answer T) (m_Runner_answer T) G_Runner_answer (hr.mono (by decide)) (pa_cons (pv 5) pa_nil)) pa_nil)))))))))))
      (pss_one (ps_ret (pe_callTy call_tuple_of (by rfl) (f_tuple T) bb_tuple (pa_cons (pv 4) pa_nil))))))), ?_⟩
  refine ⟨_, rfl, cs, cells, ss, rfl, hlex, hlen, ok, fun H1 a f tv k1 ha hf hfH htv => ?_⟩
  refine ⟨a, _, rfl, ha, rfl, _, _, rfl, _, _, rfl, rfl, ?_⟩
  refine ⟨_, rfl, fun y dy hy hdy ne2 => ⟨y, dy, cells, rfl, upd_same, fun H2 N k2 hNb hNi hNw hNr hN => ⟨rfl, ?_⟩⟩⟩
  have k12 : Kp [] H1 (upd (upd H1 dy (.own y)) y (.ins (He.ga K "Runner") dy [])) := ((Kp.refl [] H1).putN hdy).putN hy
  have k2' : Kp [] H1 H2 := k12.drop1 k2 hy
  subst hNb
  have hNi1 : H1 N.il = none := (upd_none (upd_none hNi).2).2
  have hNw1 : H1 N.wl = none := (upd_none (upd_none hNw).2).2
  have hNr1 : H1 N.rl = none := (upd_none (upd_none hNr).2).2
  refine ⟨by show 0 ≤ sizeLine; decide, fun fd hfd => ⟨_, _, rfl, ?_⟩⟩
  have kfd : Kp [] H2 (upd H2 fd (.lst [])) := .new hfd
  have hN3 := hN.kp0 kfd
  have hfd3 : upd H2 fd (.lst []) fd = some (.lst []) := upd_same
  have hfd1 : H1 fd = none := k2'.free hfd
  have nfw : fd ≠ N.wl := fun e => by obtain ⟨_, h, _⟩ := hN.wl; rw [← e, hfd] at h; cases h
  have k3 := k2'.newT (p := fd) (o := .lst []) hfd
  generalize upd H2 fd (.lst []) = H3 at hN3 hfd3 k3 ⊢
  have hf3 := k3.keep _ _ hf (by simp)
  have nS : ∀ x, x ∈ N.S ++ [fd] → H1 x = none := fun x hx => by
    have : x = N.b ∨ x = N.il ∨ x = N.wl ∨ x = N.rl ∨ x = fd := by simpa [QB.S] using hx
    rcases this with e | e | e | e | e
    · rw [e]; exact hy
    · rw [e]; exact hNi1
    · rw [e]; exact hNw1
    · rw [e]; exact hNr1
    · rw [e]; exact hfd1
  have nfS : f ∉ N.S ++ [fd] := fun m => by have := nS f m; rw [hf] at this; cases this
  have htl : tv.length = ss.length := paired_len htv
  refine ⟨_, rfl, f, rfl, ⟨_, SqL.of hf3⟩, for_list (xs := tv) (fun i σ H' => ∃ o5 o6 o7 o8 o9 o10 av, σ = [some (.str (strL cs)), some (.int (cells : Nat)), some (.ref f), some (.ref N.b), some (.ref fd), o5, o6, o7, o8, o9, o10] ∧ Kp (N.S ++ [fd]) H3 H' ∧ Rn K H' N cells ((ss.take i).foldl PSt.next S0) ∧ PInv ((ss.take i).foldl PSt.next S0) ∧
      H' fd = some (.lst av) ∧ Paired (IsAns K H') av (asksOf cells S0 (ss.take i)) ∧ av.length ≤ i)
    ⟨_, _, _, _, _, _, [], rfl, .refl _ _, hN3, ⟨List.nodup_nil, fun x hx => by cases hx⟩, hfd3, .nil, Nat.le_refl _⟩ (fun i σ H' _ h => by obtain ⟨_, _, _, _, _, _, _, _, k, _⟩ := h; exact SqL.of (k.keep _ _ hf3 nfS)) ?_ ?_⟩
  · rintro i v σ H4 hv ⟨o5, o6, o7, o8, o9, o10, av, rfl, k4, hN4, hI4, hfd4, hav, hal⟩
    obtain ⟨st, hst, hiv⟩ := paired_at htv hv
    have hi : i < ss.length := (List.getElem?_eq_some_iff.mp hst).1
    obtain ⟨sm, vst⟩ := vprog_at ok.v hst
    have vrn := vrun_at vr hst
    have hiv4 := (hiv.kp k3).kp k4
    have hI5 := hI4.next vst
    have etake : ss.take (i + 1) = ss.take i ++ [st] := by rw [List.take_succ, hst]; rfl
    have enext : (ss.take (i + 1)).foldl PSt.next S0 = ((ss.take i).foldl PSt.next S0).next st := next_take hst
    have easks : asksOf cells S0 (ss.take (i + 1)) = asksOf cells S0 (ss.take i) ++ askOf cells ((ss.take i).foldl PSt.next S0) st := by rw [etake, asks_snoc]
    rw [enext, easks]
    generalize (ss.take i).foldl PSt.next S0 = S at *
    generalize asksOf cells S0 (ss.take i) = as at *
    have nfb : fd ≠ N.b := ne_of hfd4 hN4.ins (by intro z; cases z)
    have nfi : fd ≠ N.il := ne_of hfd4 hN4.il (by intro z; cases z)
    obtain ⟨wv, w1, w2⟩ := hN4.wl
    obtain ⟨kvs, r1, r2⟩ := hN4.rl
    have nfr : fd ≠ N.rl := ne_of hfd4 r1 (by intro z; cases z)
    have nbi : N.b ≠ N.il := ne_of hN4.ins hN4.il (by intro z; cases z)
    have nbw : N.b ≠ N.wl := ne_of hN4.ins w1 (by intro z; cases z)
    have nbr : N.b ≠ N.rl := ne_of hN4.ins r1 (by intro z; cases z)
    have niw : N.il ≠ N.wl := ne_of hN4.il w1 (by intro z; cases z)
    have nwr : N.wl ≠ N.rl := ne_of w1 r1 (by intro z; cases z)
    have nir := hN4.ir
    cases st with
    | ink z n =>
      obtain ⟨t, rfl, ht⟩ := hiv4
      obtain ⟨v1, v2, v3, v4, v5⟩ := vst
      have eask : askOf cells S (.ink z n) = [] := rfl
      rw [eask, List.append_nil]
      refine ⟨_, rfl, t, _, _, _, rfl, rfl, ht, rfl, rfl, _, rfl, iteDT rfl ?_⟩
      have hnone : valV (rnInks S) (.inr (strL z)) = none := by
        unfold rnInks
        rw [valV_strs (fun (n : Nat) => V.int (n : Nat)), find_none' v1]
        rfl
      have hl : (rnInks S).length = S.inks.length := by unfold rnInks; rw [List.length_map]
      refine ⟨_, rfl, t, _, _, _, rfl, rfl, ht, rfl, _, rfl, N.b, _, N.dx, _, _, rfl, hN4.ins, cl_Runner T, n_Runner_inks T, qfs_inks _ _ _ _, _, rfl, t, _, _, _, rfl, rfl, ht, rfl, N.il, _, rfl, DPut.k (k := .inr (strL z)) hN4.il (Nat.lt_trans (show (rnInks S).length < 5 by omega) (by decide)), ?_⟩
      rw [putK_new _ hnone]
      have ki : Kp [N.il] H4 (upd H4 N.il (.dK (rnInks S ++ [(.inr (strL z), .int (n : Nat))]))) := .put (by simp) hN4.il rfl
      refine ⟨_, _, _, _, _, _, av, rfl, k4.trans (ki.mono (by simp [QB.S])), ⟨ki.keep _ _ hN4.ins (by simp [nbi]), ?_, ⟨wv, ki.keep _ _ w1 (by simp [niw.symm]), ?_⟩, ⟨kvs, ki.keep _ _ r1 (by simp [nir.symm]), pkp r2 fun _ _ z => ⟨z.1, z.2.kp ki⟩⟩, hI5.nd, nir⟩, hI5, ki.keep _ _ hfd4 (by simp [nfi]), pkp hav fun _ _ z => z.kp ki, by omega⟩
      · rw [upd_same]
        show some (HO.dK _) = some (HO.dK ((S.inks ++ [(z, n)]).map _))
        rw [List.map_append]
        rfl
      · rw [ws_ink hI4]
        exact pkp w2 fun _ _ z => z.kp ki
    | write cell c z lo hi =>
      obtain ⟨t, rfl, ht⟩ := hiv4
      obtain ⟨v1, v2, v3, v4, v5⟩ := vst
      have eask : askOf cells S (.write cell c z lo hi) = [] := rfl
      rw [eask, List.append_nil]
      refine ⟨_, rfl, t, _, _, _, rfl, rfl, ht, rfl, rfl, _, rfl, iteDF w_ink ?_⟩
      refine ⟨_, rfl, t, _, _, _, rfl, rfl, ht, rfl, rfl, _, rfl, iteDT rfl ?_⟩
      refine ⟨_, rfl, _, rfl, t, _, rfl, ht, fun z => absurd z.1 (show ¬ HT.sIx 6 0 (some 1) = 0 by decide), fun _ tp htp => ?_⟩
      have ec : cutV [V.str "write", V.int (cell : Nat), V.str (sg c), V.str (strL z), V.int (lo : Nat), V.int (hi : Nat)] (some 1) none = [V.int (cell : Nat), V.str (sg c), V.str (strL z), V.int (lo : Nat), V.int (hi : Nat)] := rfl
      rw [ec]
      have kt : Kp [] H4 (upd H4 tp (.tup [V.int (cell : Nat), V.str (sg c), V.str (strL z), V.int (lo : Nat), V.int (hi : Nat)])) := .new htp
      have ht5 : SqT K (upd H4 tp (.tup [V.int (cell : Nat), V.str (sg c), V.str (strL z), V.int (lo : Nat), V.int (hi : Nat)])) tp [V.int (cell : Nat), V.str (sg c), V.str (strL z), V.int (lo : Nat), V.int (hi : Nat)] := SqT.of upd_same
      generalize upd H4 tp (.tup [V.int (cell : Nat), V.str (sg c), V.str (strL z), V.int (lo : Nat), V.int (hi : Nat)]) = H5 at kt ht5 ⊢
      refine ⟨tp, _, rfl, ht5, rfl, _, _, rfl, _, _, rfl, _, _, rfl, _, _, rfl, _, _, rfl, rfl, ?_⟩
      have hb5 := kt.keep _ _ hN4.ins (by simp)
      have hi5 := kt.keep _ _ hN4.il (by simp)
      have hw5 := kt.keep _ _ w1 (by simp)
      have hwl : wv.length = S.ws.length := by rw [paired_len w2]; show (S.ws.map _).length = _; rw [List.length_map]
      obtain ⟨x1, x2⟩ := idx_at v2
      have ekv : (rnInks S).map (fun kv => kV kv.1) = S.names.map fun x => V.str (strL x) := by unfold rnInks PSt.names; rw [List.map_map, List.map_map]; rfl
      refine ⟨_, rfl, N.b, _, N.dx, _, _, rfl, hb5, cl_Runner T, n_Runner_writes T, qfs_writes _ _ _ _, .inl ⟨rfl, _, SqL.of hw5⟩, _, rfl, _, rfl, _, rfl, N.b, _, N.dx, _, _, rfl, hb5, cl_Runner T, n_Runner_inks T, qfs_inks _ _ _ _, N.il, _, rfl, .inl hi5, fun l hl => ?_⟩
      rw [ekv]
      have kl := kt.newT (p := l) (o := .lst (S.names.map fun x => V.str (strL x))) hl
      have hl6 : SqL K (upd H5 l (.lst (S.names.map fun x => V.str (strL x)))) l (S.names.map fun x => V.str (strL x)) := SqL.of upd_same
      have hw6 := (Kp.new (S := []) hl (o := .lst (S.names.map fun x => V.str (strL x)))).keep _ _ hw5 (by simp)
      generalize upd H5 l (.lst (S.names.map fun x => V.str (strL x))) = H6 at kl hl6 hw6 ⊢
      refine ⟨.inl ⟨rfl, _, hl6⟩, _, rfl, l, _, _, S.names.idxOf z, _, rfl, rfl, hl6, rfl, flat_strs _, (by rw [List.getElem?_map, x1]; rfl), (by rw [eqV_str]; exact decide_eq_true rfl), (fun m y hm hy => ?_), ?_⟩
      · rw [List.getElem?_map] at hy
        obtain ⟨y', hy', rfl⟩ := Option.map_eq_some_iff.mp hy
        rw [eqV_str]
        exact decide_eq_false (x2 m y' hm hy')
      refine ⟨_, rfl, _, rfl, by show 5 ≤ sizeLine; decide, fun tw htw => ?_⟩
      have kw' := kl.newT (p := tw) (o := .tup [.int (cell : Nat), .str (sg c), .int (S.names.idxOf z : Nat), .int (lo : Nat), .int (hi : Nat)]) htw
      have htw7 : SqT K (upd H6 tw (.tup [.int (cell : Nat), .str (sg c), .int (S.names.idxOf z : Nat), .int (lo : Nat), .int (hi : Nat)])) tw [.int (cell : Nat), .str (sg c), .int (S.names.idxOf z : Nat), .int (lo : Nat), .int (hi : Nat)] := SqT.of upd_same
      generalize upd H6 tw (.tup [.int (cell : Nat), .str (sg c), .int (S.names.idxOf z : Nat), .int (lo : Nat), .int (hi : Nat)]) = H7 at kw' htw7 ⊢
      have hw7 := kw'.keep _ _ w1 (by simp)
      refine ⟨N.wl, wv, _, rfl, rfl, hw7, small1000 (by omega), ?_⟩
      have kx : Kp [N.wl] H7 (upd H7 N.wl (.lst (wv ++ [.ref tw]))) := .put (by simp) hw7 rfl
      have ky : Kp [N.wl] H4 (upd H7 N.wl (.lst (wv ++ [.ref tw]))) := kw'.mono0.trans kx
      refine ⟨_, _, _, _, _, _, av, rfl, k4.trans (ky.mono (by simp [QB.S])), ⟨ky.keep _ _ hN4.ins (by simp [nbw]), ky.keep _ _ hN4.il (by simp [niw]), ⟨wv ++ [.ref tw], upd_same, ?_⟩, ⟨kvs, ky.keep _ _ r1 (by simp [nwr.symm]), pkp r2 fun _ _ z => ⟨z.1, z.2.kp ky⟩⟩, hI5.nd, nir⟩, hI5, ?_, pkp hav fun _ _ z => z.kp ky, by omega⟩
      · have e : ((S.next (.write cell c z lo hi)).pl cells).ws = (S.pl cells).ws ++ [PWr.wr S.names ⟨cell, c, z, lo, hi⟩] := by
          show (S.ws ++ [_]).map _ = S.ws.map _ ++ _
          rw [List.map_append]
          rfl
        rw [e]
        exact paired_snoc (pkp w2 fun _ _ z => z.kp ky) ⟨tw, rfl, kpT htw7 kx⟩
      · exact ky.keep _ _ hfd4 (by simp [nfw])
    | reader z stt k0 ks =>
      obtain ⟨t, b, vs, rfl, ht, hb, hvs⟩ := hiv4
      obtain ⟨v1, v2, v3, v4, v5, v6⟩ := vst
      have eask : askOf cells S (.reader z stt k0 ks) = [] := rfl
      rw [eask, List.append_nil]
      refine ⟨_, rfl, t, _, _, _, rfl, rfl, ht, rfl, rfl, _, rfl, iteDF r_ink ?_⟩
      refine ⟨_, rfl, t, _, _, _, rfl, rfl, ht, rfl, rfl, _, rfl, iteDF r_write ?_⟩
      refine ⟨_, rfl, t, _, _, _, rfl, rfl, ht, rfl, rfl, _, rfl, iteDT rfl ?_⟩
      have hnone : valV kvs (.inr (strL z)) = none := rd_none r2 v2
      have hkl : kvs.length = S.rds.length := paired_len r2
      refine ⟨_, rfl, t, _, _, _, rfl, rfl, ht, rfl, _, rfl, t, _, _, _, rfl, rfl, ht, rfl, by show 2 ≤ sizeLine; decide, fun tr htr => ?_⟩
      have k5 : Kp [] H4 (upd H4 tr (.tup [startV stt, .ref b])) := .new htr
      have htr5 : SqT K (upd H4 tr (.tup [startV stt, .ref b])) tr [startV stt, .ref b] := SqT.of upd_same
      generalize upd H4 tr (.tup [startV stt, .ref b]) = H5 at k5 htr5 ⊢
      have hN5 := hN4.kp0 k5
      have r5 := k5.keep _ _ r1 (by simp)
      refine ⟨_, rfl, N.b, _, N.dx, _, _, rfl, hN5.ins, cl_Runner T, n_Runner_readers T, qfs_readers _ _ _ _, _, rfl, t, _, _, _, rfl, rfl, kpT ht k5, rfl, N.rl, _, rfl, DPut.k (k := .inr (strL z)) r5 (Nat.lt_trans (show kvs.length < 10 by omega) (by decide)), ?_⟩
      rw [putK_new _ hnone]
      have kx : Kp [N.rl] H5 (upd H5 N.rl (.dK (kvs ++ [(.inr (strL z), .ref tr)]))) := .put (by simp) r5 rfl
      have ky : Kp [N.rl] H4 (upd H5 N.rl (.dK (kvs ++ [(.inr (strL z), .ref tr)]))) := k5.mono0.trans kx
      refine ⟨_, _, _, _, _, _, av, rfl, k4.trans (ky.mono (by simp [QB.S])), ⟨ky.keep _ _ hN4.ins (by simp [nbr]), ky.keep _ _ hN4.il (by simp [nir]), ⟨wv, ky.keep _ _ w1 (by simp [nwr]), pkp w2 fun _ _ z => z.kp ky⟩, ⟨kvs ++ [(.inr (strL z), .ref tr)], upd_same, ?_⟩, hI5.nd, nir⟩, hI5, ky.keep _ _ hfd4 (by simp [nfr]), pkp hav fun _ _ z => z.kp ky, by omega⟩
      show Paired _ _ (S.rds ++ [(z, (stt, k0 :: ks))])
      exact paired_snoc (pkp r2 fun _ _ z => ⟨z.1, z.2.kp ky⟩) ⟨rfl, tr, b, vs, rfl, kpT htr5 kx, kpT hb ky, pkp hvs fun _ _ z => z.kp ky⟩
    | reads z =>
      obtain ⟨t, r, rfl, ht⟩ := hiv4.hd'
      obtain ⟨d, hd, hne, pok, rok⟩ := vrn z rfl
      have eask : askOf cells S (Stm.reads z) = [(S.pl cells, rdOf d, Stm.reads z)] := by
        show (match S.rd z with | none => [] | some d => [(S.pl cells, rdOf d, Stm.reads z)]) = _
        rw [hd]
      rw [eask]
      refine ⟨_, rfl, t, _, _, _, rfl, rfl, ht, at0 _ _, rfl, _, rfl, iteDF a_ink ?_⟩
      refine ⟨_, rfl, t, _, _, _, rfl, rfl, ht, at0 _ _, rfl, _, rfl, iteDF a_write ?_⟩
      refine ⟨_, rfl, t, _, _, _, rfl, rfl, ht, at0 _ _, rfl, _, rfl, iteDF a_reader ?_⟩
      refine ⟨_, rfl, .inl ⟨rfl, _, SqL.of hfd4⟩, _, rfl, N.b, N.dx, _, rfl, hN4.ins, (qfs_no _ _ _ _).2, _, rfl, N, cells, S, _, Stm.reads z, z, d, rfl, hN4, hiv4, rfl, sm, vst, hd, hne, pok, rok, fun H5 u k5 hu => ?_⟩
      have hfd5 := k5.keep _ _ hfd4 (by simp)
      have kx : Kp [fd] H5 (upd H5 fd (.lst (av ++ [u]))) := .put (by simp) hfd5 rfl
      refine ⟨fd, av, _, rfl, rfl, hfd5, small1000 (by omega), ?_⟩
      refine ⟨_, _, _, _, _, _, av ++ [u], rfl, (k4.trans k5.mono0).trans (kx.mono (by simp)), (hN4.kp0 k5).kp kx (by simp [nfb.symm]) (by simp [nfi.symm]) (by simp [nfw.symm]) (by simp [nfr.symm]), hI5, upd_same, paired_snoc (pkp hav fun _ _ z => (z.kp k5).kp kx) (hu.kp kx), by rw [List.length_append, List.length_singleton]; omega⟩
    | sure z c =>
      obtain ⟨t, r, rfl, ht⟩ := hiv4.hd'
      obtain ⟨d, hd, hne, pok, rok⟩ := vrn z rfl
      have eask : askOf cells S (Stm.sure z c) = [(S.pl cells, rdOf d, Stm.sure z c)] := by
        show (match S.rd z with | none => [] | some d => [(S.pl cells, rdOf d, Stm.sure z c)]) = _
        rw [hd]
      rw [eask]
      refine ⟨_, rfl, t, _, _, _, rfl, rfl, ht, at0 _ _, rfl, _, rfl, iteDF a_ink ?_⟩
      refine ⟨_, rfl, t, _, _, _, rfl, rfl, ht, at0 _ _, rfl, _, rfl, iteDF a_write ?_⟩
      refine ⟨_, rfl, t, _, _, _, rfl, rfl, ht, at0 _ _, rfl, _, rfl, iteDF a_reader ?_⟩
      refine ⟨_, rfl, .inl ⟨rfl, _, SqL.of hfd4⟩, _, rfl, N.b, N.dx, _, rfl, hN4.ins, (qfs_no _ _ _ _).2, _, rfl, N, cells, S, _, Stm.sure z c, z, d, rfl, hN4, hiv4, rfl, sm, vst, hd, hne, pok, rok, fun H5 u k5 hu => ?_⟩
      have hfd5 := k5.keep _ _ hfd4 (by simp)
      have kx : Kp [fd] H5 (upd H5 fd (.lst (av ++ [u]))) := .put (by simp) hfd5 rfl
      refine ⟨fd, av, _, rfl, rfl, hfd5, small1000 (by omega), ?_⟩
      refine ⟨_, _, _, _, _, _, av ++ [u], rfl, (k4.trans k5.mono0).trans (kx.mono (by simp)), (hN4.kp0 k5).kp kx (by simp [nfb.symm]) (by simp [nfi.symm]) (by simp [nfw.symm]) (by simp [nfr.symm]), hI5, upd_same, paired_snoc (pkp hav fun _ _ z => (z.kp k5).kp kx) (hu.kp kx), by rw [List.length_append, List.length_singleton]; omega⟩
    | slack z m c =>
      obtain ⟨t, r, rfl, ht⟩ := hiv4.hd'
      obtain ⟨d, hd, hne, pok, rok⟩ := vrn z rfl
      have eask : askOf cells S (Stm.slack z m c) = [(S.pl cells, rdOf d, Stm.slack z m c)] := by
        show (match S.rd z with | none => [] | some d => [(S.pl cells, rdOf d, Stm.slack z m c)]) = _
        rw [hd]
      rw [eask]
      refine ⟨_, rfl, t, _, _, _, rfl, rfl, ht, at0 _ _, rfl, _, rfl, iteDF a_ink ?_⟩
      refine ⟨_, rfl, t, _, _, _, rfl, rfl, ht, at0 _ _, rfl, _, rfl, iteDF a_write ?_⟩
      refine ⟨_, rfl, t, _, _, _, rfl, rfl, ht, at0 _ _, rfl, _, rfl, iteDF a_reader ?_⟩
      refine ⟨_, rfl, .inl ⟨rfl, _, SqL.of hfd4⟩, _, rfl, N.b, N.dx, _, rfl, hN4.ins, (qfs_no _ _ _ _).2, _, rfl, N, cells, S, _, Stm.slack z m c, z, d, rfl, hN4, hiv4, rfl, sm, vst, hd, hne, pok, rok, fun H5 u k5 hu => ?_⟩
      have hfd5 := k5.keep _ _ hfd4 (by simp)
      have kx : Kp [fd] H5 (upd H5 fd (.lst (av ++ [u]))) := .put (by simp) hfd5 rfl
      refine ⟨fd, av, _, rfl, rfl, hfd5, small1000 (by omega), ?_⟩
      refine ⟨_, _, _, _, _, _, av ++ [u], rfl, (k4.trans k5.mono0).trans (kx.mono (by simp)), (hN4.kp0 k5).kp kx (by simp [nfb.symm]) (by simp [nfi.symm]) (by simp [nfw.symm]) (by simp [nfr.symm]), hI5, upd_same, paired_snoc (pkp hav fun _ _ z => (z.kp k5).kp kx) (hu.kp kx), by rw [List.length_append, List.length_singleton]; omega⟩
  · rintro σ H4 ⟨o5, o6, o7, o8, o9, o10, av, rfl, k4, hN4, hI4, hfd4, hav, hal⟩
    rw [htl, List.take_length] at hav
    refine ⟨_, rfl, fd, _, rfl, .inl ⟨SqL.of hfd4, fun ra hra => ?_⟩⟩
    have kk : Kp [] H4 (upd H4 ra (.tup av)) := .new hra
    exact q _ ra av ((k1.trans (k3.drop k4 fun x hx => .inl (nS x hx))).trans kk) (SqT.of upd_same) (pkp hav fun _ _ z => z.kp kk)
end
end Ink
set_option Elab.async false
set_option linter.all false
set_option pp.maxSteps 150
set_option maxRecDepth 100000
set_option maxHeartbeats 4000000
namespace Ink
open PySem PySem.Spec PyProof.Rows L2 StX
/-- the script's list: known to the object, or the text's own -/
def ScOk (K : PySem.W.Frag) (H : Hp) (sc : Addr) (xs : List V) : Prop := (∃ o, H sc = some (.frz o (.lst xs))) ∨
  ∃ (o : Obj) (its : Array Value) (n : Nat), K.lookup sc = some o ∧ o.cls = .type "list" ∧ o.dict = none ∧ o.data = .seq its n ∧ its.size ≤ sizeLine ∧ Vals xs its.toList
theorem ScOk.sq {K : PySem.W.Frag} {H : Hp} {sc : Addr} {xs : List V} (h : ScOk K H sc xs) : SqL K H sc xs := by
  rcases h with ⟨o, h⟩ | h
  · exact .inl (.inr ⟨o, h⟩)
  · exact .inr h
theorem ScOk.kp {K : PySem.W.Frag} {S : List Addr} {H H' : Hp} {sc : Addr} {xs : List V} (h : ScOk K H sc xs) (k : Kp S H H') : ScOk K H' sc xs := by
  rcases h with ⟨o, h⟩ | h
  · exact .inl ⟨o, k.frz _ _ _ h⟩
  · exact .inr h
/-- the row of draws -/
structure RowAt (K : PySem.W.Frag) (H : Hp) (ra : Addr) : Prop where
  ex : ∃ (sc : Addr) (ns : List Int) (i s t : Int), H ra = some (.lst [.ref sc, .int i, .int s, .int t]) ∧ ScOk K H sc (ns.map V.int) ∧ 0 ≤ i ∧ 0 ≤ s ∧ s < 2147483647 ∧ 0 ≤ t
theorem RowAt.kp {K : PySem.W.Frag} {S : List Addr} {H H' : Hp} {ra : Addr} (h : RowAt K H ra) (k : Kp S H H') (hr : ra ∉ S) : RowAt K H' ra := by
  obtain ⟨sc, ns, i, s, t, h1, h2, h3⟩ := h.ex
  exact ⟨sc, ns, i, s, t, k.keep _ _ h1 hr, h2.kp k, h3⟩
theorem RowAt.some {K : PySem.W.Frag} {H : Hp} {ra : Addr} (h : RowAt K H ra) : ∃ xs, H ra = some (.lst xs) := by
  obtain ⟨sc, ns, i, s, t, h1, _⟩ := h.ex
  exact ⟨_, h1⟩
section
variable {P : Program} {w : World} {K : PySem.W.Frag} {mg : Str → Option Value} {base : Heap}
def sp_law_taken (K : PySem.W.Frag) : Sp := fun vs H Q _ => ∃ (ra : Addr) (m : Nat), vs = [.ref ra, .int (m : Nat)] ∧ RowAt K H ra ∧ 1 ≤ m ∧ m ≤ 1000 ∧ ∀ H' (v : Nat), Kp [ra] H H' → RowAt K H' ra → v < m → Q (.int (v : Nat)) H'
theorem mod_nat {x : Int} {m : Nat} (h : 1 ≤ m) : ∃ v : Nat, x % (m : Int) = (v : Nat) ∧ v < m := by
  have h1 := Int.emod_nonneg x (b := (m : Int)) (by omega)
  have h2 := Int.emod_lt_of_pos x (b := (m : Int)) (by omega)
  exact ⟨(x % (m : Int)).toNat, by omega, by omega⟩
theorem sc_law_taken : FnScope ["_law_row", "_law_many", "_law_found", "_law_cell"] ["_law_row", "_law_many"] (defScope s_law_taken) := ⟨rfl, rfl, rfl, by decide +kernel, rfl, by decide +kernel, by decide +kernel⟩
theorem ok_law_taken (T : Txt w K mg) : FnOk P w K mg base CX0 1 (He.ga K "_law_taken") (fdA K (He.ga K "_law_taken")) ["_law_row", "_law_many"] (sp_law_taken K) := by
  refine (d_law_taken T).ok sc_law_taken (fun vs H Q E h => ?_) (fun cdv A outer s H vs Q E hr h => ?_)
  · obtain ⟨_, _, rfl, _⟩ := h; rfl
  obtain ⟨ra, m, rfl, hR, m1, m2, q⟩ := h
  obtain ⟨sc, ns, i, s0, t, h1, h2, hi, hs, hs2, ht⟩ := hR.ex
  refine ⟨_, (pss_cons (ps_if (pt_cmpR op_gt (pe_ix ix_list (pv 0) pe_int (fun _ _ => rfl)) pe_int (nomark _)) (pss_cons (ps_set (i := 2) sc_law_taken.nd rfl (Or.inl rfl) (pe_op op_mod (pe_callTy call_int1 (by rfl) (f_int T) bb_int (pa_cons (pe_ix ix_list (pv 0) pe_int (fun _ _ => rfl)) pa_nil)) (pv 1)))
      (pss_cons (ps_asg (pe_op op_fdiv (pe_ix ix_list (pv 0) pe_int (fun _ _ => rfl)) (pv 1)) (pg_sub (pv 0) pe_int set_list))
      (pss_one (ps_ret (pv 2))))) pss_nil)
      (pss_cons (ps_asg (pe_op op_add (pe_ix ix_list (pv 0) pe_int (fun _ _ => rfl)) pe_int) (pg_sub (pv 0) pe_int set_list))
      (pss_cons (ps_if (pt_cmpR op_gt (pe_ix ix_list (pv 0) pe_int (fun _ _ => rfl)) (pe_callB call_len (by rfl) (f_len T) bb_len (pa_cons (pe_ix ix_list (pv 0) pe_int (fun _ _ => rfl)) pa_nil)) (nomark _)) (pss_cons (ps_asg (pe_op op_mod (pe_callTy call_int1 (by rfl) (f_int T) bb_int (pa_cons (pe_op op_add (pe_op op_mul (pe_ix ix_list (pv 0) pe_int (fun _ _ => rfl)) pe_int) pe_int) pa_nil)) pe_int) (pg_sub (pv 0) pe_int set_list))
      (pss_one (ps_ret (pe_op op_mod (pe_callTy call_int1 (by rfl) (f_int T) bb_int (pa_cons (pe_op op_fdiv (pe_ix ix_list (pv 0) pe_int (fun _ _ => rfl)) pe_int) pa_nil)) (pv 1))))) pss_nil)
      (pss_cons (ps_set (i := 3) sc_law_taken.nd rfl (Or.inl rfl) (pe_ix ix_list (pe_ix ix_list (pv 0) pe_int (fun _ _ => rfl)) (pe_op op_sub (pe_ix ix_list (pv 0) pe_int (fun _ _ => rfl)) pe_int) (fun _ _ => rfl)))
      (pss_cons (ps_asg (pe_op op_mod (pe_callTy call_int1 (by rfl) (f_int T) bb_int (pa_cons (pe_op op_add (pe_op op_add (pe_op op_mul (pe_ix ix_list (pv 0) pe_int (fun _ _ => rfl)) pe_int) (pv 3)) pe_int) pa_nil)) pe_int) (pg_sub (pv 0) pe_int set_list))
      (pss_cons (ps_if (pt_cmpR op_ge (pv 3) (pe_op op_pow pe_int pe_int) (nomark _)) (pss_one (ps_asg (pe_op op_fdiv (pv 3) (pv 1)) (pg_sub (pv 0) pe_int set_list))) pss_nil)
      (pss_one (ps_ret (pe_op op_mod (pe_callTy call_int1 (by rfl) (f_int T) bb_int (pa_cons (pv 3) pa_nil)) (pv 1)))))))))), ?_⟩
  have hmpos : (0 : Int) < (m : Nat) := by omega
  have put : ∀ {H1 : Hp} {xs ys : List V}, H1 ra = some (.lst xs) → Kp [ra] H1 (upd H1 ra (.lst ys)) := fun h => Kp.put (S := [ra]) (p := ra) List.mem_cons_self h rfl
  refine ⟨_, rfl, ra, _, _, _, rfl, rfl, SqL.of h1, rfl, _, _, rfl, rfl, _, rfl, ite2 (fun hc => ?_) (fun hc => ?_)⟩
  · obtain ⟨v, hv, hvm⟩ := mod_nat (x := t) m1
    refine ⟨_, rfl, ra, _, _, _, rfl, rfl, SqL.of h1, rfl, .inl ⟨_, rfl, _, rfl, _, _, rfl, rfl, hmpos, ?_⟩⟩
    refine ⟨_, rfl, ra, _, _, _, rfl, rfl, SqL.of h1, rfl, _, rfl, _, _, rfl, rfl, ⟨hmpos, by omega⟩, ?_⟩
    refine ⟨_, rfl, ra, _, _, _, rfl, rfl, h1, rfl, ?_⟩
    refine ⟨_, rfl, qv (congrArg V.int hv) ?_⟩
    have kk := put (ys := [.ref sc, .int i, .int s0, .int (t / (m : Nat))]) h1
    exact q _ v kk ⟨sc, ns, i, s0, t / (m : Nat), upd_same, h2.kp kk, hi, hs, hs2, Int.ediv_nonneg ht (by omega)⟩ hvm
  · refine ⟨_, rfl, ra, _, _, _, rfl, rfl, SqL.of h1, rfl, _, _, rfl, rfl, ?_⟩
    refine ⟨_, rfl, ra, _, _, _, rfl, rfl, h1, rfl, ?_⟩
    have k1 := put (ys := [.ref sc, .int (i + 1), .int s0, .int t]) h1
    have e1 : upd H ra (.lst [.ref sc, .int (i + 1), .int s0, .int t]) ra = some (.lst [.ref sc, .int (i + 1), .int s0, .int t]) := upd_same
    have h21 := h2.kp k1
    refine ⟨_, rfl, ra, _, _, _, rfl, rfl, SqL.of e1, rfl, _, rfl, ra, _, _, _, rfl, rfl, SqL.of e1, rfl, _, _, rfl, .inl ⟨_, h21.sq, rfl⟩, _, _, rfl, rfl, _, rfl, ite2 (fun hc2 => ?_) (fun hc2 => ?_)⟩
    · refine ⟨_, rfl, ra, _, _, _, rfl, rfl, SqL.of e1, rfl, _, _, rfl, rfl, .inr ⟨by decide, by decide⟩, _, _, rfl, rfl, .inl ⟨_, rfl, _, _, rfl, rfl, (show (0 : Int) < 2147483647 by decide), ?_⟩⟩
      refine ⟨_, rfl, ra, _, _, _, rfl, rfl, e1, rfl, ?_⟩
      have k2 := put (ys := [.ref sc, .int (i + 1), .int ((s0 * 48271 + 11) % 2147483647), .int t]) e1
      have e2 : upd (upd H ra (.lst [.ref sc, .int (i + 1), .int s0, .int t])) ra (.lst [.ref sc, .int (i + 1), .int ((s0 * 48271 + 11) % 2147483647), .int t]) ra = some (.lst [.ref sc, .int (i + 1), .int ((s0 * 48271 + 11) % 2147483647), .int t]) := upd_same
      obtain ⟨v, hv, hvm⟩ := mod_nat (x := (s0 * 48271 + 11) % 2147483647 / 7) m1
      refine ⟨_, rfl, ra, _, _, _, rfl, rfl, SqL.of e2, rfl, _, _, rfl, rfl, ⟨by decide, by decide⟩, .inl ⟨_, rfl, _, rfl, _, _, rfl, rfl, hmpos, qv (congrArg V.int hv) ?_⟩⟩
      exact q _ v (k1.trans k2) ⟨sc, ns, i + 1, _, t, e2, h21.kp k2, by omega, Int.emod_nonneg _ (by decide), Int.emod_lt_of_pos _ (by decide), ht⟩ hvm
    · have hlt : ¬ ((ns.map V.int).length : Int) < i + 1 := fun z => hc2 (decide_eq_true z)
      rw [List.length_map] at hlt
      have hin : i.toNat < ns.length := by omega
      have hat : atI (ns.map V.int) (i + 1 - 1) = some (.int ns[i.toNat]) := by
        rw [show i + 1 - 1 = ((i.toNat : Nat) : Int) by omega]
        exact atI_nat (by rw [List.getElem?_map, List.getElem?_eq_getElem hin]; rfl)
      generalize ns[i.toNat] = cell at hat
      refine ⟨_, rfl, ra, _, _, _, rfl, rfl, SqL.of e1, rfl, _, rfl, ra, _, _, _, rfl, rfl, SqL.of e1, rfl, _, _, rfl, rfl, sc, _, _, _, rfl, rfl, h21.sq, hat, ?_⟩
      refine ⟨_, rfl, ra, _, _, _, rfl, rfl, SqL.of e1, rfl, _, _, rfl, rfl, .inr ⟨by decide, by decide⟩, _, rfl, _, _, rfl, rfl, _, _, rfl, rfl, .inl ⟨_, rfl, _, _, rfl, rfl, (show (0 : Int) < 2147483647 by decide), ?_⟩⟩
      refine ⟨_, rfl, ra, _, _, _, rfl, rfl, e1, rfl, ?_⟩
      have k2 := put (ys := [.ref sc, .int (i + 1), .int ((s0 * 48271 + cell + 11) % 2147483647), .int t]) e1
      have e2 : upd (upd H ra (.lst [.ref sc, .int (i + 1), .int s0, .int t])) ra (.lst [.ref sc, .int (i + 1), .int ((s0 * 48271 + cell + 11) % 2147483647), .int t]) ra = some (.lst [.ref sc, .int (i + 1), .int ((s0 * 48271 + cell + 11) % 2147483647), .int t]) := upd_same
      have h22 := h21.kp k2
      have b1 := Int.emod_nonneg (s0 * 48271 + cell + 11) (b := 2147483647) (by decide)
      have b2 := Int.emod_lt_of_pos (s0 * 48271 + cell + 11) (b := 2147483647) (by decide)
      obtain ⟨v, hv, hvm⟩ := mod_nat (x := cell) m1
      refine ⟨_, rfl, _, _, rfl, rfl, ⟨by decide, by decide, by decide⟩, _, _, rfl, rfl, _, rfl, ite2 (fun hc3 => ?_) (fun hc3 => ?_)⟩
      · have h10 : (10 : Int) ^ (18 : Int).toNat ≤ cell := by have := of_decide_eq_true hc3; exact this
        have hcell : 0 ≤ cell := by have : (0 : Int) ≤ 10 ^ (18 : Int).toNat := by decide
                                    omega
        refine ⟨_, rfl, _, rfl, _, _, rfl, rfl, ⟨hmpos, by omega⟩, ?_⟩
        refine ⟨_, rfl, ra, _, _, _, rfl, rfl, e2, rfl, ?_⟩
        refine ⟨_, rfl, .inl ⟨_, rfl, _, rfl, _, _, rfl, rfl, hmpos, qv (congrArg V.int hv) ?_⟩⟩
        have k3 := put (ys := [.ref sc, .int (i + 1), .int ((s0 * 48271 + cell + 11) % 2147483647), .int (cell / (m : Nat))]) e2
        exact q _ v ((k1.trans k2).trans k3) ⟨sc, ns, i + 1, ((s0 * 48271 + cell + 11) % 2147483647), cell / (m : Nat), upd_same, h22.kp k3, by omega, b1, b2, Int.ediv_nonneg hcell (by omega)⟩ hvm
      · refine ⟨_, rfl, .inl ⟨_, rfl, _, rfl, _, _, rfl, rfl, hmpos, qv (congrArg V.int hv) ?_⟩⟩
        exact q _ v (k1.trans k2) ⟨sc, ns, i + 1, ((s0 * 48271 + cell + 11) % 2147483647), t, e2, h22, by omega, b1, b2, ht⟩ hvm
def sp_law_pick (K : PySem.W.Frag) : Sp := fun vs H Q _ => ∃ (ra l : Addr) (xs : List V), vs = [.ref ra, .ref l] ∧ RowAt K H ra ∧ H l = some (.lst xs) ∧ l ≠ ra ∧ 1 ≤ xs.length ∧ xs.length ≤ 1000 ∧ ∀ H' (x : V), Kp [ra] H H' → RowAt K H' ra → x ∈ xs → Q x H'
theorem sc_law_pick : FnScope ["_law_row", "_law_things"] ["_law_row", "_law_things"] (defScope s_law_pick) := ⟨rfl, rfl, rfl, by decide +kernel, rfl, by decide +kernel, by decide +kernel⟩
theorem ok_law_pick (T : Txt w K mg) : FnOk P w K mg base CX0 2 (He.ga K "_law_pick") (fdA K (He.ga K "_law_pick")) ["_law_row", "_law_things"] (sp_law_pick K) := by
  have G_law_taken := ok_law_taken (P := P) (base := base) T
  refine (d_law_pick T).ok sc_law_pick (fun vs H Q E h => ?_) (fun cdv A outer s H vs Q E hr h => ?_)
  · obtain ⟨_, _, _, rfl, _⟩ := h; rfl
  obtain ⟨ra, l, xs, rfl, hR, hl, ne, h1, h2, q⟩ := h
  refine ⟨_, (pss_one (ps_ret (pe_ix ix_list (pv 1) (pcall (d_law_taken T) G_law_taken (hr.mono (by decide)) (pa_cons (pv 0) (pa_cons (pe_callB call_len (by rfl) (f_len T) bb_len (pa_cons (pv 1) pa_nil)) pa_nil))) (fun _ _ => rfl)))), ?_⟩
  refine ⟨_, rfl, _, rfl, _, rfl, _, _, rfl, .inl ⟨_, SqL.of hl, rfl⟩, ra, xs.length, rfl, hR, h1, h2, fun H1 v k1 hR1 hv => ?_⟩
  exact ⟨l, _, _, _, rfl, rfl, SqL.of (k1.keep _ _ hl (by simp [ne])), atI_nat (List.getElem?_eq_getElem hv), q _ _ k1 hR1 (List.getElem_mem hv)⟩
end
end Ink
set_option Elab.async false
set_option linter.all false
set_option pp.maxSteps 150
set_option maxRecDepth 100000
set_option maxHeartbeats 4000000
namespace Ink
open PySem PySem.Spec PyProof.Rows L2 StX
structure LWr where
  cell : Nat
  c : Nat
  ink : Nat
  lo : Nat
  hi : Nat
def LWr.wr (x : LWr) : Wr := ⟨(x.cell : Nat), x.c, (x.ink : Nat), (x.lo : Nat), (x.hi : Nat)⟩
structure LPl where
  cells : Nat
  stays : List Nat
  ws : List LWr
def LPl.pl (p : LPl) : Pl := ⟨(p.cells : Nat), p.stays.map (fun x => ((x : Nat) : Int)), p.ws.map LWr.wr⟩
structure LWr.Ok (cells inks : Nat) (x : LWr) : Prop where
  cell : x.cell < cells
  c0 : 97 ≤ x.c
  c1 : x.c ≤ 99
  ink : x.ink < inks
  lo : x.lo ≤ 3
  h0 : x.lo ≤ x.hi
  h1 : x.hi ≤ x.lo + 1
structure LPl.Ok (p : LPl) : Prop where
  c0 : 1 ≤ p.cells
  c1 : p.cells ≤ 2
  n0 : 1 ≤ p.stays.length
  n1 : p.stays.length ≤ 3
  st : ∀ x ∈ p.stays, 1 ≤ x ∧ x ≤ 6
  wn : p.ws.length ≤ 4
  ws : ∀ x ∈ p.ws, x.Ok p.cells p.stays.length
theorem LPl.Ok.pl {p : LPl} (h : p.Ok) : p.pl.Ok where
  c0 := by show (1 : Int) ≤ (p.cells : Nat); have := h.c0; omega
  c1 := by show ((p.cells : Nat) : Int) ≤ 4; have := h.c1; omega
  n0 := by show 1 ≤ (p.stays.map _).length; rw [List.length_map]; exact h.n0
  n1 := by show (p.stays.map _).length ≤ 4; rw [List.length_map]; have := h.n1; omega
  st := fun x hx => by
    obtain ⟨n, hn, rfl⟩ := List.mem_map.mp hx
    have := h.st n hn
    omega
  wn := by show (p.ws.map _).length ≤ 4; rw [List.length_map]; exact h.wn
  ws := fun x hx => by
    obtain ⟨n, hn, rfl⟩ := List.mem_map.mp hx
    have o := h.ws n hn
    have e : (p.pl.stays).length = p.stays.length := List.length_map ..
    have e2 : p.pl.cells.toNat = p.cells := Int.toNat_natCast _
    have := o.cell; have := o.c0; have := o.c1; have := o.ink; have := o.lo; have := o.h0; have := o.h1
    rw [e, e2]
    exact ⟨by show (0 : Int) ≤ (n.cell : Nat); omega, by show ((n.cell : Nat) : Int) < (p.cells : Nat); omega, by show 97 ≤ n.c; omega, by show n.c ≤ 122; omega, by show (0 : Int) ≤ (n.ink : Nat); omega, by show ((n.ink : Nat) : Int) < (p.stays.length : Nat); omega, by show (0 : Int) ≤ (n.lo : Nat); omega, by show ((n.lo : Nat) : Int) ≤ (n.hi : Nat); omega, by show ((n.hi : Nat) : Int) ≤ 50; omega⟩
section
variable {P : Program} {w : World} {K : PySem.W.Frag} {mg : Str → Option Value} {base : Heap}
def sp_law_plan (K : PySem.W.Frag) : Sp := fun vs H Q _ => ∃ (ra : Addr), vs = [.ref ra, .int 4, .int 1] ∧ RowAt K H ra ∧ ∀ (H' : Hp) (v : V) (p : LPl), Kp [ra] H H' → RowAt K H' ra → p.Ok → IsPl K H' v p.pl → Q v H'
theorem sc_law_plan : FnScope ["_law_row", "_law_most", "_law_wide", "_law_cells", "_law_inks", "_law_stays", "_law_ink", "_law_writes", "_law_turn", "_law_low", "_law_sign"] ["_law_row", "_law_most", "_law_wide"] (defScope s_law_plan) := ⟨rfl, rfl, rfl, by decide +kernel, rfl, by decide +kernel, by decide +kernel⟩
theorem ok_law_plan (T : Txt w K mg) : FnOk P w K mg base CX0 3 (He.ga K "_law_plan") (fdA K (He.ga K "_law_plan")) ["_law_row", "_law_most", "_law_wide"] (sp_law_plan K) := by
  have G_law_taken := ok_law_taken (P := P) (base := base) T
  have G_law_pick := ok_law_pick (P := P) (base := base) T
  refine (d_law_plan T).ok sc_law_plan (fun vs H Q E h => ?_) (fun cdv A outer s H vs Q E hr h => ?_)
  · obtain ⟨_, rfl, _⟩ := h; rfl
  obtain ⟨ra, rfl, hR, q⟩ := h
  refine ⟨_, (pss_cons (ps_par (i := 3) (j := 4) rfl sc_law_plan.nd rfl rfl (by decide) rfl rfl (pa_cons (pe_op op_add pe_int (pcall (d_law_taken T) G_law_taken (hr.mono (by decide)) (pa_cons (pv 0) (pa_cons pe_int pa_nil)))) (pa_cons (pe_op op_add pe_int (pcall (d_law_taken T) G_law_taken (hr.mono (by decide)) (pa_cons (pv 0) (pa_cons pe_int pa_nil)))) pa_nil)) (by rfl))
      (pss_cons (ps_set (i := 5) sc_law_plan.nd rfl (Or.inl rfl) (pe_callTy call_tuple_of (by rfl) (f_tuple T) bb_tuple (pa_cons (pe_lc (own := [("_law_ink", 6)]) rfl sc_law_plan.nd (pi_range1 (by rfl) (f_range T) (pa_cons (pv 4) pa_nil)) (blkOk_by (own := [("_law_ink", 6)]) (N := ["_law_row", "_law_most", "_law_wide", "_law_cells", "_law_inks", "_law_stays", "_law_ink", "_law_writes", "_law_turn", "_law_low", "_law_sign"]) (sc := defScope s_law_plan) (by decide +kernel)) (fun _ _ _ _ _ => (pg_name (i := 6) sc_law_plan.nd rfl (Or.inl rfl))) (fun _ _ _ _ _ => pts_nil) (fun _ _ _ _ _ => (pe_op op_add pe_int (pcall (d_law_taken T) G_law_taken (hr.mono (by decide)) (pa_cons (pv 0) (pa_cons pe_int pa_nil)))))) pa_nil)))
      (pss_cons (ps_set (i := 7) sc_law_plan.nd rfl (Or.inl rfl) (pe_lst pa_nil))
      (pss_cons (ps_for PassesOwn.never rfl (pi_range1 (by rfl) (f_range T) (pa_cons (pcall (d_law_taken T) G_law_taken (hr.mono (by decide)) (pa_cons (pv 0) (pa_cons (pe_op op_add (pv 1) pe_int) pa_nil))) pa_nil)) (pg_name (i := 8) sc_law_plan.nd rfl (Or.inl rfl)) (pss_cons (ps_set (i := 9) sc_law_plan.nd rfl (Or.inl rfl) (pcall (d_law_pick T) G_law_pick (hr.mono (by decide)) (pa_cons (pv 0) (pa_cons (pe_lst (pa_cons pe_int (pa_cons pe_int (pa_cons pe_int (pa_cons pe_int (pa_cons pe_int pa_nil)))))) pa_nil))))
      (pss_cons (ps_set (i := 10) sc_law_plan.nd rfl (Or.inl rfl) (pcall (d_law_pick T) G_law_pick (hr.mono (by decide)) (pa_cons (pv 0) (pa_cons (pe_lst (pa_cons pe_str (pa_cons pe_str (pa_cons pe_str pa_nil)))) pa_nil))))
      (pss_one (ps_expr (pe_bm PySem.F.plainAttrs_list PySem.F.slot_list_append PySem.F.type_list_append mt_append (pv 7) (pa_cons (pe_tup (pa_cons (pcall (d_law_taken T) G_law_taken (hr.mono (by decide)) (pa_cons (pv 0) (pa_cons (pv 3) pa_nil))) (pa_cons (pv 10) (pa_cons (pcall (d_law_taken T) G_law_taken (hr.mono (by decide)) (pa_cons (pv 0) (pa_cons (pv 4) pa_nil))) (pa_cons (pv 9) (pa_cons (pe_op op_add (pv 9) (pcall (d_law_taken T) G_law_taken (hr.mono (by decide)) (pa_cons (pv 0) (pa_cons (pe_op op_add (pv 2) pe_int) pa_nil)))) pa_nil)))))) pa_nil)))))))
      (pss_one (ps_ret (pe_tup (pa_cons (pv 3) (pa_cons (pv 5) (pa_cons (pe_callTy call_tuple_of (by rfl) (f_tuple T) bb_tuple (pa_cons (pv 7) pa_nil)) pa_nil)))))))))), ?_⟩
  refine ⟨_, rfl, ra, 2, rfl, hR, by decide, by decide, fun H1 c0 k1 hR1 hc0 => ⟨_, _, rfl, rfl, ?_⟩⟩
  refine ⟨_, rfl, ra, 3, rfl, hR1, by decide, by decide, fun H2 n0 k2 hR2 hn0 => ⟨_, _, rfl, rfl, _, _, rfl, ?_⟩⟩
  have ec : (1 : Int) + (c0 : Nat) = ((1 + c0 : Nat) : Int) := by omega
  have en : (1 : Int) + (n0 : Nat) = ((1 + n0 : Nat) : Int) := by omega
  have k12 := k1.trans k2
  obtain ⟨rx, hrx⟩ := hR2.some
  refine ⟨_, rfl, _, rfl, (by omega), (by omega), fun D hD => ?_⟩
  have nDr : D ≠ ra := fun e => by rw [e, hrx] at hD; cases hD
  have kD : Kp [ra] H2 (upd H2 D (.lst [])) := .new hD
  refine lc_range (lo := 0) (n := (1 + (n0 : Nat) : Int).toNat) (fun i H' => Kp [ra] H2 H' ∧ RowAt K H' ra ∧ ∃ st : List Nat, H' D = some (.lst (st.map fun x => V.int (x : Nat))) ∧ st.length = i ∧ ∀ x ∈ st, 1 ≤ x ∧ x ≤ 6) ⟨kD, hR2.kp (Kp.new (S := []) hD) (by simp), [], upd_same, rfl, fun x hx => by cases hx⟩ ?_ ?_
  · rintro i H3 hi ⟨k3, hR3, st, hst, hsl, hsx⟩
    refine ⟨rfl, tyes ?_⟩
    refine iteT ?_
    refine ⟨_, rfl, ra, 6, rfl, hR3, by decide, by decide, fun H4 x k4 hR4 hx => ⟨_, _, rfl, rfl, ?_⟩⟩
    have hst4 := k4.keep _ _ hst (by simp [nDr])
    refine ⟨_, hst4, small1000 (by rw [List.length_map]; omega), ?_⟩
    have kx : Kp [D] H4 (upd H4 D (.lst ((st.map fun x => V.int (x : Nat)) ++ [V.int (1 + (x : Nat))]))) := .put (by simp) hst4 rfl
    refine ⟨(k3.trans k4).putN hD, hR4.kp kx (by simp [nDr.symm]), st ++ [1 + x], ?_, by rw [List.length_append, hsl]; rfl, fun y hy => ?_⟩
    · rw [upd_same, List.map_append]
      show some (HO.lst (_ ++ [V.int ((1 : Int) + (x : Nat))])) = some (HO.lst (_ ++ [V.int ((1 + x : Nat) : Int)]))
      rw [show (1 : Int) + (x : Nat) = ((1 + x : Nat) : Int) by omega]
    · rcases List.mem_append.mp hy with z | z
      · exact hsx y z
      · have : y = 1 + x := by simpa using z
        omega
  rintro H3 ⟨k3, hR3, st, hst, hsl, hsx⟩
  have hsl' : st.length = 1 + n0 := by omega
  refine ⟨D, _, rfl, .inl ⟨SqL.of hst, fun ts hts => ?_⟩⟩
  have kt : Kp [] H3 (upd H3 ts (.tup (st.map fun x => V.int (x : Nat)))) := .new hts
  have hts4 : SqT K (upd H3 ts (.tup (st.map fun x => V.int (x : Nat)))) ts (st.map fun x => V.int (x : Nat)) := SqT.of upd_same
  have k4 := k3.trans (kt.mono0 (S := [ra]))
  have hR4 := hR3.kp kt (by simp)
  generalize upd H3 ts (.tup (st.map fun x => V.int (x : Nat))) = H4 at k4 hts4 hR4 ⊢
  refine ⟨by show 0 ≤ sizeLine; decide, fun wl hwl => ?_⟩
  obtain ⟨rx4, hrx4⟩ := hR4.some
  have nwr : wl ≠ ra := fun e => by rw [e, hrx4] at hwl; cases hwl
  have kw' : Kp [] H4 (upd H4 wl (.lst [])) := .new hwl
  have hts5 := kpT hts4 kw'
  have hR5 := hR4.kp kw' (by simp)
  have hw5 : upd H4 wl (.lst []) wl = some (.lst []) := upd_same
  have hwH : H wl = none := (k12.trans k4).freeS (fun a ha => by rw [List.mem_singleton.mp ha]; exact ⟨_, hrx4⟩) hwl
  have k5 := (k12.trans k4).trans (kw'.mono0 (S := [ra]))
  generalize upd H4 wl (.lst []) = H5 at k5 hts5 hR5 hw5 ⊢
  refine ⟨_, rfl, _, rfl, _, _, rfl, rfl, ra, 5, rfl, hR5, by decide, by decide, fun H6 nw k6 hR6 hnw => ⟨_, rfl, (by omega), (by omega), ?_⟩⟩
  rw [Int.toNat_natCast]
  have hw6 := k6.keep _ _ hw5 (by simp [nwr])
  refine for_range (lo := 0) (n := nw) (fun i σ H' => ∃ o6 o8 o9 o10 wv ws, σ = [some (.ref ra), some (.int 4), some (.int 1), some (.int (1 + (c0 : Nat))), some (.int (1 + (n0 : Nat))), some (.ref ts), o6, some (.ref wl), o8, o9, o10] ∧ Kp [ra, wl] H6 H' ∧ RowAt K H' ra ∧ H' wl = some (.lst wv) ∧ Paired (IsWr K H') wv (ws.map LWr.wr) ∧ ws.length = i ∧ ∀ x ∈ ws, x.Ok (1 + c0) (1 + n0))
    ⟨_, _, _, _, [], [], rfl, .refl _ _, hR6, hw6, .nil, rfl, fun x hx => by cases hx⟩ ?_ ?_
  · rintro i σ H7 hi ⟨o6, o8, o9, o10, wv, ws, rfl, k7, hR7, hw7, hwv, hwl', hok⟩
    have hwvl : wv.length = ws.length := by rw [paired_len hwv, List.length_map]
    obtain ⟨rx7, hrx7⟩ := hR7.some
    refine ⟨_, rfl, by show 5 ≤ sizeLine; decide, fun l hl => ?_⟩
    have nlr : l ≠ ra := fun e => by rw [e, hrx7] at hl; cases hl
    refine ⟨ra, l, _, rfl, hR7.kp (Kp.new (S := []) hl) (by simp), upd_same, nlr, by decide, by decide, fun H8 x8 k8 hR8 hx8 => ?_⟩
    have hlo : ∃ lo : Nat, x8 = .int (lo : Nat) ∧ lo ≤ 3 := by
      have : x8 = .int 0 ∨ x8 = .int 1 ∨ x8 = .int 2 ∨ x8 = .int 3 := by simpa using hx8
      rcases this with e | e | e | e
      · exact ⟨0, e, by decide⟩
      · exact ⟨1, e, by decide⟩
      · exact ⟨2, e, by decide⟩
      · exact ⟨3, e, by decide⟩
    obtain ⟨lo, rfl, hlo3⟩ := hlo
    have k78 : Kp [ra] H7 H8 := (Kp.new (S := []) hl).mono0.trans k8
    obtain ⟨rx8, hrx8⟩ := hR8.some
    refine ⟨_, rfl, by show 3 ≤ sizeLine; decide, fun l2 hl2 => ?_⟩
    have nlr2 : l2 ≠ ra := fun e => by rw [e, hrx8] at hl2; cases hl2
    refine ⟨ra, l2, _, rfl, hR8.kp (Kp.new (S := []) hl2) (by simp), upd_same, nlr2, by decide, by decide, fun H9 x9 k9 hR9 hx9 => ?_⟩
    have hsg : ∃ c : Nat, x9 = .str (sg c) ∧ 97 ≤ c ∧ c ≤ 99 := by
      have : x9 = .str "a" ∨ x9 = .str "b" ∨ x9 = .str "c" := by simpa using hx9
      rcases this with e | e | e
      · exact ⟨97, by rw [e]; decide +kernel, by decide, by decide⟩
      · exact ⟨98, by rw [e]; decide +kernel, by decide, by decide⟩
      · exact ⟨99, by rw [e]; decide +kernel, by decide, by decide⟩
    obtain ⟨sc, rfl, hs1, hs2⟩ := hsg
    have k79 : Kp [ra] H7 H9 := k78.trans ((Kp.new (S := []) hl2).mono0.trans k9)
    have hw9 := k79.keep _ _ hw7 (by simp [nwr])
    refine ⟨_, rfl, .inl ⟨rfl, _, SqL.of hw9⟩, ?_⟩
    refine ⟨_, rfl, _, rfl, ra, 1 + c0, by rw [← ec]; rfl, hR9, by omega, by omega, fun H10 cl k10 hR10 hcl => ?_⟩
    refine ⟨_, rfl, _, rfl, _, rfl, ra, 1 + n0, by rw [← en]; rfl, hR10, by omega, by omega, fun H11 ik k11 hR11 hik => ?_⟩
    refine ⟨_, rfl, _, rfl, _, rfl, _, rfl, _, _, rfl, rfl, ra, 2, rfl, hR11, by decide, by decide, fun H12 dh k12' hR12 hdh => ⟨_, _, rfl, rfl, by show 5 ≤ sizeLine; decide, fun tp htp => ?_⟩⟩
    have k712 : Kp [ra] H7 H12 := ((k79.trans k10).trans k11).trans k12'
    have ktp : Kp [] H12 (upd H12 tp (.tup [.int (cl : Nat), .str (sg sc), .int (ik : Nat), .int (lo : Nat), .int ((lo : Nat) + (dh : Nat))])) := .new htp
    have htp13 : SqT K (upd H12 tp (.tup [.int (cl : Nat), .str (sg sc), .int (ik : Nat), .int (lo : Nat), .int ((lo : Nat) + (dh : Nat))])) tp [.int (cl : Nat), .str (sg sc), .int (ik : Nat), .int (lo : Nat), .int ((lo : Nat) + (dh : Nat))] := SqT.of upd_same
    have hR13 := hR12.kp ktp (by simp)
    have k713 := k712.trans (ktp.mono0 (S := [ra]))
    generalize upd H12 tp (.tup [.int (cl : Nat), .str (sg sc), .int (ik : Nat), .int (lo : Nat), .int ((lo : Nat) + (dh : Nat))]) = H13 at k713 htp13 hR13 ⊢
    have hw13 := k713.keep _ _ hw7 (by simp [nwr])
    have kx : Kp [wl] H13 (upd H13 wl (.lst (wv ++ [.ref tp]))) := .put (by simp) hw13 rfl
    refine ⟨wl, wv, _, rfl, rfl, hw13, small1000 (by omega), ?_⟩
    refine ⟨_, _, _, _, wv ++ [.ref tp], ws ++ [⟨cl, sc, ik, lo, lo + dh⟩], rfl, (k7.trans (k713.mono (by simp))).trans (kx.mono (by simp)), hR13.kp kx (by simp [nwr.symm]), upd_same, ?_, by rw [List.length_append, hwl']; rfl, fun x hx => ?_⟩
    · rw [List.map_append]
      exact paired_snoc (pkp hwv fun _ _ z => (z.kp k713).kp kx) ⟨tp, rfl, kpT htp13 kx⟩
    · rcases List.mem_append.mp hx with z | z
      · exact hok x z
      · have : x = ⟨cl, sc, ik, lo, lo + dh⟩ := by simpa using z
        subst this
        exact ⟨hcl, hs1, hs2, hik, hlo3, by show lo ≤ lo + dh; omega, by show lo + dh ≤ lo + 1; omega⟩
  · rintro σ H7 ⟨o6, o8, o9, o10, wv, ws, rfl, k7, hR7, hw7, hwv, hwl', hok⟩
    refine ⟨_, rfl, _, rfl, _, rfl, wl, _, rfl, .inl ⟨SqL.of hw7, fun tw htw => ⟨by show 3 ≤ sizeLine; decide, fun tp htp => ?_⟩⟩⟩
    have kk : Kp [] H7 (upd (upd H7 tw (.tup wv)) tp (.tup [.int (1 + (c0 : Nat)), .ref ts, .ref tw])) := (Kp.new htw).newT htp
    have kH7 : Kp [ra] H H7 := (k5.trans k6).drop k7 (fun x hx => by
      have : x = ra ∨ x = wl := by simpa using hx
      rcases this with e | e
      · exact .inr (by rw [e]; simp)
      · exact .inl (by rw [e]; exact hwH))
    refine q _ _ ⟨1 + c0, st, ws⟩ (kH7.trans kk.mono0) (hR7.kp kk (by simp)) ⟨by show 1 ≤ 1 + c0; omega, by show 1 + c0 ≤ 2; omega, by show 1 ≤ st.length; omega, by show st.length ≤ 3; omega, hsx, by show ws.length ≤ 4; omega, fun x hx => by show x.Ok (1 + c0) st.length; rw [hsl']; exact hok x hx⟩ ⟨tp, ts, tw, wv, rfl, SqT.of (by rw [upd_same]; show some (HO.tup [V.int (1 + (c0 : Nat)), _, _]) = some (HO.tup [V.int ((1 + c0 : Nat) : Int), _, _]); rw [ec]), ?_, kpT (SqT.of (upd_same (H := H7) (a := tw))) (Kp.new (S := []) htp), pkp hwv fun _ _ z => z.kp kk⟩
    have : SqT K H7 ts (st.map fun x => V.int (x : Nat)) := kpT (kpT hts5 k6) k7
    have e : (LPl.pl ⟨1 + c0, st, ws⟩).stays.map V.int = st.map fun x => V.int (x : Nat) := by
      show (st.map _).map V.int = _
      rw [List.map_map]; rfl
    rw [e]
    exact kpT this kk
end
end Ink
set_option Elab.async false
set_option linter.all false
set_option pp.maxSteps 150
set_option maxRecDepth 100000
set_option maxHeartbeats 4000000
namespace Ink
open PySem PySem.Spec PyProof.Rows L2 StX
structure LRd.Ok (cells nw : Nat) (st : Option Nat) (ks : List PLk) : Prop where
  st : ∀ n, st = some n → n < nw
  n0 : 1 ≤ ks.length
  n1 : ks.length ≤ 2
  ls : ∀ k ∈ ks, k.cell < cells ∧ k.low ≤ 4 ∧ k.low ≤ k.high ∧ k.high ≤ k.low + 1
theorem LRd.Ok.rdr {p : LPl} {st : Option Nat} {ks : List PLk} (h : LRd.Ok p.cells p.ws.length st ks) : (rdOf (st, ks)).Ok p.pl where
  st := fun n hn => by show n < (p.ws.map LWr.wr).length; rw [List.length_map]; exact h.st n hn
  n0 := by show 1 ≤ (ks.map PLk.lk).length; rw [List.length_map]; exact h.n0
  n1 := by show (ks.map PLk.lk).length ≤ 2; rw [List.length_map]; exact h.n1
  ls := fun x hx => by
    obtain ⟨k, hk, rfl⟩ := List.mem_map.mp hx
    obtain ⟨a, b, c, d⟩ := h.ls k hk
    exact ⟨by show (0 : Int) ≤ (k.cell : Nat); omega, by show ((k.cell : Nat) : Int) < (p.cells : Nat); omega, by show (0 : Int) ≤ (k.low : Nat); omega, by show ((k.low : Nat) : Int) ≤ (k.high : Nat); omega, by show ((k.high : Nat) : Int) ≤ 200; omega⟩
section
variable {P : Program} {w : World} {K : PySem.W.Frag} {mg : Str → Option Value} {base : Heap}
def sp_law_reader (K : PySem.W.Frag) : Sp := fun vs H Q _ => ∃ (ra : Addr) (v : V) (p : LPl), vs = [.ref ra, v, .int 2, .int 1] ∧ RowAt K H ra ∧ IsPl K H v p.pl ∧ p.Ok ∧
  ∀ (H' : Hp) (a b : Addr) (us : List V) (st : Option Nat) (ks : List PLk), Kp [ra] H H' → RowAt K H' ra → LRd.Ok p.cells p.ws.length st ks → SqT K H' a [startV st, .ref b] → SqT K H' b us → Paired (IsLk K H') us (ks.map PLk.lk) → Q (.ref a) H'
theorem sc_law_reader : FnScope ["_law_row", "_law_plan_here", "_law_most", "_law_wide", "_law_start", "_law_looks", "_law_turn", "_law_low"] ["_law_row", "_law_plan_here", "_law_most", "_law_wide"] (defScope s_law_reader) := ⟨rfl, rfl, rfl, by decide +kernel, rfl, by decide +kernel, by decide +kernel⟩
theorem ok_law_reader (T : Txt w K mg) : FnOk P w K mg base CX0 3 (He.ga K "_law_reader") (fdA K (He.ga K "_law_reader")) ["_law_row", "_law_plan_here", "_law_most", "_law_wide"] (sp_law_reader K) := by
  have G_law_taken := ok_law_taken (P := P) (base := base) T
  refine (d_law_reader T).ok sc_law_reader (fun vs H Q E h => ?_) (fun cdv A outer s H vs Q E hr h => ?_)
  · obtain ⟨_, _, _, rfl, _⟩ := h; rfl
  obtain ⟨ra, v, p, rfl, hR, ⟨a, b, c, vs, rfl, ha, hb, hc, hp⟩, ok, q⟩ := h
  have hvl : vs.length = p.ws.length := by rw [paired_len hp]; show (p.ws.map _).length = _; rw [List.length_map]
  have hwn := ok.wn
  have hc0 := ok.c0
  have hc1 := ok.c1
  refine ⟨_, (pss_cons (ps_set (i := 4) sc_law_reader.nd rfl (Or.inl rfl) (pe_op op_sub (pcall (d_law_taken T) G_law_taken (hr.mono (by decide)) (pa_cons (pv 0) (pa_cons (pe_op op_add (pe_callB call_len (by rfl) (f_len T) bb_len (pa_cons (pe_ix ix_tup (pv 1) pe_int (fun _ _ => rfl)) pa_nil)) pe_int) pa_nil))) pe_int))
      (pss_cons (ps_set (i := 5) sc_law_reader.nd rfl (Or.inl rfl) (pe_lst pa_nil))
      (pss_cons (ps_for PassesOwn.never rfl (pi_range1 (by rfl) (f_range T) (pa_cons (pe_op op_add pe_int (pcall (d_law_taken T) G_law_taken (hr.mono (by decide)) (pa_cons (pv 0) (pa_cons (pv 2) pa_nil)))) pa_nil)) (pg_name (i := 6) sc_law_reader.nd rfl (Or.inl rfl)) (pss_cons (ps_set (i := 7) sc_law_reader.nd rfl (Or.inl rfl) (pcall (d_law_taken T) G_law_taken (hr.mono (by decide)) (pa_cons (pv 0) (pa_cons pe_int pa_nil))))
      (pss_one (ps_expr (pe_bm PySem.F.plainAttrs_list PySem.F.slot_list_append PySem.F.type_list_append mt_append (pv 5) (pa_cons (pe_tup (pa_cons (pcall (d_law_taken T) G_law_taken (hr.mono (by decide)) (pa_cons (pv 0) (pa_cons (pe_ix ix_tup (pv 1) pe_int (fun _ _ => rfl)) pa_nil))) (pa_cons (pv 7) (pa_cons (pe_op op_add (pv 7) (pcall (d_law_taken T) G_law_taken (hr.mono (by decide)) (pa_cons (pv 0) (pa_cons (pe_op op_add (pv 3) pe_int) pa_nil)))) pa_nil)))) pa_nil))))))
      (pss_one (ps_ret (pe_tup (pa_cons (pe_ifExp (pt_cmpR op_ge (pv 4) pe_int (nomark _)) (pv 4) pe_non) (pa_cons (pe_callTy call_tuple_of (by rfl) (f_tuple T) bb_tuple (pa_cons (pv 5) pa_nil)) pa_nil)))))))), ?_⟩
  refine ⟨_, rfl, _, rfl, _, _, _, _, rfl, rfl, ha, rfl, _, _, rfl, .inr ⟨_, hc, rfl⟩, _, _, rfl, rfl, ra, p.ws.length + 1, by rw [hvl]; rfl, hR, by omega, by omega, fun H1 s0 k1 hR1 hs0 => ⟨_, _, rfl, rfl, ?_⟩⟩
  refine ⟨by show 0 ≤ sizeLine; decide, fun D hD => ?_⟩
  obtain ⟨rx, hrx⟩ := hR1.some
  have nDr : D ≠ ra := fun e => by rw [e, hrx] at hD; cases hD
  have kD : Kp [] H1 (upd H1 D (.lst [])) := .new hD
  have hDH : H D = none := k1.freeS (fun a ha => by rw [List.mem_singleton.mp ha]; exact ⟨_, hrx⟩) hD
  have hR2 := hR1.kp kD (by simp)
  have hD2 : upd H1 D (.lst []) D = some (.lst []) := upd_same
  have k2 := k1.trans (kD.mono0 (S := [ra]))
  generalize upd H1 D (.lst []) = H2 at hR2 hD2 k2 ⊢
  refine ⟨_, rfl, _, rfl, ra, 2, rfl, hR2, by decide, by decide, fun H3 n0 k3 hR3 hn0 => ⟨_, _, rfl, rfl, _, rfl, (by omega), (by omega), ?_⟩⟩
  have hD3 := k3.keep _ _ hD2 (by simp [nDr])
  refine for_range (lo := 0) (n := (1 + (n0 : Nat) : Int).toNat) (fun i σ H' => ∃ o6 o7 us ks, σ = [some (.ref ra), some (.ref a), some (.int 2), some (.int 1), some (.int ((s0 : Nat) - 1)), some (.ref D), o6, o7] ∧ Kp [ra, D] H3 H' ∧ RowAt K H' ra ∧ H' D = some (.lst us) ∧ Paired (IsLk K H') us (ks.map PLk.lk) ∧ ks.length = i ∧ ∀ k ∈ ks, k.cell < p.cells ∧ k.low ≤ 4 ∧ k.low ≤ k.high ∧ k.high ≤ k.low + 1)
    ⟨_, _, [], [], rfl, .refl _ _, hR3, hD3, .nil, rfl, fun k hk => by cases hk⟩ ?_ ?_
  · rintro i σ H4 hi ⟨o6, o7, us, ks, rfl, k4, hR4, hD4, hus, hkl, hks⟩
    have hul : us.length = ks.length := by rw [paired_len hus, List.length_map]
    refine ⟨_, rfl, ra, 5, rfl, hR4, by decide, by decide, fun H5 lo k5 hR5 hlo => ?_⟩
    have hD5 := k5.keep _ _ hD4 (by simp [nDr])
    have ha5 := kpT (kpT (kpT (kpT ha k2) k3) k4) k5
    refine ⟨_, rfl, .inl ⟨rfl, _, SqL.of hD5⟩, ?_⟩
    refine ⟨_, rfl, _, rfl, _, _, _, _, rfl, rfl, ha5, rfl, ra, p.cells, rfl, hR5, by omega, by omega, fun H6 cl k6 hR6 hcl => ?_⟩
    refine ⟨_, rfl, _, rfl, _, rfl, _, rfl, _, _, rfl, rfl, ra, 2, rfl, hR6, by decide, by decide, fun H7 dh k7 hR7 hdh => ⟨_, _, rfl, rfl, by show 3 ≤ sizeLine; decide, fun tp htp => ?_⟩⟩
    have k47 : Kp [ra] H4 H7 := (k5.trans k6).trans k7
    have ktp : Kp [] H7 (upd H7 tp (.tup [.int (cl : Nat), .int (lo : Nat), .int ((lo : Nat) + (dh : Nat))])) := .new htp
    have htp8 : SqT K (upd H7 tp (.tup [.int (cl : Nat), .int (lo : Nat), .int ((lo : Nat) + (dh : Nat))])) tp [.int (cl : Nat), .int (lo : Nat), .int ((lo : Nat) + (dh : Nat))] := SqT.of upd_same
    have hR8 := hR7.kp ktp (by simp)
    have k48 := k47.trans (ktp.mono0 (S := [ra]))
    generalize upd H7 tp (.tup [.int (cl : Nat), .int (lo : Nat), .int ((lo : Nat) + (dh : Nat))]) = H8 at htp8 hR8 k48 ⊢
    have hD8 := k48.keep _ _ hD4 (by simp [nDr])
    have kx : Kp [D] H8 (upd H8 D (.lst (us ++ [.ref tp]))) := .put (by simp) hD8 rfl
    refine ⟨D, us, _, rfl, rfl, hD8, small1000 (by omega), ?_⟩
    refine ⟨_, _, us ++ [.ref tp], ks ++ [⟨cl, lo, lo + dh⟩], rfl, (k4.trans (k48.mono (by simp))).trans (kx.mono (by simp)), hR8.kp kx (by simp [nDr.symm]), upd_same, ?_, by rw [List.length_append, hkl]; rfl, fun k hk => ?_⟩
    · rw [List.map_append]
      exact paired_snoc (pkp hus fun _ _ z => (z.kp k48).kp kx) ⟨tp, rfl, kpT htp8 kx⟩
    · rcases List.mem_append.mp hk with z | z
      · exact hks k z
      · have : k = ⟨cl, lo, lo + dh⟩ := by simpa using z
        subst this
        exact ⟨hcl, by show lo ≤ 4; omega, by show lo ≤ lo + dh; omega, by show lo + dh ≤ lo + 1; omega⟩
  · rintro σ H4 ⟨o6, o7, us, ks, rfl, k4, hR4, hD4, hus, hkl, hks⟩
    have kH4 : Kp [ra] H H4 := (k2.trans k3).drop k4 (fun x hx => by
      have : x = ra ∨ x = D := by simpa using hx
      rcases this with e | e
      · exact .inr (by rw [e]; simp)
      · exact .inl (by rw [e]; exact hDH))
    have fin : ∀ st : Option Nat, (∀ n, st = some n → n < p.ws.length) → ∀ tw tp, H4 tw = none → upd H4 tw (.tup us) tp = none → Q (.ref tp) (upd (upd H4 tw (.tup us)) tp (.tup [startV st, .ref tw])) := fun st hst tw tp htw htp => by
      have kk : Kp [] H4 (upd (upd H4 tw (.tup us)) tp (.tup [startV st, .ref tw])) := (Kp.new htw).newT htp
      exact q _ tp tw us st ks (kH4.trans kk.mono0) (hR4.kp kk (by simp)) ⟨hst, by omega, by omega, hks⟩ (SqT.of upd_same) (kpT (SqT.of (upd_same (H := H4) (a := tw))) (Kp.new (S := []) htp)) (pkp hus fun _ _ z => z.kp kk)
    refine ⟨_, rfl, _, _, rfl, rfl, _, rfl, ite2 (fun hc => ?_) (fun hc => ?_)⟩
    · have h1 := of_decide_eq_true hc
      refine ⟨_, rfl, _, rfl, D, _, rfl, .inl ⟨SqL.of hD4, fun tw htw => ⟨by show 2 ≤ sizeLine; decide, fun tp htp => ?_⟩⟩⟩
      have e : V.int ((s0 : Nat) - 1) = startV (some (s0 - 1)) := by show V.int _ = V.int ((s0 - 1 : Nat) : Int); congr 1; omega
      show Q (.ref tp) (upd (upd H4 tw (.tup us)) tp (.tup [V.int ((s0 : Nat) - 1), .ref tw]))
      rw [e]
      exact fin _ (fun n hn => by cases hn; omega) tw tp htw htp
    · refine ⟨_, rfl, D, _, rfl, .inl ⟨SqL.of hD4, fun tw htw => ⟨by show 2 ≤ sizeLine; decide, fun tp htp => ?_⟩⟩⟩
      exact fin none (fun n hn => by cases hn) tw tp htw htp
def sp_law_claim (K : PySem.W.Frag) (d : Nat) : Sp := fun vs H Q _ => ∃ (ra : Addr) (L : Nat), vs = [.ref ra, .int (L : Nat), .int (d : Nat)] ∧ RowAt K H ra ∧ 1 ≤ L ∧ L ≤ 2 ∧
  ∀ (H' : Hp) (v : V) (c : Cl), Kp [ra] H H' → RowAt K H' ra → IsCl K H' v c → c.Ok L → c.Sm → c.ht ≤ d → c.parts + 1 ≤ (2 : Int) ^ (d + 1) → Q v H'
theorem sc_law_claim : FnScope ["_law_row", "_law_looks", "_law_deep", "_law_way"] ["_law_row", "_law_looks", "_law_deep"] (defScope s_law_claim) := ⟨rfl, rfl, rfl, by decide +kernel, rfl, by decide +kernel, by decide +kernel⟩
theorem step_law_claim (T : Txt w K mg) {k d : Nat} (hk : 2 ≤ k) {S : Sp} (hS : ∀ d', d = d' + 1 → ∀ vs H Q E, sp_law_claim K d' vs H Q E → S vs H Q E)
    (G_law_claim : FnOk P w K mg base CX0 k (He.ga K "_law_claim") (fdA K (He.ga K "_law_claim")) ["_law_row", "_law_looks", "_law_deep"] S) :
    FnOk P w K mg base CX0 (k + 1) (He.ga K "_law_claim") (fdA K (He.ga K "_law_claim")) ["_law_row", "_law_looks", "_law_deep"] (sp_law_claim K d) := by
  have G_law_taken := ok_law_taken (P := P) (base := base) T
  have G_law_pick := ok_law_pick (P := P) (base := base) T
  refine (d_law_claim T).ok sc_law_claim (fun vs H Q E h => ?_) (fun cdv A outer s H vs Q E hr h => ?_)
  · obtain ⟨_, _, rfl, _⟩ := h; rfl
  obtain ⟨ra, L, rfl, hR, hL1, hL2, q⟩ := h
  have two : (2 : Int) ≤ 2 ^ (d + 1) := by
    have : (2 : Int) ^ (d + 1) = 2 ^ d * 2 := Int.pow_succ ..
    have h1 : (1 : Int) ≤ 2 ^ d := Int.pow_pos (by decide)
    omega
  refine ⟨_, (pss_cons (ps_set (i := 3) sc_law_claim.nd rfl (Or.inl rfl) (pe_cut (pe_ifExp (pt_cmpR op_gt (pv 2) pe_int (nomark _)) (pcall (d_law_taken T) G_law_taken (hr.mono (by omega)) (pa_cons (pv 0) (pa_cons pe_int pa_nil))) (pcall (d_law_taken T) G_law_taken (hr.mono (by omega)) (pa_cons (pv 0) (pa_cons pe_int pa_nil))))))
      (pss_cons (ps_if (pt_cmpR op_lt (pv 3) pe_int (nomark _)) (pss_one (ps_ret (pe_tup (pa_cons pe_str (pa_cons (pcall (d_law_taken T) G_law_taken (hr.mono (by omega)) (pa_cons (pv 0) (pa_cons (pv 1) pa_nil))) (pa_cons (pcall (d_law_pick T) G_law_pick (hr.mono (by omega)) (pa_cons (pv 0) (pa_cons (pe_lst (pa_cons pe_str (pa_cons pe_str (pa_cons pe_str (pa_cons pe_str pa_nil))))) pa_nil))) pa_nil)))))) pss_nil)
      (pss_cons (ps_if (pt_cmpR op_eq (pv 3) pe_int (nomark _)) (pss_one (ps_ret (pe_tup (pa_cons pe_str (pa_cons (pcall (d_law_taken T) G_law_taken (hr.mono (by omega)) (pa_cons (pv 0) (pa_cons (pv 1) pa_nil))) (pa_cons (pcall (d_law_taken T) G_law_taken (hr.mono (by omega)) (pa_cons (pv 0) (pa_cons (pv 1) pa_nil))) pa_nil)))))) pss_nil)
      (pss_cons (ps_if (pt_cmpR op_eq (pv 3) pe_int (nomark _)) (pss_one (ps_ret (pe_tup (pa_cons pe_str (pa_cons (pcall (d_law_claim T) G_law_claim (hr.mono (by omega)) (pa_cons (pv 0) (pa_cons (pv 1) (pa_cons (pe_op op_sub (pv 2) pe_int) pa_nil)))) pa_nil))))) pss_nil)
      (pss_one (ps_ret (pe_tup (pa_cons (pcall (d_law_pick T) G_law_pick (hr.mono (by omega)) (pa_cons (pv 0) (pa_cons (pe_lst (pa_cons pe_str (pa_cons pe_str pa_nil))) pa_nil))) (pa_cons (pcall (d_law_claim T) G_law_claim (hr.mono (by omega)) (pa_cons (pv 0) (pa_cons (pv 1) (pa_cons (pe_op op_sub (pv 2) pe_int) pa_nil)))) (pa_cons (pcall (d_law_claim T) G_law_claim (hr.mono (by omega)) (pa_cons (pv 0) (pa_cons (pv 1) (pa_cons (pe_op op_sub (pv 2) pe_int) pa_nil)))) pa_nil)))))))))), ?_⟩
  refine ⟨fun v H' => ∃ n : Nat, v = .int (n : Nat) ∧ Kp [ra] H H' ∧ RowAt K H' ra ∧ n < 6 ∧ (3 ≤ n → 0 < d), ?_, ?_⟩
  · refine ⟨_, rfl, _, _, rfl, rfl, _, rfl, ite2 (fun hc => ?_) (fun hc => ?_)⟩
    · have := of_decide_eq_true hc
      exact ⟨_, rfl, ra, 6, rfl, hR, by decide, by decide, fun H1 n k1 hR1 hn => ⟨n, rfl, k1, hR1, hn, fun _ => by omega⟩⟩
    · exact ⟨_, rfl, ra, 3, rfl, hR, by decide, by decide, fun H1 n k1 hR1 hn => ⟨n, rfl, k1, hR1, by omega, fun _ => by omega⟩⟩
  rintro v H1 ⟨n, rfl, k1, hR1, hn6, hn3⟩
  refine ⟨_, rfl, _, _, rfl, rfl, _, rfl, ite2 (fun hc => ?_) (fun hc => ?_)⟩
  · refine ⟨_, rfl, _, rfl, ra, L, rfl, hR1, hL1, by omega, fun H2 i k2 hR2 hi => ?_⟩
    refine ⟨_, rfl, by show 4 ≤ sizeLine; decide, fun l hl => ?_⟩
    obtain ⟨rx, hrx⟩ := hR2.some
    have nlr : l ≠ ra := fun e => by rw [e, hrx] at hl; cases hl
    refine ⟨ra, l, _, rfl, hR2.kp (Kp.new (S := []) hl) (by simp), upd_same, nlr, by decide, by decide, fun H3 x k3 hR3 hx => ⟨by show 3 ≤ sizeLine; decide, fun t ht => ?_⟩⟩
    have hsg : ∃ c : Nat, x = .str (sg c) ∧ (c = 46 ∨ (97 ≤ c ∧ c ≤ 122)) ∧ (c = 46 ∨ cls c = 1) := by
      have : x = .str "a" ∨ x = .str "b" ∨ x = .str "c" ∨ x = .str "." := by simpa using hx
      rcases this with e | e | e | e
      · exact ⟨97, by rw [e]; decide +kernel, .inr (by decide), .inr (by decide)⟩
      · exact ⟨98, by rw [e]; decide +kernel, .inr (by decide), .inr (by decide)⟩
      · exact ⟨99, by rw [e]; decide +kernel, .inr (by decide), .inr (by decide)⟩
      · exact ⟨46, by rw [e]; decide +kernel, .inl rfl, .inl rfl⟩
    obtain ⟨c, rfl, hc1, hc2⟩ := hsg
    have kt : Kp [] H3 (upd H3 t (.tup [.str "sees", .int (i : Nat), .str (sg c)])) := .new ht
    exact q _ _ (.sees i c) (((k1.trans k2).trans ((Kp.new (S := []) hl).mono0.trans k3)).trans kt.mono0) (hR3.kp kt (by simp)) ⟨t, rfl, SqT.of upd_same⟩ ⟨hi, hc1⟩ ⟨by omega, hc2⟩ (Nat.zero_le _) (by show (1 : Int) + 1 ≤ _; omega)
  have hc' : ¬ ((n : Nat) : Int) < 2 := fun z => hc (decide_eq_true z)
  refine ⟨_, rfl, rfl, _, rfl, ?_⟩
  by_cases h2 : n = 2
  · subst h2
    refine iteDT rfl ?_
    refine ⟨_, rfl, _, rfl, ra, L, rfl, hR1, hL1, by omega, fun H2 i k2 hR2 hi => ?_⟩
    refine ⟨_, rfl, _, rfl, ra, L, rfl, hR2, hL1, by omega, fun H3 j k3 hR3 hj => ⟨by show 3 ≤ sizeLine; decide, fun t ht => ?_⟩⟩
    have kt : Kp [] H3 (upd H3 t (.tup [.str "alike", .int (i : Nat), .int (j : Nat)])) := .new ht
    exact q _ _ (.alike i j) (((k1.trans k2).trans k3).trans kt.mono0) (hR3.kp kt (by simp)) ⟨t, rfl, SqT.of upd_same⟩ ⟨hi, hj⟩ ⟨by omega, by omega⟩ (Nat.zero_le _) (by show (1 : Int) + 1 ≤ _; omega)
  refine iteDF (fun z => h2 (by have := V.int.inj z; omega)) ?_
  obtain ⟨d', rfl⟩ : ∃ d', d = d' + 1 := ⟨d - 1, by have := hn3 (by omega); omega⟩
  have ed : ((d' + 1 : Nat) : Int) - 1 = (d' : Nat) := by omega
  have p2 : (2 : Int) ^ (d' + 1 + 1) = 2 ^ (d' + 1) * 2 := Int.pow_succ ..
  have h1 : (2 : Int) ≤ 2 ^ (d' + 1) := by
    have : (2 : Int) ^ (d' + 1) = 2 ^ d' * 2 := Int.pow_succ ..
    have h1 : (1 : Int) ≤ 2 ^ d' := Int.pow_pos (by decide)
    omega
  refine ⟨_, rfl, rfl, _, rfl, ?_⟩
  by_cases h3 : n = 3
  · subst h3
    refine iteDT rfl ?_
    refine ⟨_, rfl, _, rfl, _, rfl, _, _, rfl, rfl, hS d' rfl _ _ _ _ ⟨ra, L, by rw [← ed]; rfl, hR1, hL1, hL2, fun H2 u c k2 hR2 hu ok sm ht hp => ⟨by show 2 ≤ sizeLine; decide, fun t htn => ?_⟩⟩⟩
    have kt : Kp [] H2 (upd H2 t (.tup [.str "not", u])) := .new htn
    exact q _ _ (.not c) ((k1.trans k2).trans kt.mono0) (hR2.kp kt (by simp)) ⟨t, u, rfl, SqT.of upd_same, hu.kp kt⟩ ok sm (by show c.ht + 1 ≤ _; omega) (by show (1 + c.parts) + 1 ≤ _; omega)
  refine iteDF (fun z => h3 (by have := V.int.inj z; omega)) ?_
  refine ⟨_, rfl, by show 2 ≤ sizeLine; decide, fun l hl => ?_⟩
  obtain ⟨rx, hrx⟩ := hR1.some
  have nlr : l ≠ ra := fun e => by rw [e, hrx] at hl; cases hl
  refine ⟨ra, l, _, rfl, hR1.kp (Kp.new (S := []) hl) (by simp), upd_same, nlr, by decide, by decide, fun H2 x k2 hR2 hx => ?_⟩
  have hop : ∃ o : Bool, x = .str (bw o) := by
    have : x = .str "and" ∨ x = .str "or" := by simpa using hx
    rcases this with e | e
    · exact ⟨false, e⟩
    · exact ⟨true, e⟩
  obtain ⟨o, rfl⟩ := hop
  refine ⟨_, rfl, _, rfl, _, rfl, _, _, rfl, rfl, hS d' rfl _ _ _ _ ⟨ra, L, by rw [← ed]; rfl, hR2, hL1, hL2, fun H3 u c k3 hR3 hu ok sm ht hp => ?_⟩⟩
  refine ⟨_, rfl, _, rfl, _, rfl, _, _, rfl, rfl, hS d' rfl _ _ _ _ ⟨ra, L, by rw [← ed]; rfl, hR3, hL1, hL2, fun H4 u2 c2 k4 hR4 hu2 ok2 sm2 ht2 hp2 => ⟨by show 3 ≤ sizeLine; decide, fun t htn => ?_⟩⟩⟩
  have kt : Kp [] H4 (upd H4 t (.tup [.str (bw o), u, u2])) := .new htn
  exact q _ _ (.bin o c c2) ((((k1.trans ((Kp.new (S := []) hl).mono0.trans k2)).trans k3).trans k4).trans kt.mono0) (hR4.kp kt (by simp)) ⟨t, u, u2, rfl, SqT.of upd_same, (hu.kp k4).kp kt, hu2.kp kt⟩ ⟨ok, ok2⟩ ⟨sm, sm2⟩ (by show max c.ht c2.ht + 1 ≤ _; omega) (by show (1 + (c.parts + c2.parts)) + 1 ≤ _; omega)
theorem ok_law_claim (T : Txt w K mg) : ∀ d, FnOk P w K mg base CX0 (d + 3) (He.ga K "_law_claim") (fdA K (He.ga K "_law_claim")) ["_law_row", "_law_looks", "_law_deep"] (sp_law_claim K d)
  | 0 => step_law_claim T (k := 2) (d := 0) (by decide) (S := fun _ _ _ _ => False) (fun d' h => by omega) ((d_law_claim T).ok (k := 1) sc_law_claim (fun vs H Q E h => h.elim) (fun cdv A outer s H vs Q E hr h => h.elim))
  | d + 1 => step_law_claim T (k := d + 3) (d := d + 1) (by omega) (S := sp_law_claim K d) (fun d' h vs H Q E hs => by
      have : d = d' := by omega
      subst this; exact hs) (ok_law_claim T d)
end
end Ink
set_option Elab.async false
set_option linter.all false
set_option pp.maxSteps 150
set_option maxRecDepth 100000
set_option maxHeartbeats 4000000
namespace Ink
open PySem PySem.Spec PyProof.Rows L2 StX
section
variable {P : Program} {w : World} {K : PySem.W.Frag} {mg : Str → Option Value} {base : Heap}
def sp_law_so (K : PySem.W.Frag) (h : Nat) : Sp := fun vs H Q _ => ∃ (z : List Nat) (v : V) (c : Cl), vs = [.str (strL z), v] ∧ IsCl K H v c ∧ c.Ok z.length ∧ c.ht < h ∧ z.length ≤ 2 ∧ Q (.bl (clSo z c)) H
theorem sc_law_so : FnScope ["_law_reading", "_law_claim_here", "_law_word", "_law_one", "_law_other"] ["_law_reading", "_law_claim_here"] (defScope s_law_so) := ⟨rfl, rfl, rfl, by decide +kernel, rfl, by decide +kernel, by decide +kernel⟩
theorem ok_law_so (T : Txt w K mg) : ∀ h, FnOk P w K mg base CX0 (h + 1) (He.ga K "_law_so") (fdA K (He.ga K "_law_so")) ["_law_reading", "_law_claim_here"] (sp_law_so K h)
  | 0 => (d_law_so T).ok sc_law_so (fun vs H Q E h => by obtain ⟨_, _, _, rfl, _⟩ := h; rfl) (fun cdv A outer s H vs Q E hr h => by obtain ⟨_, _, _, _, _, _, z, _⟩ := h; exact absurd z (Nat.not_lt_zero _))
  | h + 1 => by
    have G_law_so := ok_law_so T h
    refine (d_law_so T).ok sc_law_so (fun vs H Q E h => ?_) (fun cdv A outer s H vs Q E hr h => ?_)
    · obtain ⟨_, _, _, rfl, _⟩ := h; rfl
    obtain ⟨z, v, c, rfl, hc, ok, hlt, hz, q⟩ := h
    have hzl : (strL z).length ≤ sizeLine := Nat.le_trans hz (by decide)
    refine ⟨_, (pss_cons (ps_set (i := 2) sc_law_so.nd rfl (Or.inl rfl) (pe_ix ix_tup (pv 1) pe_int (fun _ _ => rfl)))
      (pss_cons (ps_if (pt_cmpR op_eq (pv 2) pe_str (nomark _)) (pss_one (ps_ret (pe_cmpR op_eq (pe_ix ix_str (pv 0) (pe_ix ix_tup (pv 1) pe_int (fun _ _ => rfl)) (fun _ _ => rfl)) (pe_ix ix_tup (pv 1) pe_int (fun _ _ => rfl)) (nomark _)))) pss_nil)
      (pss_cons (ps_if (pt_cmpR op_eq (pv 2) pe_str (nomark _)) (pss_one (ps_ret (pe_cmpR op_eq (pe_ix ix_str (pv 0) (pe_ix ix_tup (pv 1) pe_int (fun _ _ => rfl)) (fun _ _ => rfl)) (pe_ix ix_str (pv 0) (pe_ix ix_tup (pv 1) pe_int (fun _ _ => rfl)) (fun _ _ => rfl)) (nomark _)))) pss_nil)
      (pss_cons (ps_if (pt_cmpR op_eq (pv 2) pe_str (nomark _)) (pss_one (ps_ret (pe_not (pcall (d_law_so T) G_law_so (hr.mono (by omega)) (pa_cons (pv 0) (pa_cons (pe_ix ix_tup (pv 1) pe_int (fun _ _ => rfl)) pa_nil)))))) pss_nil)
      (pss_cons (ps_par (i := 3) (j := 4) rfl sc_law_so.nd rfl rfl (by decide) rfl rfl (pa_cons (pcall (d_law_so T) G_law_so (hr.mono (by omega)) (pa_cons (pv 0) (pa_cons (pe_ix ix_tup (pv 1) pe_int (fun _ _ => rfl)) pa_nil))) (pa_cons (pcall (d_law_so T) G_law_so (hr.mono (by omega)) (pa_cons (pv 0) (pa_cons (pe_ix ix_tup (pv 1) pe_int (fun _ _ => rfl)) pa_nil))) pa_nil)) (by rfl))
      (pss_one (ps_ret (pe_ifExp (pt_cmpR op_eq (pv 2) pe_str (nomark _)) (pe_and (pv 3) (pe_one (pv 4))) (pe_or (pv 3) (pe_one (pv 4))))))))))), ?_⟩
    cases c with
    | sees i ch =>
      obtain ⟨a, rfl, ha⟩ := hc
      have e1 : z[i]? = some (z[i]'ok.1) := List.getElem?_eq_getElem ok.1
      refine ⟨_, rfl, a, _, _, _, rfl, rfl, ha, rfl, _, rfl, rfl, _, rfl, iteDT rfl ?_⟩
      refine ⟨_, rfl, _, rfl, a, _, _, _, rfl, rfl, ha, rfl, _, _, _, rfl, rfl, hzl, atI_nat e1, _, rfl, a, _, _, _, rfl, rfl, ha, rfl, rfl, ?_⟩
      refine qb ?_ q
      show decide (V.str (sg _) = V.str (sg ch)) = decide (z[i]? = some ch)
      rw [e1]
      exact dec_sg _ _
    | alike i j =>
      obtain ⟨a, rfl, ha⟩ := hc
      have e1 : z[i]? = some (z[i]'ok.1) := List.getElem?_eq_getElem ok.1
      have e2 : z[j]? = some (z[j]'ok.2) := List.getElem?_eq_getElem ok.2
      refine ⟨_, rfl, a, _, _, _, rfl, rfl, ha, rfl, _, rfl, rfl, _, rfl, iteDF (by decide +kernel) ?_⟩
      refine ⟨_, rfl, rfl, _, rfl, iteDT rfl ?_⟩
      refine ⟨_, rfl, _, rfl, a, _, _, _, rfl, rfl, ha, rfl, _, _, _, rfl, rfl, hzl, atI_nat e1, _, rfl, _, rfl, a, _, _, _, rfl, rfl, ha, rfl, _, _, _, rfl, rfl, hzl, atI_nat e2, rfl, ?_⟩
      refine qb ?_ q
      show decide (V.str (sg _) = V.str (sg _)) = decide (z[i]? = z[j]?)
      rw [e1, e2]
      exact dec_sg _ _
    | not x =>
      obtain ⟨a, u, rfl, ha, hx⟩ := hc
      have hht : x.ht < h := Nat.lt_of_succ_lt_succ hlt
      refine ⟨_, rfl, a, _, _, _, rfl, rfl, ha, rfl, _, rfl, rfl, _, rfl, iteDF (by decide +kernel) ?_⟩
      refine ⟨_, rfl, rfl, _, rfl, iteDF (by decide +kernel) ?_⟩
      refine ⟨_, rfl, rfl, _, rfl, iteDT rfl ?_⟩
      exact ⟨_, rfl, _, rfl, a, _, _, _, rfl, rfl, ha, rfl, z, u, x, rfl, hx, ok, hht, hz, _, rfl, q⟩
    | bin o x y =>
      obtain ⟨a, u, t, rfl, ha, hx, hy⟩ := hc
      have hht : max x.ht y.ht < h := Nat.lt_of_succ_lt_succ hlt
      have w1 : ¬ (V.str (bw o) = V.str "sees") := by cases o <;> decide +kernel
      have w2 : ¬ (V.str (bw o) = V.str "alike") := by cases o <;> decide +kernel
      have w3 : ¬ (V.str (bw o) = V.str "not") := by cases o <;> decide +kernel
      refine ⟨_, rfl, a, _, _, _, rfl, rfl, ha, rfl, _, rfl, rfl, _, rfl, iteDF w1 ?_⟩
      refine ⟨_, rfl, rfl, _, rfl, iteDF w2 ?_⟩
      refine ⟨_, rfl, rfl, _, rfl, iteDF w3 ?_⟩
      refine ⟨_, rfl, _, rfl, a, _, _, _, rfl, rfl, ha, rfl, z, u, x, rfl, hx, ok.1, by omega, hz, _, rfl, _, rfl, a, _, _, _, rfl, rfl, ha, rfl, z, t, y, rfl, hy, ok.2, by omega, hz, _, _, rfl, ?_⟩
      refine ⟨_, rfl, rfl, _, rfl, ?_⟩
      have q' : Q (.bl (if o then clSo z x || clSo z y else clSo z x && clSo z y)) H := q
      cases o with
      | false =>
        refine iteDT rfl ?_
        refine ⟨_, rfl, _, rfl, ?_⟩
        cases h1 : clSo z x with
        | true => rw [h1] at q'; exact iteT ⟨_, rfl, q'⟩
        | false => rw [h1] at q'; exact iteF q'
      | true =>
        refine iteDF (by decide +kernel) ?_
        refine ⟨_, rfl, _, rfl, ?_⟩
        cases h1 : clSo z x with
        | true => rw [h1] at q'; exact iteT q'
        | false => rw [h1] at q'; exact iteF ⟨_, rfl, q'⟩
def sp_law_claim_text (K : PySem.W.Frag) (h : Nat) : Sp := fun vs H Q _ => ∃ (v : V) (c : Cl) (l : Nat), vs = [v, .int (l : Nat)] ∧ IsCl K H v c ∧ c.Sm ∧ c.ht < h ∧ c.ht < 4 ∧ Q (.str (strL (clT c l))) H
theorem sc_law_claim_text : FnScope ["_law_claim_here", "_law_least", "_law_word", "_law_level", "_law_found"] ["_law_claim_here", "_law_least"] (defScope s_law_claim_text) := ⟨rfl, rfl, rfl, by decide +kernel, rfl, by decide +kernel, by decide +kernel⟩
theorem ok_law_claim_text (T : Txt w K mg) : ∀ h, FnOk P w K mg base CX0 (h + 1) (He.ga K "_law_claim_text") (fdA K (He.ga K "_law_claim_text")) ["_law_claim_here", "_law_least"] (sp_law_claim_text K h)
  | 0 => (d_law_claim_text T).ok sc_law_claim_text (fun vs H Q E h => by obtain ⟨_, _, _, rfl, _⟩ := h; rfl) (fun cdv A outer s H vs Q E hr h => by obtain ⟨_, _, _, _, _, _, z, _⟩ := h; exact absurd z (Nat.not_lt_zero _))
  | h + 1 => by
    have G_law_claim_text := ok_law_claim_text T h
    refine (d_law_claim_text T).ok sc_law_claim_text (fun vs H Q E h => ?_) (fun cdv A outer s H vs Q E hr h => ?_)
    · obtain ⟨_, _, _, rfl, _⟩ := h; rfl
    obtain ⟨v, c, l, rfl, hc, hsm, hlt, h4, q⟩ := h
    refine ⟨_, (pss_cons (ps_set (i := 2) sc_law_claim_text.nd rfl (Or.inl rfl) (pe_ix ix_tup (pv 0) pe_int (fun _ _ => rfl)))
      (pss_cons (ps_if (pt_cmpR op_eq (pv 2) pe_str (nomark _)) (pss_one (ps_ret (pe_op op_add_str (pe_callTy call_str_int (by rfl) (f_str T) bb_str (pa_cons (pe_ix ix_tup (pv 0) pe_int (fun _ _ => rfl)) pa_nil)) (pe_ifExp (pt_cmpR op_eq (pe_ix ix_tup (pv 0) pe_int (fun _ _ => rfl)) pe_str (nomark _)) pe_str (pe_op op_add_str pe_str (pe_ix ix_tup (pv 0) pe_int (fun _ _ => rfl))))))) pss_nil)
      (pss_cons (ps_if (pt_cmpR op_eq (pv 2) pe_str (nomark _)) (pss_one (ps_ret (pe_op op_add_str (pe_op op_add_str (pe_callTy call_str_int (by rfl) (f_str T) bb_str (pa_cons (pe_ix ix_tup (pv 0) pe_int (fun _ _ => rfl)) pa_nil)) pe_str) (pe_callTy call_str_int (by rfl) (f_str T) bb_str (pa_cons (pe_ix ix_tup (pv 0) pe_int (fun _ _ => rfl)) pa_nil))))) pss_nil)
      (pss_cons (ps_if (pt_cmpR op_eq (pv 2) pe_str (nomark _)) (pss_one (ps_ret (pe_op op_add_str pe_str (pcall (d_law_claim_text T) G_law_claim_text (hr.mono (by omega)) (pa_cons (pe_ix ix_tup (pv 0) pe_int (fun _ _ => rfl)) (pa_cons pe_int pa_nil)))))) pss_nil)
      (pss_cons (ps_set (i := 3) sc_law_claim_text.nd rfl (Or.inl rfl) (pe_cut (pe_ifExp (pt_cmpR op_eq (pv 2) pe_str (nomark _)) pe_int pe_int)))
      (pss_cons (ps_set (i := 4) sc_law_claim_text.nd rfl (Or.inl rfl) (pe_op op_add_str (pe_op op_add_str (pe_op op_add_str (pe_op op_add_str (pcall (d_law_claim_text T) G_law_claim_text (hr.mono (by omega)) (pa_cons (pe_ix ix_tup (pv 0) pe_int (fun _ _ => rfl)) (pa_cons (pv 3) pa_nil))) pe_str) (pv 2)) pe_str) (pcall (d_law_claim_text T) G_law_claim_text (hr.mono (by omega)) (pa_cons (pe_ix ix_tup (pv 0) pe_int (fun _ _ => rfl)) (pa_cons (pe_op op_add (pv 3) pe_int) pa_nil)))))
      (pss_one (ps_ret (pe_ifExp (pt_cmpR op_lt (pv 3) (pv 1) (nomark _)) (pe_op op_add_str (pe_op op_add_str pe_str (pv 4)) pe_str) (pv 4)))))))))), ?_⟩
    cases c with
    | sees i ch =>
      obtain ⟨a, rfl, ha⟩ := hc
      refine ⟨_, rfl, a, _, _, _, rfl, rfl, ha, rfl, _, rfl, rfl, _, rfl, iteDT rfl ?_⟩
      refine ⟨_, rfl, a, _, _, _, rfl, rfl, ha, rfl, _, rfl, num_log hsm.1, ?_⟩
      rw [num_str hsm.1]
      refine ⟨_, rfl, a, _, _, _, rfl, rfl, ha, rfl, rfl, _, rfl, ?_⟩
      by_cases h46 : ch = 46
      · subst h46
        refine iteDT (by decide +kernel) ⟨_, _, rfl, rfl, sz2 (m := 1) (n := 9) (Nat.le_refl 1) (by decide +kernel) (by decide), ?_⟩
        exact q
      · refine iteDF (fun z => h46 (sg_inj z)) ⟨_, rfl, a, _, _, _, rfl, rfl, ha, rfl, _, _, rfl, rfl, sz2 (m := 9) (n := 1) (by decide +kernel) (Nat.le_refl 1) (by decide), _, _, rfl, rfl, sz2 (m := 1) (n := 10) (Nat.le_refl 1) (apl (m := 9) (n := 1) (by decide +kernel) (Nat.le_refl 1)) (by decide), ?_⟩
        refine qv ?_ q
        show V.str (strL (numW i) ++ (strL (kw " sees ") ++ strL [ch])) = V.str (strL (numW i ++ (if ch = 46 then kw " bare" else kw " sees " ++ [ch])))
        rw [if_neg h46, strL_app, strL_app]
    | alike i j =>
      obtain ⟨a, rfl, ha⟩ := hc
      refine ⟨_, rfl, a, _, _, _, rfl, rfl, ha, rfl, _, rfl, rfl, _, rfl, iteDF (by decide +kernel) ?_⟩
      refine ⟨_, rfl, rfl, _, rfl, iteDT rfl ?_⟩
      refine ⟨_, rfl, a, _, _, _, rfl, rfl, ha, rfl, _, rfl, num_log hsm.1, ?_⟩
      rw [num_str hsm.1]
      refine ⟨_, _, rfl, rfl, sz2 (m := 1) (n := 9) (Nat.le_refl 1) (by decide +kernel) (by decide), _, rfl, a, _, _, _, rfl, rfl, ha, rfl, _, rfl, num_log hsm.2, ?_⟩
      rw [num_str hsm.2]
      refine ⟨_, _, rfl, rfl, sz2 (m := 10) (n := 1) (apl (m := 1) (n := 9) (Nat.le_refl 1) (by decide +kernel)) (Nat.le_refl 1) (by decide), ?_⟩
      refine qv ?_ q
      show V.str (strL (numW i) ++ strL (kw " like ") ++ strL (numW j)) = _
      rw [strL_app, strL_app]
      rfl
    | not x =>
      obtain ⟨a, u, rfl, ha, hx⟩ := hc
      have e1 : x.ht + 1 < h + 1 := hlt
      have e2 : x.ht + 1 < 4 := h4
      refine ⟨_, rfl, a, _, _, _, rfl, rfl, ha, rfl, _, rfl, rfl, _, rfl, iteDF (by decide +kernel) ?_⟩
      refine ⟨_, rfl, rfl, _, rfl, iteDF (by decide +kernel) ?_⟩
      refine ⟨_, rfl, rfl, _, rfl, iteDT rfl ?_⟩
      refine ⟨_, rfl, a, _, _, _, rfl, rfl, ha, rfl, u, x, 3, rfl, hx, hsm, by omega, by omega, _, _, rfl, rfl, sz2 (m := 9) (n := 432) (by decide +kernel) (clT_small (by omega) 3) (by decide), ?_⟩
      refine qv ?_ q
      show V.str (strL (kw "not ") ++ strL (clT x 3)) = _
      rw [strL_app]
      rfl
    | bin o x y =>
      obtain ⟨a, u, t, rfl, ha, hx, hy⟩ := hc
      have e1 : max x.ht y.ht + 1 < h + 1 := hlt
      have e2 : max x.ht y.ht + 1 < 4 := h4
      have w1 : ¬ (V.str (bw o) = V.str "sees") := by cases o <;> decide +kernel
      have w2 : ¬ (V.str (bw o) = V.str "alike") := by cases o <;> decide +kernel
      have w3 : ¬ (V.str (bw o) = V.str "not") := by cases o <;> decide +kernel
      have lb : (bw o).length ≤ 3 := by cases o <;> decide +kernel
      have l1 := clT_small (c := x) (by omega) (lv o)
      have l2 := clT_small (c := y) (by omega) (lv o + 1)
      refine ⟨_, rfl, a, _, _, _, rfl, rfl, ha, rfl, _, rfl, rfl, _, rfl, iteDF w1 ?_⟩
      refine ⟨_, rfl, rfl, _, rfl, iteDF w2 ?_⟩
      refine ⟨_, rfl, rfl, _, rfl, iteDF w3 ?_⟩
      refine ⟨fun v H' => v = .int (lv o : Nat) ∧ H' = H, ?_, ?_⟩
      · refine ⟨_, rfl, rfl, _, rfl, ?_⟩
        cases o with
        | true => exact iteDT (by decide +kernel) ⟨rfl, rfl⟩
        | false => exact iteDF (by decide +kernel) ⟨rfl, rfl⟩
      rintro v H' ⟨rfl, rfl⟩
      refine ⟨_, rfl, a, _, _, _, rfl, rfl, ha, rfl, _, rfl, u, x, lv o, rfl, hx, hsm.1, by omega, by omega, ?_⟩
      refine ⟨_, _, rfl, rfl, sz2 (m := 432) (n := 1) l1 (by decide +kernel) (by decide), _, rfl, _, _, rfl, rfl, sz2 (m := 433) (n := 3) (apl (m := 432) (n := 1) l1 (by decide +kernel)) lb (by decide), _, _, rfl, rfl, sz2 (m := 436) (n := 1) (apl (m := 433) (n := 3) (apl (m := 432) (n := 1) l1 (by decide +kernel)) lb) (by decide +kernel) (by decide), ?_⟩
      refine ⟨_, rfl, a, _, _, _, rfl, rfl, ha, rfl, _, rfl, _, _, rfl, rfl, t, y, lv o + 1, rfl, hy, hsm.2, by omega, by omega, _, _, rfl, rfl, sz2 (m := 437) (n := 432) (apl (m := 436) (n := 1) (apl (m := 433) (n := 3) (apl (m := 432) (n := 1) l1 (by decide +kernel)) lb) (by decide +kernel)) l2 (by decide), ?_⟩
      have ein : strL (clT x (lv o)) ++ strL (kw " ") ++ strL (kw (bw o)) ++ strL (kw " ") ++ strL (clT y (lv o + 1)) = strL (clT x (lv o) ++ kw " " ++ kw (bw o) ++ kw " " ++ clT y (lv o + 1)) := by
        rw [strL_app, strL_app, strL_app, strL_app]
      have lin : (strL (clT x (lv o)) ++ strL (kw " ") ++ strL (kw (bw o)) ++ strL (kw " ") ++ strL (clT y (lv o + 1))).length ≤ 869 := apl (m := 437) (n := 432) (apl (m := 436) (n := 1) (apl (m := 433) (n := 3) (apl (m := 432) (n := 1) l1 (by decide +kernel)) lb) (by decide +kernel)) l2
      refine ⟨_, rfl, _, rfl, _, _, rfl, rfl, _, rfl, ?_⟩
      by_cases hl : l ≤ lv o
      · refine iteDF (by omega) ⟨_, rfl, ?_⟩
        refine qv ?_ q
        show V.str (strL (clT x (lv o)) ++ strL (kw " ") ++ strL (kw (bw o)) ++ strL (kw " ") ++ strL (clT y (lv o + 1))) = V.str (strL (if l ≤ lv o then _ else _))
        rw [ein, if_pos hl]
      · refine iteDT (by omega) ⟨_, rfl, _, _, rfl, rfl, sz2 (m := 1) (n := 869) (by decide +kernel) lin (by decide), _, _, rfl, rfl, sz2 (m := 870) (n := 1) (apl (m := 1) (n := 869) (by decide +kernel) lin) (by decide +kernel) (by decide), ?_⟩
        refine qv ?_ q
        show V.str (strL (kw "(") ++ (strL (clT x (lv o)) ++ strL (kw " ") ++ strL (kw (bw o)) ++ strL (kw " ") ++ strL (clT y (lv o + 1))) ++ strL (kw ")")) = V.str (strL (if l ≤ lv o then _ else _))
        rw [ein, if_neg hl, strL_app, strL_app]
end
end Ink
set_option Elab.async false
set_option linter.all false
set_option pp.maxSteps 150
set_option maxRecDepth 100000
set_option maxHeartbeats 4000000
namespace Ink
open PySem PySem.Spec PyProof.Rows L2 StX
def runs (f : Int) : List Int → List Int
  | [] => []
  | n :: ns => (f + n) :: runs (f + n) ns
theorem runs_snoc (n : Int) : ∀ (ns : List Int) (f : Int), runs f (ns ++ [n]) = runs f ns ++ [f + ns.sum + n]
  | [], f => by simp [runs]
  | m :: ns, f => by
    show (f + m) :: runs (f + m) (ns ++ [n]) = (f + m) :: (runs (f + m) ns ++ [f + (m + ns.sum) + n])
    rw [runs_snoc n ns (f + m)]
    congr 3
    omega
theorem runs_len : ∀ (ns : List Int) (f : Int), (runs f ns).length = ns.length
  | [], _ => rfl
  | n :: ns, f => congrArg (· + 1) (runs_len ns (f + n))
section
variable {P : Program} {w : World} {K : PySem.W.Frag} {mg : Str → Option Value} {base : Heap}
def sp_law_ticks (K : PySem.W.Frag) : Sp := fun vs H Q _ => ∃ (t : Addr) (ns : List Int) (f : Int), vs = [.ref t, .int f] ∧ SqT K H t (ns.map V.int) ∧ ns.length ≤ 10 ∧
  ∀ H' a, Kp [] H H' → H a = none → H' a = some (.lst ((runs f ns).map V.int)) → Q (.ref a) H'
theorem sc_law_ticks : FnScope ["_law_rests", "_law_first", "_law_found", "_law_rest"] ["_law_rests", "_law_first"] (defScope s_law_ticks) := ⟨rfl, rfl, rfl, by decide +kernel, rfl, by decide +kernel, by decide +kernel⟩
theorem ok_law_ticks (T : Txt w K mg) : FnOk P w K mg base CX0 1 (He.ga K "_law_ticks") (fdA K (He.ga K "_law_ticks")) ["_law_rests", "_law_first"] (sp_law_ticks K) := by
  refine (d_law_ticks T).ok sc_law_ticks (fun vs H Q E h => ?_) (fun cdv A outer s H vs Q E hr h => ?_)
  · obtain ⟨_, _, _, rfl, _⟩ := h; rfl
  obtain ⟨t, ns, f, rfl, ht, hn, q⟩ := h
  refine ⟨_, (pss_cons (ps_set (i := 2) sc_law_ticks.nd rfl (Or.inl rfl) (pe_lst pa_nil))
      (pss_cons (ps_for PassesOwn.never rfl (pi_tup (pv 0)) (pg_name (i := 3) sc_law_ticks.nd rfl (Or.inl rfl)) (pss_cons (ps_set (i := 1) sc_law_ticks.nd rfl (Or.inl rfl) (pe_op op_add (pv 1) (pv 3)))
      (pss_one (ps_expr (pe_bm PySem.F.plainAttrs_list PySem.F.slot_list_append PySem.F.type_list_append mt_append (pv 2) (pa_cons (pv 1) pa_nil))))))
      (pss_one (ps_ret (pv 2))))), ?_⟩
  refine ⟨by show 0 ≤ sizeLine; decide, fun D hD => ?_⟩
  have kD : Kp [] H (upd H D (.lst [])) := .new hD
  refine ⟨_, rfl, t, rfl, ⟨_, kpT ht kD⟩, for_tup (xs := ns.map V.int) (fun i σ H' => ∃ o3, σ = [some (.ref t), some (.int (f + (ns.take i).sum)), some (.ref D), o3] ∧ Kp [] H H' ∧ H' D = some (.lst ((runs f (ns.take i)).map V.int)))
    ⟨_, by simp; rfl, kD, upd_same⟩ (fun i σ H' _ h => by obtain ⟨_, _, k, _⟩ := h; exact kpT ht k) ?_ ?_⟩
  · rintro i x σ H1 hx ⟨o3, rfl, k1, hD1⟩
    rw [List.getElem?_map] at hx
    obtain ⟨n, hn', rfl⟩ := Option.map_eq_some_iff.mp hx
    have hi : i < ns.length := (List.getElem?_eq_some_iff.mp hn').1
    have et : ns.take (i + 1) = ns.take i ++ [n] := by rw [List.take_succ, hn']; rfl
    refine ⟨_, rfl, _, rfl, _, _, rfl, rfl, ?_⟩
    refine ⟨_, rfl, .inl ⟨rfl, _, SqL.of hD1⟩, _, rfl, D, _, _, rfl, rfl, hD1, small1000 (by rw [List.length_map, runs_len, List.length_take]; omega), ?_⟩
    refine ⟨some (.int n), ?_, k1.putN hD, ?_⟩
    · rw [et, List.sum_append]
      show ([some (V.ref t), some (V.int (f + (ns.take i).sum + n)), some (.ref D), some (V.int n)] : L2.St) = _
      congr 3
      simp
      omega
    · rw [upd_same, et, runs_snoc, List.map_append]
      rfl
  · rintro σ H1 ⟨o3, rfl, k1, hD1⟩
    rw [List.length_map, List.take_length] at hD1
    exact ⟨_, rfl, q H1 D k1 hD hD1⟩
def sp_law_seen (K : PySem.W.Frag) : Sp := fun vs H Q _ => ∃ (v : V) (p : Pl) (dl : Addr) (ds : List Int) (cell tick : Int) (qq : Nat → Int), vs = [v, .ref dl, .int cell, .int tick] ∧ IsPl K H v p ∧ p.Ok ∧ H dl = some (.lst (ds.map V.int)) ∧ ds.length = p.ws.length ∧ (∀ i, i < p.ws.length → ds[i]? = some (qq (i + 1))) ∧
  ∀ H', Kp [] H H' → Q (.str (sg (seenN p qq cell tick p.ws.length))) H'
theorem sc_law_seen : FnScope ["_law_plan_here", "_law_told", "_law_cell", "_law_tick", "_law_found", "_law_write", "_law_done"] ["_law_plan_here", "_law_told", "_law_cell", "_law_tick"] (defScope s_law_seen) := ⟨rfl, rfl, rfl, by decide +kernel, rfl, by decide +kernel, by decide +kernel⟩
theorem ok_law_seen (T : Txt w K mg) : FnOk P w K mg base CX0 1 (He.ga K "_law_seen") (fdA K (He.ga K "_law_seen")) ["_law_plan_here", "_law_told", "_law_cell", "_law_tick"] (sp_law_seen K) := by
  refine (d_law_seen T).ok sc_law_seen (fun vs H Q E h => ?_) (fun cdv A outer s H vs Q E hr h => ?_)
  · obtain ⟨_, _, _, _, _, _, _, rfl, _⟩ := h; rfl
  obtain ⟨v, p, dl, ds, cell, tick, qq, rfl, ⟨a, b, c, vs, rfl, ha, hb, hc, hp⟩, ok, hd, hdl, hdq, q⟩ := h
  have hvl : vs.length = p.ws.length := paired_len hp
  refine ⟨_, (pss_cons (ps_set (i := 4) sc_law_seen.nd rfl (Or.inl rfl) pe_str)
      (pss_cons (ps_for PassesOwn.never rfl (pi_zipTL (by rfl) (f_zip T) (pa_cons (pe_ix ix_tup (pv 0) pe_int (fun _ _ => rfl)) (pa_cons (pv 1) pa_nil))) (pg_tup rfl (pgs_cons (pg_name (i := 5) sc_law_seen.nd rfl (Or.inl rfl)) (pgs_cons (pg_name (i := 6) sc_law_seen.nd rfl (Or.inl rfl)) pgs_nil))) (pss_one (ps_if (PW.pt (pw_and (pt_cmpR op_eq (pe_ix ix_tup (pv 5) pe_int (fun _ _ => rfl)) (pv 2) (nomark _)) (pw_and (pt_cmpR op_le (pv 6) (pv 3) (nomark _)) (pw_and1 (pt_cmpR op_lt (pv 3) (pe_op op_add (pv 6) (pe_ix ix_tup (pe_ix ix_tup (pv 0) pe_int (fun _ _ => rfl)) (pe_ix ix_tup (pv 5) pe_int (fun _ _ => rfl)) (fun _ _ => rfl))) (nomark _)))))) (pss_one (ps_set (i := 4) sc_law_seen.nd rfl (Or.inl rfl) (pe_ix ix_tup (pv 5) pe_int (fun _ _ => rfl)))) pss_nil)))
      (pss_one (ps_ret (pv 4))))), ?_⟩
  refine ⟨_, rfl, _, _, _, _, rfl, rfl, ha, rfl, _, rfl, c, dl, vs, ds.map V.int, rfl, hc, SqL.of hd, for_it (walk_zipG (n := p.ws.length) (xs := vs) (ys := ds.map V.int) (by rw [List.length_map]; omega)) (fun i σ H' => ∃ o5 o6, σ = [some (.ref a), some (.ref dl), some (.int cell), some (.int tick), some (.str (sg (seenN p qq cell tick i))), o5, o6] ∧ Kp [] H H')
    ⟨_, _, rfl, .refl _ _⟩ (fun i σ H' _ h => by obtain ⟨_, _, _, k⟩ := h; exact ⟨kpT hc k, SqL.of (k.keep _ _ hd (by simp))⟩) ?_ ?_⟩
  · rintro i x σ H1 H2 hi ⟨o5, o6, rfl, k1⟩ ⟨t, y, z, rfl, ht, rfl, h1, h2⟩
    obtain ⟨x, hx, hxw⟩ := paired_at hp h1
    obtain ⟨e, rfl, he⟩ := hxw
    have hz : z = .int (qq (i + 1)) := by
      have h2' : (ds.map V.int)[i]? = some z := h2
      rw [List.getElem?_map, hdq i hi] at h2'
      exact (Option.some.inj h2').symm
    subst hz
    have ew : p.ws[i] = x := by rw [List.getElem?_eq_getElem hi] at hx; exact Option.some.inj hx
    have k2 := k1.newT (p := t) (o := .tup [.ref e, .int (qq (i + 1))]) ht
    obtain ⟨st1, st2⟩ := stay_at ok hi
    have hst : atI (p.stays.map V.int) x.ink = some (.int (p.stayOf i)) := by
      rw [← ew, st1]
      exact atI_nat (by rw [List.getElem?_map, st2]; rfl)
    have hcell : p.cellOf i = x.cell := by rw [cell_at hi, ew]
    have hsig : p.signOf i = x.sign := by unfold Pl.signOf; rw [hx]; rfl
    refine ⟨t, _, rfl, SqT.of upd_same, rfl, _, _, rfl, _, _, rfl, rfl, ?_⟩
    have ene : ¬ (p.cellOf i = cell ∧ qq (i + 1) ≤ tick ∧ tick < qq (i + 1) + p.stayOf i) → seenN p qq cell tick (i + 1) = seenN p qq cell tick i := fun h => if_neg h
    refine ⟨_, rfl, _, _, _, _, rfl, rfl, kpT he k2, rfl, _, rfl, rfl, _, rfl, ?_⟩
    by_cases g1 : x.cell = cell
    · refine iteDT (by rw [g1]) ?_
      refine ⟨_, rfl, _, rfl, _, _, rfl, rfl, _, rfl, ite2 (fun hc1 => ?_) (fun hc1 => ?_)⟩
      · have g2 := of_decide_eq_true hc1
        refine ⟨_, rfl, _, rfl, _, rfl, _, _, _, _, rfl, rfl, kpT ha k2, rfl, _, rfl, _, _, _, _, rfl, rfl, kpT he k2, rfl, _, _, _, _, rfl, rfl, kpT hb k2, hst, _, _, rfl, rfl, _, _, rfl, rfl, _, rfl, ite2 (fun hc2 => ?_) (fun hc2 => ?_)⟩
        · have g3 := of_decide_eq_true hc2
          refine ⟨_, rfl, _, _, _, _, rfl, rfl, kpT he k2, rfl, some (.ref e), some (.int (qq (i + 1))), ?_, k2⟩
          have : seenN p qq cell tick (i + 1) = x.sign := by
            rw [← hsig]
            exact if_pos ⟨by rw [hcell]; exact g1, g2, g3⟩
          rw [this]
          rfl
        · refine ⟨some (.ref e), some (.int (qq (i + 1))), ?_, k2⟩
          rw [ene fun h => hc2 (decide_eq_true h.2.2)]
          rfl
      · refine iteF ⟨some (.ref e), some (.int (qq (i + 1))), ?_, k2⟩
        rw [ene fun h => hc1 (decide_eq_true h.2.1)]
        rfl
    · refine iteDF (fun z => g1 (V.int.inj z)) (iteF ⟨some (.ref e), some (.int (qq (i + 1))), ?_, k2⟩)
      rw [ene fun h => g1 (by rw [← hcell]; exact h.1)]
      rfl
  · rintro σ H1 ⟨o5, o6, rfl, k1⟩
    exact ⟨_, rfl, q _ k1⟩
end
end Ink
set_option Elab.async false
set_option linter.all false
set_option pp.maxSteps 150
set_option maxRecDepth 100000
set_option maxHeartbeats 4000000
namespace Ink
open PySem PySem.Spec PyProof.Rows L2 StX
abbrev Bd := Int × Int
def InR : List Int → List Bd → Prop := Paired fun n b => b.1 ≤ n ∧ n ≤ b.2
theorem inr_snoc {z : List Int} {bs : List Bd} {b : Bd} : InR z (bs ++ [b]) ↔ ∃ y n, z = y ++ [n] ∧ InR y bs ∧ b.1 ≤ n ∧ n ≤ b.2 := by
  constructor
  · intro h
    induction bs generalizing z with
    | nil =>
      cases h with
      | cons h1 h2 => cases h2; exact ⟨[], _, rfl, .nil, h1⟩
    | cons c bs ih =>
      cases h with
      | cons h1 h2 =>
        obtain ⟨y, n, e, h3, h4⟩ := ih h2
        exact ⟨_ :: y, n, by rw [e]; rfl, .cons h1 h3, h4⟩
  · rintro ⟨y, n, rfl, h, h1⟩
    exact paired_snoc h h1
theorem inr_nil (z : List Int) : z ∈ ([[]] : List (List Int)) ↔ InR z [] := by
  constructor
  · intro h
    have : z = [] := by simpa using h
    subst this; exact .nil
  · intro h
    cases h; simp
def IsBd (K : PySem.W.Frag) (H : Hp) (v : V) (b : Bd) : Prop := ∃ a, v = .ref a ∧ SqT K H a [.int b.1, .int b.2]
def IsIv (K : PySem.W.Frag) (H : Hp) (v : V) (z : List Int) : Prop := ∃ a, v = .ref a ∧ SqT K H a (z.map V.int)
theorem IsBd.kp {K : PySem.W.Frag} {S : List Addr} {H H' : Hp} {v : V} {b : Bd} (h : IsBd K H v b) (k : Kp S H H') : IsBd K H' v b := let ⟨a, e, s⟩ := h; ⟨a, e, kpT s k⟩
theorem IsIv.kp {K : PySem.W.Frag} {S : List Addr} {H H' : Hp} {v : V} {b : List Int} (h : IsIv K H v b) (k : Kp S H H') : IsIv K H' v b := let ⟨a, e, s⟩ := h; ⟨a, e, kpT s k⟩
section
variable {P : Program} {w : World} {K : PySem.W.Frag} {mg : Str → Option Value} {base : Heap}
def sp_law_all (K : PySem.W.Frag) : Sp := fun vs H Q _ => ∃ (l : Addr) (bv : List V) (bs : List Bd), vs = [.ref l] ∧ H l = some (.lst bv) ∧ Paired (IsBd K H) bv bs ∧ bs.length ≤ 4 ∧ (∀ b ∈ bs, 0 ≤ b.1 ∧ b.1 ≤ b.2 ∧ b.2 ≤ b.1 + 1 ∧ b.2 ≤ 1000) ∧
  ∀ (H' : Hp) (a : Addr) (av : List V) (zs : List (List Int)), Kp [] H H' → H a = none → H' a = some (.lst av) → Paired (IsIv K H') av zs → (∀ z, z ∈ zs ↔ InR z bs) → zs.length ≤ 16 → Q (.ref a) H'
theorem sc_law_all : FnScope ["_law_bounds", "_law_found", "_law_low", "_law_high", "_law_longer", "_law_one", "_law_number"] ["_law_bounds"] (defScope s_law_all) := ⟨rfl, rfl, rfl, by decide +kernel, rfl, by decide +kernel, by decide +kernel⟩
theorem ok_law_all (T : Txt w K mg) : FnOk P w K mg base CX0 1 (He.ga K "_law_all") (fdA K (He.ga K "_law_all")) ["_law_bounds"] (sp_law_all K) := by
  refine (d_law_all T).ok sc_law_all (fun vs H Q E h => ?_) (fun cdv A outer s H vs Q E hr h => ?_)
  · obtain ⟨_, _, _, rfl, _⟩ := h; rfl
  obtain ⟨l, bv, bs, rfl, hl, hb, hbl, hbr, q⟩ := h
  have hbvl : bv.length = bs.length := paired_len hb
  refine ⟨_, (pss_cons (ps_set (i := 1) sc_law_all.nd rfl (Or.inl rfl) (pe_lst (pa_cons (pe_tup pa_nil) pa_nil)))
      (pss_cons (ps_for PassesOwn.never rfl (pi_list (pv 0)) (pg_tup rfl (pgs_cons (pg_name (i := 2) sc_law_all.nd rfl (Or.inl rfl)) (pgs_cons (pg_name (i := 3) sc_law_all.nd rfl (Or.inl rfl)) pgs_nil))) (pss_cons (ps_set (i := 4) sc_law_all.nd rfl (Or.inl rfl) (pe_lst pa_nil))
      (pss_cons (ps_for PassesOwn.never rfl (pi_list (pv 1)) (pg_name (i := 5) sc_law_all.nd rfl (Or.inr rfl)) (pss_one (ps_set (i := 4) sc_law_all.nd rfl (Or.inl rfl) (pe_op op_cat (pv 4) (pe_lc (own := [("_law_number", 6)]) rfl sc_law_all.nd (pi_range2 (by rfl) (f_range T) (pa_cons (pv 2) (pa_cons (pe_op op_add (pv 3) pe_int) pa_nil))) (blkOk_by (own := [("_law_number", 6)]) (N := ["_law_bounds", "_law_found", "_law_low", "_law_high", "_law_longer", "_law_one", "_law_number"]) (sc := defScope s_law_all) (by decide +kernel)) (fun _ _ _ _ _ => (pg_name (i := 6) sc_law_all.nd rfl (Or.inl rfl))) (fun _ _ _ _ _ => pts_nil) (fun _ _ _ _ _ => (pe_op (op_catAK (K := K) rfl) (pv 5) (pe_tup (pa_cons (pv 6) pa_nil)))))))))
      (pss_one (ps_set (i := 1) sc_law_all.nd rfl (Or.inl rfl) (pv 4))))))
      (pss_one (ps_ret (pv 1))))), ?_⟩
  refine ⟨by show 0 ≤ sizeLine; decide, fun e0 he0 => ⟨by show 1 ≤ sizeLine; decide, fun f0 hf0 => ?_⟩⟩
  have k1 : Kp [] H (upd (upd H e0 (.tup [])) f0 (.lst [.ref e0])) := (Kp.new he0).newT hf0
  have iv0 : IsIv K (upd (upd H e0 (.tup [])) f0 (.lst [.ref e0])) (.ref e0) [] := ⟨e0, rfl, kpT (SqT.of (upd_same (H := H) (a := e0))) (Kp.new (S := []) hf0)⟩
  have hf1 : upd (upd H e0 (.tup [])) f0 (.lst [.ref e0]) f0 = some (.lst [.ref e0]) := upd_same
  have hf0H : H f0 = none := (Kp.new (S := []) (o := .tup []) he0).free hf0
  generalize upd (upd H e0 (.tup [])) f0 (.lst [.ref e0]) = H1 at k1 iv0 hf1 ⊢
  have hl1 := k1.keep _ _ hl (by simp)
  refine ⟨_, rfl, l, rfl, ⟨_, SqL.of hl1⟩, for_list (xs := bv) (fun i σ H' => ∃ f o2 o3 o4 o5 o6 fv zs, σ = [some (.ref l), some (.ref f), o2, o3, o4, o5, o6] ∧ Kp [] H H' ∧ H f = none ∧ H' f = some (.lst fv) ∧ Paired (IsIv K H') fv zs ∧ (∀ z, z ∈ zs ↔ InR z (bs.take i)) ∧ zs.length ≤ 2 ^ i)
    ⟨f0, _, _, _, _, _, _, [[]], rfl, k1, hf0H, hf1, .cons iv0 .nil, inr_nil, Nat.le_refl _⟩ (fun i σ H' _ h => by obtain ⟨_, _, _, _, _, _, _, _, _, k, _⟩ := h; exact SqL.of (k.keep _ _ hl (by simp))) ?_ ?_⟩
  · rintro i v σ H2 hv ⟨f, o2, o3, o4, o5, o6, fv, zs, rfl, k2, hfH, hf2, hfv, hz, hzl⟩
    obtain ⟨b, hbi, a, rfl, ha⟩ := paired_at hb hv
    have hi : i < bs.length := (List.getElem?_eq_some_iff.mp hbi).1
    obtain ⟨b0, b1, b2, b3⟩ := hbr b (List.mem_of_getElem? hbi)
    have hfl : fv.length = zs.length := paired_len hfv
    have hz16 : zs.length ≤ 8 := by
      have : 2 ^ i ≤ 2 ^ 3 := Nat.pow_le_pow_right (by decide) (by omega)
      omega
    refine ⟨a, _, rfl, kpT ha k2, rfl, _, _, rfl, _, _, rfl, rfl, ?_⟩
    refine ⟨by show 0 ≤ sizeLine; decide, fun lg hlg => ?_⟩
    have k3 := k2.newT (p := lg) (o := .lst []) hlg
    have k23 : Kp [] H2 (upd H2 lg (.lst [])) := .new hlg
    have hf3 := k23.keep _ _ hf2 (by simp)
    have hlg3 : upd H2 lg (.lst []) lg = some (.lst []) := upd_same
    have hlgH := k2.free hlg
    have hfv3 := pkp hfv fun _ _ z => z.kp k23
    generalize upd H2 lg (.lst []) = H3 at k3 k23 hf3 hlg3 hfv3 ⊢
    refine ⟨_, rfl, f, rfl, ⟨_, SqL.of hf3⟩, for_list (xs := fv) (fun j σ H' => ∃ lgj lv ls o5 o6, σ = [some (.ref l), some (.ref f), some (.int b.1), some (.int b.2), some (.ref lgj), o5, o6] ∧ Kp [] H3 H' ∧ H lgj = none ∧ H' lgj = some (.lst lv) ∧ Paired (IsIv K H') lv ls ∧ (∀ z, z ∈ ls ↔ ∃ y ∈ zs.take j, ∃ n, b.1 ≤ n ∧ n ≤ b.2 ∧ z = y ++ [n]) ∧ ls.length ≤ j * 2)
      ⟨lg, [], [], _, _, rfl, .refl _ _, hlgH, hlg3, .nil, fun z => ⟨fun h => (by cases h), fun ⟨y, hy, _⟩ => by simp at hy⟩, by simp⟩ (fun j σ H' _ h => by obtain ⟨_, _, _, _, _, _, k, _⟩ := h; exact SqL.of (k.keep _ _ hf3 (by simp))) ?_ ?_⟩
    · rintro j u σ H4 hu ⟨lgj, lv, ls, o5, o6, rfl, k4, hlgjH, hlj, hlv, hls, hlsl⟩
      obtain ⟨y, hy, ay, rfl, hay⟩ := paired_at hfv3 hu
      have hj : j < zs.length := (List.getElem?_eq_some_iff.mp hy).1
      have hlvl : lv.length = ls.length := paired_len hlv
      have hyl : (y.map V.int).length ≤ 4 := by
        have hym : y ∈ zs := List.mem_of_getElem? hy
        have := paired_len ((hz y).mp hym)
        rw [List.length_map, this, List.length_take]
        omega
      refine ⟨_, rfl, ?_⟩
      refine ⟨_, rfl, _, rfl, _, _, rfl, rfl, _, _, rfl, ⟨by omega, by omega, by omega, by omega⟩, fun D hD => ?_⟩
      refine lc_range (lo := b.1) (n := (b.2 + 1 - b.1).toNat) (fun m H' => Kp [] H4 H' ∧ ∃ dv ds, H' D = some (.lst dv) ∧ Paired (IsIv K H') dv ds ∧ (∀ z, z ∈ ds ↔ ∃ n, b.1 ≤ n ∧ n < b.1 + m ∧ z = y ++ [n]) ∧ ds.length ≤ m) ⟨.new hD, [], [], upd_same, .nil, fun z => ⟨fun h => (by cases h), fun ⟨n, h1, h2, _⟩ => by omega⟩, Nat.le_refl _⟩ ?_ ?_
      · rintro m H5 hm ⟨k5, dv, ds, hD5, hdv, hds, hdl⟩
        have hdvl : dv.length = ds.length := paired_len hdv
        have hay5 := kpT (kpT hay k4) k5
        refine ⟨rfl, tyes ?_⟩
        refine iteT ?_
        have fin : ∀ (H6 : Hp) (r : Addr), Kp [] H5 H6 → SqT K H6 r ((y ++ [b.1 + (m : Nat)]).map V.int) → ∃ acc, H6 D = some (.lst acc) ∧ acc.length < sizeLine ∧ Kp [] H4 (upd H6 D (.lst (acc ++ [V.ref r]))) ∧ ∃ dv ds, (upd H6 D (.lst (acc ++ [V.ref r]))) D = some (.lst dv) ∧ Paired (IsIv K (upd H6 D (.lst (acc ++ [V.ref r])))) dv ds ∧ (∀ z, z ∈ ds ↔ ∃ n, b.1 ≤ n ∧ n < b.1 + ((m + 1 : Nat) : Int) ∧ z = y ++ [n]) ∧ ds.length ≤ m + 1 := fun H6 r k6 hr => by
          have hD6 := k6.keep _ _ hD5 (by simp)
          have kx : Kp [D] H6 (upd H6 D (.lst (dv ++ [V.ref r]))) := .put (by simp) hD6 rfl
          refine ⟨dv, hD6, small1000 (by omega), (k5.trans k6).putN hD, dv ++ [V.ref r], ds ++ [y ++ [b.1 + (m : Nat)]], upd_same, paired_snoc (pkp hdv fun _ _ z => (z.kp k6).kp kx) ⟨r, rfl, kpT hr kx⟩, fun z => ?_, by rw [List.length_append, List.length_singleton]; omega⟩
          rw [List.mem_append, hds]
          constructor
          · rintro (⟨n, h1, h2, h3⟩ | h)
            · exact ⟨n, h1, by omega, h3⟩
            · exact ⟨b.1 + (m : Nat), by omega, by omega, by simpa using h⟩
          · rintro ⟨n, h1, h2, h3⟩
            by_cases e : n = b.1 + (m : Nat)
            · right; subst e; simp [h3]
            · left; exact ⟨n, h1, by omega, h3⟩
        refine ⟨_, rfl, _, rfl, by show 1 ≤ sizeLine; decide, fun t1 ht1 => ?_⟩
        have kt : Kp [] H5 (upd H5 t1 (.tup [.int (b.1 + (m : Nat))])) := .new ht1
        have ht1' : SqT K (upd H5 t1 (.tup [.int (b.1 + (m : Nat))])) t1 [.int (b.1 + (m : Nat))] := SqT.of upd_same
        refine ⟨ay, t1, _, _, rfl, rfl, kpT hay5 kt, ht1', Nat.le_of_lt (small1000 (show (y.map V.int).length + 1 ≤ 1000 by omega)), fun h0 => ?_, fun _ h0 => (by cases h0), fun h0 _ r hr => ?_⟩
        · have : y = [] := by cases y with
            | nil => rfl
            | cons _ _ => cases h0
          subst this
          exact fin _ t1 kt ht1'
        · refine fin _ r (kt.newT hr) ?_
          rw [List.map_append]
          exact SqT.of upd_same
      rintro H5 ⟨k5, dv, ds, hD5, hdv, hds, hdl⟩
      have hdvl : dv.length = ds.length := paired_len hdv
      have hlj5 := k5.keep _ _ hlj (by simp)
      have hm2 : (b.2 + 1 - b.1).toNat ≤ 2 := by omega
      refine ⟨lgj, D, lv, dv, rfl, rfl, hlj5, hD5, Nat.le_of_lt (small1000 (by omega)), fun np hnp => ?_⟩
      have kn : Kp [] H5 (upd H5 np (.lst (lv ++ dv))) := .new hnp
      have etake : zs.take (j + 1) = zs.take j ++ [y] := by rw [List.take_succ, hy]; rfl
      refine ⟨np, lv ++ dv, ls ++ ds, _, _, rfl, (k4.trans k5).trans kn, ((k3.trans k4).trans k5).free hnp, upd_same, paired_app (pkp hlv fun _ _ z => (z.kp k5).kp kn) (pkp hdv fun _ _ z => z.kp kn), fun z => ?_, by rw [List.length_append]; omega⟩
      rw [List.mem_append, hls, hds, etake]
      constructor
      · rintro (⟨y', hy', n, h⟩ | ⟨n, h1, h2, h3⟩)
        · exact ⟨y', List.mem_append_left _ hy', n, h⟩
        · exact ⟨y, by simp, n, h1, by omega, h3⟩
      · rintro ⟨y', hy', n, h1, h2, h3⟩
        rcases List.mem_append.mp hy' with e | e
        · exact .inl ⟨y', e, n, h1, h2, h3⟩
        · have : y' = y := by simpa using e
          subst this
          exact .inr ⟨n, h1, by omega, h3⟩
    · rintro σ H4 ⟨lgj, lv, ls, o5, o6, rfl, k4, hlgjH, hlj, hlv, hls, hlsl⟩
      rw [hfl, List.take_length] at hls
      have etake : bs.take (i + 1) = bs.take i ++ [b] := by rw [List.take_succ, hbi]; rfl
      refine ⟨_, rfl, lgj, _, _, _, _, _, lv, ls, rfl, k3.trans k4, hlgjH, hlj, hlv, fun z => ?_, by rw [Nat.pow_succ]; omega⟩
      rw [hls, etake, inr_snoc]
      constructor
      · rintro ⟨y, hy, n, h1, h2, h3⟩
        exact ⟨y, n, h3, (hz y).mp hy, h1, h2⟩
      · rintro ⟨y, n, h3, hy, h1, h2⟩
        exact ⟨y, (hz y).mpr hy, n, h1, h2, h3⟩
  · rintro σ H2 ⟨f, o2, o3, o4, o5, o6, fv, zs, rfl, k2, hfH, hf2, hfv, hz, hzl⟩
    rw [hbvl, List.take_length] at hz
    have : 2 ^ bv.length ≤ 2 ^ 4 := Nat.pow_le_pow_right (by decide) (by omega)
    exact ⟨_, rfl, q H2 f fv zs k2 hfH hf2 hfv hz (by omega)⟩
end
end Ink
set_option linter.all false
set_option pp.maxSteps 150
namespace Ink
open PySem PySem.Spec PyProof.Rows L2
/-! ### ticks from the pace and the rests -/
theorem runs_at : ∀ {ns : List Int} {f : Int} {i : Nat} {n : Int}, ns[i]? = some n → ∃ a b : Int, (f :: runs f ns)[i]? = some a ∧ (runs f ns)[i]? = some b ∧ b - a = n
  | [], _, i, _, h => by cases i <;> cases h
  | m :: ns, f, 0, n, h => by cases h; exact ⟨f, f + m, rfl, rfl, by omega⟩
  | m :: ns, f, i + 1, n, h => by
    obtain ⟨a, b, h1, h2, h3⟩ := runs_at (ns := ns) (f := f + m) (i := i) h
    exact ⟨a, b, h1, h2, h3⟩
/-- where the looks begin -/
def firstOf (told : List Int) : Option Nat → Int
  | none => 0
  | some s => told[s]?.getD 0
/-- the tick of an event: the start, the writes, the looks -/
def tickOf (told looks : List Int) (e : Nat) : Int := ((0 :: told) ++ looks)[e]?.getD 0
theorem tick_w {told looks : List Int} {i : Nat} (h : i ≤ told.length) : tickOf told looks i = (0 :: told)[i]?.getD 0 := by
  unfold tickOf
  rw [List.getElem?_append_left (by rw [List.length_cons]; omega)]
theorem tick_l {told looks : List Int} {j : Nat} : tickOf told looks (1 + told.length + j) = looks[j]?.getD 0 := by
  unfold tickOf
  rw [List.getElem?_append_right (by rw [List.length_cons]; omega), List.length_cons]
  congr 2
  omega
theorem tick_s {told looks : List Int} {i : Nat} {x : Int} (h : told[i]? = some x) : tickOf told looks (i + 1) = x := by
  have hi : i < told.length := (List.getElem?_eq_some_iff.mp h).1
  rw [tick_w (by omega), List.getElem?_cons_succ, h]
  rfl
/-- the looks' first tick, as an event's -/
theorem tick_prev {p : Pl} {r : Rdr} {told looks : List Int} (hl : told.length = p.ws.length) (hs : ∀ n, r.start = some n → n < p.ws.length) : tickOf told looks (prevEv p r 0) = firstOf told r.start := by
  unfold prevEv firstOf
  cases h : r.start with
  | none => rfl
  | some s =>
    have hs' : s < told.length := by rw [hl]; exact hs s h
    show tickOf told looks (s + 1) = _
    rw [tick_s (List.getElem?_eq_getElem hs')]
    show _ = told[s]?.getD 0
    rw [List.getElem?_eq_getElem hs']
    rfl
def wBd (p : Pl) : List Bd := p.ws.map fun x => (x.low, x.high)
def lBd (r : Rdr) : List Bd := r.looks.map fun k => (k.low, k.high)
def qOf (r : Rdr) (pace rest : List Int) : Nat → Int := tickOf (runs 0 pace) (runs (firstOf (runs 0 pace) r.start) rest)
theorem inr_at {z : List Int} {bs : List Bd} (h : InR z bs) {i : Nat} {b : Bd} (hb : bs[i]? = some b) : ∃ n, z[i]? = some n ∧ b.1 ≤ n ∧ n ≤ b.2 := paired_at' h hb
theorem base_of {p : Pl} {r : Rdr} (ro : ∀ n, r.start = some n → n < p.ws.length) {pace rest : List Int} (hp : InR pace (wBd p)) (hr : InR rest (lBd r)) : BaseOk p r (qOf r pace rest) := by
  have hpl : pace.length = p.ws.length := by rw [paired_len hp]; exact List.length_map ..
  have htl : (runs 0 pace).length = p.ws.length := by rw [runs_len, hpl]
  refine ⟨fun i x hx => ?_, fun j k hk => ?_⟩
  · obtain ⟨n, hn, h1, h2⟩ := inr_at hp (i := i) (b := (x.low, x.high)) (by unfold wBd; rw [List.getElem?_map, hx]; rfl)
    obtain ⟨a, b, ha, hb, e⟩ := runs_at (f := 0) hn
    have hi : i < p.ws.length := (List.getElem?_eq_some_iff.mp hx).1
    have e1 : qOf r pace rest (i + 1) = b := tick_s hb
    have e2 : qOf r pace rest i = a := by
      unfold qOf
      rw [tick_w (by omega), ha]; rfl
    have h1' : x.low ≤ n := h1
    have h2' : n ≤ x.high := h2
    rw [e1, e2]
    exact ⟨by omega, by omega⟩
  · obtain ⟨n, hn, h1, h2⟩ := inr_at hr (i := j) (b := (k.low, k.high)) (by unfold lBd; rw [List.getElem?_map, hk]; rfl)
    obtain ⟨a, b, ha, hb, e⟩ := runs_at (f := firstOf (runs 0 pace) r.start) hn
    have e1 : qOf r pace rest (1 + p.ws.length + j) = b := by
      unfold qOf
      rw [← htl, tick_l, hb]; rfl
    have e2 : qOf r pace rest (prevEv p r j) = a := by
      cases j with
      | zero =>
        have : qOf r pace rest (prevEv p r 0) = _ := tick_prev htl ro
        rw [this]
        exact Option.some.inj ha
      | succ j =>
        show qOf r pace rest (1 + p.ws.length + j) = a
        unfold qOf
        rw [← htl, tick_l]
        rw [List.getElem?_cons_succ] at ha
        rw [ha]; rfl
    have h1' : k.low ≤ n := h1
    have h2' : n ≤ k.high := h2
    rw [e1, e2]
    exact ⟨by omega, by omega⟩
/-- any ticks: the pace and the rests that they keep -/
theorem runs_diff (q : Nat → Int) : ∀ (n i : Nat), runs (q i) ((List.range' i n).map fun e => q (e + 1) - q e) = (List.range' (i + 1) n).map q
  | 0, i => rfl
  | n + 1, i => by
    rw [List.range'_succ, List.map_cons, List.range'_succ, List.map_cons]
    show (q i + (q (i + 1) - q i)) :: runs (q i + (q (i + 1) - q i)) _ = _
    rw [show q i + (q (i + 1) - q i) = q (i + 1) by omega, runs_diff q n (i + 1)]
theorem seen_shift {p : Pl} {q q' : Nat → Int} {d cell tick : Int} : ∀ n, n ≤ p.ws.length → (∀ i, i ≤ p.ws.length → q' i = q i - d) → seenN p q' cell (tick - d) n = seenN p q cell tick n
  | 0, _, _ => rfl
  | n + 1, hn, h => by
    have e := h (n + 1) hn
    unfold seenN
    rw [e, seen_shift n (by omega) h]
    have : (p.cellOf n = cell ∧ q (n + 1) - d ≤ tick - d ∧ tick - d < q (n + 1) - d + p.stayOf n) ↔ (p.cellOf n = cell ∧ q (n + 1) ≤ tick ∧ tick < q (n + 1) + p.stayOf n) := by
      constructor
      · rintro ⟨a, b, c⟩; exact ⟨a, by omega, by omega⟩
      · rintro ⟨a, b, c⟩; exact ⟨a, by omega, by omega⟩
    by_cases g : p.cellOf n = cell ∧ q (n + 1) ≤ tick ∧ tick < q (n + 1) + p.stayOf n
    · rw [if_pos g, if_pos (this.mpr g)]
    · rw [if_neg g, if_neg fun z => g (this.mp z)]
def gOf (p : Pl) (r : Rdr) (q : Nat → Int) : Nat → Int
  | 0 => q (prevEv p r 0) - q 0
  | j + 1 => q (1 + p.ws.length + j) - q 0
theorem gOf_prev (p : Pl) (r : Rdr) (q : Nat → Int) : ∀ j, gOf p r q j = q (prevEv p r j) - q 0
  | 0 => rfl
  | _ + 1 => rfl
def paceOf (p : Pl) (q : Nat → Int) : List Int := (List.range' 0 p.ws.length).map fun e => q (e + 1) - q e
def restOf (p : Pl) (r : Rdr) (q : Nat → Int) : List Int := (List.range' 0 r.looks.length).map fun j => gOf p r q (j + 1) - gOf p r q j
theorem paired_range {α : Type} {f : Nat → Int} {F : Int → α → Prop} : ∀ {l : List α} {i : Nat}, (∀ j x, l[j]? = some x → F (f (i + j)) x) → Paired F ((List.range' i l.length).map f) l
  | [], _, _ => .nil
  | x :: l, i, h => by
    rw [List.length_cons, List.range'_succ, List.map_cons]
    refine .cons (h 0 x rfl) (paired_range fun j y hy => ?_)
    have := h (j + 1) y hy
    rw [show i + 1 + j = i + (j + 1) by omega]
    exact this
theorem told_of (p : Pl) (q : Nat → Int) : runs 0 (paceOf p q) = (List.range' 1 p.ws.length).map fun e => q e - q 0 := by
  have := runs_diff (fun e => q e - q 0) p.ws.length 0
  have e : (List.range' 0 p.ws.length).map (fun e => (q (e + 1) - q 0) - (q e - q 0)) = paceOf p q := List.map_congr_left fun e _ => by show _ = q (e + 1) - q e; omega
  rw [e, show q 0 - q 0 = 0 by omega] at this
  exact this
theorem qOf_eq {p : Pl} {r : Rdr} {q : Nat → Int} (ro : ∀ n, r.start = some n → n < p.ws.length) : (∀ i, i ≤ p.ws.length → qOf r (paceOf p q) (restOf p r q) i = q i - q 0) ∧ ∀ j, j < r.looks.length → qOf r (paceOf p q) (restOf p r q) (1 + p.ws.length + j) = q (1 + p.ws.length + j) - q 0 := by
  have ht := told_of p q
  have htl : (runs 0 (paceOf p q)).length = p.ws.length := by rw [ht, List.length_map, List.length_range']
  have hat : ∀ i, i < p.ws.length → (runs 0 (paceOf p q))[i]? = some (q (i + 1) - q 0) := fun i hi => by
    rw [ht, List.getElem?_map, List.getElem?_range' hi]
    show some (q (1 + 1 * i) - q 0) = _
    rw [show 1 + 1 * i = i + 1 by omega]
  have hw : ∀ i, i ≤ p.ws.length → qOf r (paceOf p q) (restOf p r q) i = q i - q 0 := fun i hi => by
    cases i with
    | zero => show (0 : Int) = _; omega
    | succ i => exact tick_s (hat i (by omega))
  refine ⟨hw, fun j hj => ?_⟩
  have hf : firstOf (runs 0 (paceOf p q)) r.start = gOf p r q 0 := by
    have h1 := tick_prev (p := p) (r := r) (looks := runs (firstOf (runs 0 (paceOf p q)) r.start) (restOf p r q)) htl ro
    rw [← h1]
    refine hw _ ?_
    unfold prevEv
    cases h : r.start with
    | none => exact Nat.zero_le _
    | some s => have := ro s h; show s + 1 ≤ _; omega
  have hg := runs_diff (gOf p r q) r.looks.length 0
  unfold qOf
  rw [← htl, tick_l, hf]
  have e : runs (gOf p r q 0) (restOf p r q) = (List.range' 1 r.looks.length).map (gOf p r q) := hg
  rw [e, List.getElem?_map, List.getElem?_range' hj, htl]
  show gOf p r q (1 + 1 * j) = _
  rw [show 1 + 1 * j = j + 1 by omega]
  rfl
theorem rds_iff {p : Pl} {r : Rdr} (ro : ∀ n, r.start = some n → n < p.ws.length) (z : List Nat) : Rds p r z ↔ ∃ pace rest, InR pace (wBd p) ∧ InR rest (lBd r) ∧ readP p r (qOf r pace rest) r.looks.length = z := by
  constructor
  · rintro ⟨q, hq, rfl⟩
    obtain ⟨h1, h2⟩ := qOf_eq (p := p) (r := r) (q := q) ro
    refine ⟨paceOf p q, restOf p r q, ?_, ?_, ?_⟩
    · have : Paired (fun n b => b.1 ≤ n ∧ n ≤ b.2) ((List.range' 0 (wBd p).length).map fun e => q (e + 1) - q e) (wBd p) := paired_range fun j x hx => by
        unfold wBd at hx
        rw [List.getElem?_map] at hx
        obtain ⟨y, hy, rfl⟩ := Option.map_eq_some_iff.mp hx
        rw [Nat.zero_add]
        exact hq.w j y hy
      have e : (wBd p).length = p.ws.length := List.length_map ..
      rw [e] at this
      exact this
    · have : Paired (fun n b => b.1 ≤ n ∧ n ≤ b.2) ((List.range' 0 (lBd r).length).map fun j => gOf p r q (j + 1) - gOf p r q j) (lBd r) := paired_range fun j x hx => by
        unfold lBd at hx
        rw [List.getElem?_map] at hx
        obtain ⟨y, hy, rfl⟩ := Option.map_eq_some_iff.mp hx
        rw [Nat.zero_add, gOf_prev p r q j]
        have := hq.l j y hy
        show y.low ≤ q (1 + p.ws.length + j) - q 0 - (q (prevEv p r j) - q 0) ∧ q (1 + p.ws.length + j) - q 0 - (q (prevEv p r j) - q 0) ≤ y.high
        exact ⟨by omega, by omega⟩
      have e : (lBd r).length = r.looks.length := List.length_map ..
      rw [e] at this
      exact this
    · unfold readP
      refine List.map_congr_left fun j hj => ?_
      have hj' := List.mem_range.mp hj
      unfold seeJ
      rw [h2 j hj']
      exact seen_shift _ (Nat.le_refl _) h1
  · rintro ⟨pace, rest, hp, hr, h⟩
    exact ⟨_, base_of ro hp hr, h⟩
end Ink
set_option Elab.async false
set_option linter.all false
set_option pp.maxSteps 150
set_option maxRecDepth 100000
set_option maxHeartbeats 4000000
namespace Ink
open PySem PySem.Spec PyProof.Rows L2 StX
theorem joinL_one : ∀ l : List Nat, joinL [] (l.map fun c => [c]) = l
  | [] => rfl
  | [c] => rfl
  | c :: d :: l => by
    have := joinL_one (d :: l)
    show [c] ++ [] ++ joinL [] ([d] :: l.map fun c => [c]) = _
    rw [show ([d] :: l.map fun c => [c]) = (d :: l).map fun c => [c] from rfl, this]
    rfl
section
variable {P : Program} {w : World} {K : PySem.W.Frag} {mg : Str → Option Value} {base : Heap}
def sp_law_read (K : PySem.W.Frag) : Sp := fun vs H Q _ => ∃ (v u x y : V) (p : Pl) (r : Rdr) (pace rest : List Int), vs = [v, u, x, y] ∧ IsPl K H v p ∧ p.Ok ∧ IsRdr K H u r ∧ r.Ok p ∧ IsIv K H x pace ∧ IsIv K H y rest ∧ pace.length = p.ws.length ∧ rest.length = r.looks.length ∧
  ∀ H', Kp [] H H' → Q (.str (strL (readP p r (qOf r pace rest) r.looks.length))) H'
theorem sc_law_read : FnScope ["_law_plan_here", "_law_reader_here", "_law_pace", "_law_rests", "_law_told", "_law_looks", "_law_look", "_law_tick"] ["_law_plan_here", "_law_reader_here", "_law_pace", "_law_rests"] (defScope s_law_read) := ⟨rfl, rfl, rfl, by decide +kernel, rfl, by decide +kernel, by decide +kernel⟩
theorem ok_law_read (T : Txt w K mg) : FnOk P w K mg base CX0 2 (He.ga K "_law_read") (fdA K (He.ga K "_law_read")) ["_law_plan_here", "_law_reader_here", "_law_pace", "_law_rests"] (sp_law_read K) := by
  have G_law_ticks := ok_law_ticks (P := P) (base := base) T
  have G_law_seen := ok_law_seen (P := P) (base := base) T
  refine (d_law_read T).ok sc_law_read (fun vs H Q E h => ?_) (fun cdv A outer s H vs Q E hr h => ?_)
  · obtain ⟨_, _, _, _, _, _, _, _, rfl, _⟩ := h; rfl
  obtain ⟨v, u, x, y, p, r, pace, rest, rfl, hP, ok, hR, ro, ⟨px, rfl, hx⟩, ⟨py, rfl, hy⟩, hpl, hrl, q⟩ := h
  have hwn := ok.wn
  have hln := ro.n1
  obtain ⟨e, f, ks, rfl, he, hf, hks⟩ := hR
  have hkl : ks.length = r.looks.length := paired_len hks
  refine ⟨_, (pss_cons (ps_set (i := 4) sc_law_read.nd rfl (Or.inr rfl) (pcall (d_law_ticks T) G_law_ticks (hr.mono (by decide)) (pa_cons (pv 2) (pa_cons pe_int pa_nil))))
      (pss_cons (ps_set (i := 5) sc_law_read.nd rfl (Or.inl rfl) (pcall (d_law_ticks T) G_law_ticks (hr.mono (by decide)) (pa_cons (pv 3) (pa_cons (pe_cut (pe_ifExp (pt_cmpR op_isN (pe_ix ix_tup (pv 1) pe_int (fun _ _ => rfl)) pe_non (nomark _)) pe_int (pe_ix ix_list (pv 4) (pe_ix ix_tup (pv 1) pe_int (fun _ _ => rfl)) (fun _ _ => rfl)))) pa_nil))))
      (pss_one (ps_ret (pe_join pe_str (pe_lc (g := gTup K 2 (gCons (gName 6) (gCons (gName 7) gNil))) (own := [("_law_look", 6), ("_law_tick", 7)]) rfl sc_law_read.nd (pi_zipTL (by rfl) (f_zip T) (pa_cons (pe_ix ix_tup (pv 1) pe_int (fun _ _ => rfl)) (pa_cons (pv 5) pa_nil))) (blkOk_by (own := [("_law_look", 6), ("_law_tick", 7)]) (N := ["_law_plan_here", "_law_reader_here", "_law_pace", "_law_rests", "_law_told", "_law_looks", "_law_look", "_law_tick"]) (sc := defScope s_law_read) (by decide +kernel)) (fun _ _ _ _ _ => (pg_tup rfl (pgs_cons (pg_name (i := 6) sc_law_read.nd rfl (Or.inl rfl)) (pgs_cons (pg_name (i := 7) sc_law_read.nd rfl (Or.inl rfl)) pgs_nil)))) (fun _ _ _ _ _ => pts_nil) (fun _ _ _ _ _ => (pcall (d_law_seen T) G_law_seen (hr.mono (by decide)) (pa_cons (pv 0) (pa_cons (pv 4) (pa_cons (pe_ix (ix_tupK (K := K) rfl) (pv 6) pe_int (fun _ _ => rfl)) (pa_cons (pv 7) pa_nil)))))))))))), ?_⟩
  have htl : (runs 0 pace).length = p.ws.length := by rw [runs_len, hpl]
  refine ⟨_, rfl, px, pace, 0, rfl, hx, by omega, fun H1 dt k1 _ hdt => ?_⟩
  refine ⟨_, rfl, ?_⟩
  refine ⟨fun v H' => v = .int (firstOf (runs 0 pace) r.start) ∧ H' = H1, ?_, ?_⟩
  · refine ⟨_, rfl, _, _, _, _, rfl, rfl, kpT he k1, rfl, rfl, _, rfl, ?_⟩
    cases hs : r.start with
    | none => exact iteDT rfl ⟨rfl, rfl⟩
    | some s =>
      have hs' : s < (runs 0 pace).length := by rw [htl]; exact ro.st s hs
      refine iteDF (by intro z; cases z) ⟨_, rfl, _, rfl, _, _, _, _, rfl, rfl, kpT he k1, (by rw [hs]; rfl), dt, _, _, _, rfl, rfl, SqL.of hdt, atI_nat (by rw [List.getElem?_map, List.getElem?_eq_getElem hs']; rfl), ?_, rfl⟩
      show _ = V.int ((runs 0 pace)[s]?.getD 0)
      rw [List.getElem?_eq_getElem hs']
      rfl
  rintro v' H' ⟨rfl, rfl⟩
  refine ⟨py, rest, _, rfl, kpT hy k1, by omega, fun H2 dl k2 _ hdl => ?_⟩
  have k12 := k1.trans k2
  have hdt2 := k2.keep _ _ hdt (by simp)
  have hll : (runs (firstOf (runs 0 pace) r.start) rest).length = r.looks.length := by rw [runs_len, hrl]
  have he2 := kpT he k12
  have hf2 := kpT hf k12
  refine ⟨⟨_, rfl⟩, _, rfl, _, _, _, _, rfl, rfl, he2, rfl, _, rfl, f, dl, ks, _, rfl, hf2, SqL.of hdl, fun D hD => lc_it (walk_zipG (n := r.looks.length) (xs := ks) (ys := (runs (firstOf (runs 0 pace) r.start) rest).map V.int) (by rw [List.length_map, hll, hkl, Nat.min_self])) (fun i H' => Kp [] H2 H' ∧ H' D = some (.lst ((((List.range i).map (seeJ p r (qOf r pace rest))).map fun c => strL [c]).map V.str))) ⟨.new hD, upd_same⟩ (fun i H' _ h => ⟨kpT hf2 h.1, SqL.of (h.1.keep _ _ hdl (by simp))⟩) ?_ ?_⟩
  · rintro i x H3 H4 hi ⟨k3, hD3⟩ ⟨t, y, z, rfl, ht, rfl, h1, h2⟩
    obtain ⟨lk, hlk, g, rfl, hg⟩ := paired_at hks h1
    have hi2 : i < (runs (firstOf (runs 0 pace) r.start) rest).length := by rw [hll]; exact hi
    have hz : z = .int (qOf r pace rest (1 + p.ws.length + i)) := by
      have h2' : ((runs (firstOf (runs 0 pace) r.start) rest).map V.int)[i]? = some z := h2
      rw [List.getElem?_map, List.getElem?_eq_getElem hi2] at h2'
      have e1 : qOf r pace rest (1 + p.ws.length + i) = (runs (firstOf (runs 0 pace) r.start) rest)[i] := by
        unfold qOf
        rw [← htl, tick_l, List.getElem?_eq_getElem hi2]
        rfl
      rw [e1]
      exact (Option.some.inj h2').symm
    subst hz
    have elk : r.looks[i] = lk := by rw [List.getElem?_eq_getElem hi] at hlk; exact Option.some.inj hlk
    have k4 := k3.newT (p := t) (o := .tup [.ref g, .int (qOf r pace rest (1 + p.ws.length + i))]) ht
    have k04 := k12.trans k4
    refine ⟨t, _, rfl, SqT.of upd_same, rfl, _, _, rfl, _, _, rfl, rfl, rfl, tyes ?_⟩
    refine iteT ?_
    refine ⟨_, rfl, _, rfl, _, rfl, _, _, _, _, rfl, rfl, kpT hg k04, rfl, _, rfl, _, p, dt, runs 0 pace, lk.cell, _, qOf r pace rest, rfl, hP.kp k04, ok, k4.keep _ _ hdt2 (by simp), htl, fun m hm => ?_, fun H5 k5 => ?_⟩
    · have hm' : m < (runs 0 pace).length := by rw [htl]; exact hm
      have e1 : qOf r pace rest (m + 1) = (runs 0 pace)[m] := tick_s (List.getElem?_eq_getElem hm')
      rw [e1]
      exact List.getElem?_eq_getElem hm'
    · have kt : Kp [] H3 (upd H3 t (.tup [.ref g, .int (qOf r pace rest (1 + p.ws.length + i))])) := .new ht
      have hD5 := (kt.trans k5).keep _ _ hD3 (by simp)
      refine ⟨_, hD5, small1000 (by rw [List.length_map, List.length_map, List.length_map, List.length_range]; omega), (k4.trans k5).putN hD, ?_⟩
      have es : seeJ p r (qOf r pace rest) i = seenN p (qOf r pace rest) lk.cell (qOf r pace rest (1 + p.ws.length + i)) p.ws.length := by rw [seeJ_at hi, elk]
      rw [upd_same, List.range_succ, List.map_append, List.map_append, List.map_append]
      show some (HO.lst (_ ++ [V.str (sg (seenN p (qOf r pace rest) lk.cell (qOf r pace rest (1 + p.ws.length + i)) p.ws.length))])) = some (HO.lst (_ ++ [V.str (strL [seeJ p r (qOf r pace rest) i])]))
      rw [es, sg_str]
  · rintro H3 ⟨k3, hD3⟩
    refine ⟨strL [], D, ((List.range r.looks.length).map (seeJ p r (qOf r pace rest))).map (fun c => strL [c]), by rw [strL_nil], rfl, .inl (SqL.of hD3), ?_, ?_⟩
    · rw [List.map_map, List.map_map, List.length_map, List.length_map, List.length_range]
      show ((List.range r.looks.length).map fun _ => 1).sum + _ * 0 ≤ _
      rw [List.map_const', List.sum_replicate_nat, List.length_range]
      omega
    · have e1 : ((List.range r.looks.length).map (seeJ p r (qOf r pace rest))).map (fun c => strL [c]) = (((List.range r.looks.length).map (seeJ p r (qOf r pace rest))).map fun c => [c]).map strL := by rw [List.map_map, List.map_map, List.map_map]; rfl
      rw [e1, tjoin_L, joinL_one]
      exact q _ (k12.trans k3)
end
end Ink
set_option Elab.async false
set_option linter.all false
set_option pp.maxSteps 150
set_option maxRecDepth 100000
set_option maxHeartbeats 4000000
namespace Ink
open PySem PySem.Spec PyProof.Rows L2 StX
/-- narrow: as the law draws them -/
def Nar (p : Pl) (r : Rdr) : Prop := (∀ x ∈ p.ws, x.high ≤ x.low + 1) ∧ ∀ k ∈ r.looks, k.high ≤ k.low + 1
section
variable {P : Program} {w : World} {K : PySem.W.Frag} {mg : Str → Option Value} {base : Heap}
def sp_law_paces (K : PySem.W.Frag) : Sp := fun vs H Q _ => ∃ (v : V) (p : Pl), vs = [v] ∧ IsPl K H v p ∧ p.Ok ∧ (∀ x ∈ p.ws, x.high ≤ x.low + 1) ∧
  ∀ (H' : Hp) (a : Addr) (av : List V) (zs : List (List Int)), Kp [] H H' → H' a = some (.lst av) → Paired (IsIv K H') av zs → (∀ z, z ∈ zs ↔ InR z (wBd p)) → zs.length ≤ 16 → Q (.ref a) H'
theorem sc_law_paces : FnScope ["_law_plan_here", "_law_write"] ["_law_plan_here"] (defScope s_law_paces) := ⟨rfl, rfl, rfl, by decide +kernel, rfl, by decide +kernel, by decide +kernel⟩
theorem ok_law_paces (T : Txt w K mg) : FnOk P w K mg base CX0 2 (He.ga K "_law_paces") (fdA K (He.ga K "_law_paces")) ["_law_plan_here"] (sp_law_paces K) := by
  have G_law_all := ok_law_all (P := P) (base := base) T
  refine (d_law_paces T).ok sc_law_paces (fun vs H Q E h => ?_) (fun cdv A outer s H vs Q E hr h => ?_)
  · obtain ⟨_, _, rfl, _⟩ := h; rfl
  obtain ⟨v, p, rfl, ⟨a, b, c, vs, rfl, ha, hb, hc, hp⟩, ok, nar, q⟩ := h
  have hvl : vs.length = p.ws.length := paired_len hp
  have hwn := ok.wn
  refine ⟨_, (pss_one (ps_ret (pcall (d_law_all T) G_law_all (hr.mono (by decide)) (pa_cons (pe_lc (own := [("_law_write", 1)]) rfl sc_law_paces.nd (pi_tup (pe_ix ix_tup (pv 0) pe_int (fun _ _ => rfl))) (blkOk_by (own := [("_law_write", 1)]) (N := ["_law_plan_here", "_law_write"]) (sc := defScope s_law_paces) (by decide +kernel)) (fun _ _ _ _ _ => (pg_name (i := 1) sc_law_paces.nd rfl (Or.inl rfl))) (fun _ _ _ _ _ => pts_nil) (fun _ _ _ _ _ => (pe_tup (pa_cons (pe_ix (ix_tupK (K := K) rfl) (pv 1) pe_int (fun _ _ => rfl)) (pa_cons (pe_ix (ix_tupK (K := K) rfl) (pv 1) pe_int (fun _ _ => rfl)) pa_nil))))) pa_nil)))), ?_⟩
  refine ⟨_, rfl, _, _, _, _, rfl, rfl, ha, rfl, c, rfl, ⟨_, hc⟩, fun D hD => lc_tup (xs := vs) (fun i H' => Kp [] H H' ∧ ∃ bv, H' D = some (.lst bv) ∧ Paired (IsBd K H') bv ((wBd p).take i)) ⟨.new hD, [], upd_same, .nil⟩ (fun i H' _ h => kpT hc h.1) ?_ ?_⟩
  · rintro i x H1 hx ⟨k1, bv, hD1, hbv⟩
    obtain ⟨y, hy, e, rfl, he⟩ := paired_at hp hx
    have hi : i < p.ws.length := (List.getElem?_eq_some_iff.mp hy).1
    have hbl : bv.length ≤ i := by rw [paired_len hbv, List.length_take]; omega
    refine ⟨rfl, tyes ?_⟩
    refine iteT ?_
    refine ⟨_, rfl, _, _, _, _, rfl, rfl, kpT he k1, rfl, _, rfl, _, _, _, _, rfl, rfl, kpT he k1, rfl, by show 2 ≤ sizeLine; decide, fun t ht => ?_⟩
    have kt : Kp [] H1 (upd H1 t (.tup [.int y.low, .int y.high])) := .new ht
    have hD2 := kt.keep _ _ hD1 (by simp)
    have kx : Kp [D] (upd H1 t (.tup [.int y.low, .int y.high])) (upd (upd H1 t (.tup [.int y.low, .int y.high])) D (.lst (bv ++ [V.ref t]))) := .put (by simp) hD2 rfl
    have et : (wBd p).take (i + 1) = (wBd p).take i ++ [(y.low, y.high)] := by
      rw [List.take_succ]
      unfold wBd
      rw [List.getElem?_map, hy]
      rfl
    refine ⟨_, hD2, small1000 (by omega), (k1.trans kt).putN hD, _, upd_same, ?_⟩
    rw [et]
    exact paired_snoc (pkp hbv fun _ _ z => (z.kp kt).kp kx) ⟨t, rfl, kpT (SqT.of upd_same) kx⟩
  rintro H1 ⟨k1, bv, hD1, hbv⟩
  have ewl : (wBd p).length = p.ws.length := List.length_map ..
  rw [hvl, ← ewl, List.take_length] at hbv
  refine ⟨D, bv, wBd p, rfl, hD1, hbv, by omega, fun b hb => ?_, fun H2 a av zs k2 _ ha hav hz hzl => q H2 a av zs (k1.trans k2) ha hav hz hzl⟩
  obtain ⟨x, hx, rfl⟩ := List.mem_map.mp hb
  have o := ok.ws x hx
  have := nar x hx
  have := o.l0; have := o.l1; have := o.h1
  exact ⟨by show 0 ≤ x.low; omega, by show x.low ≤ x.high; omega, by show x.high ≤ x.low + 1; omega, by show x.high ≤ 1000; omega⟩
def LawRd (K : PySem.W.Frag) (p : Pl) (r : Rdr) (H : Hp) (D : Addr) : Prop := ∃ (kvs : List (Key × V)) (zs : List (List Nat)), H D = some (.dK kvs) ∧ kvs.map (·.1) = zs.map (fun z => Sum.inr (strL z)) ∧ zs.Nodup ∧ ∀ z, z ∈ zs ↔ Rds p r z
def sp_law_readings (K : PySem.W.Frag) : Sp := fun vs H Q _ => ∃ (v u : V) (p : Pl) (r : Rdr), vs = [v, u] ∧ IsPl K H v p ∧ p.Ok ∧ IsRdr K H u r ∧ r.Ok p ∧ Nar p r ∧ ∀ (H' : Hp) (D : Addr), Kp [] H H' → H D = none → LawRd K p r H' D → Q (.ref D) H'
/-- a key put: the keys -/
theorem keys_put {kvs : List (Key × V)} {zs : List (List Nat)} {z : List Nat} {v : V} (h : kvs.map (·.1) = zs.map (fun z => Sum.inr (strL z))) (nd : zs.Nodup) : ∃ zs' : List (List Nat), (putK kvs (.inr (strL z)) v).map (·.1) = zs'.map (fun z => Sum.inr (strL z)) ∧ zs'.Nodup ∧ ∀ y, y ∈ zs' ↔ y ∈ zs ∨ y = z := by
  by_cases hz : z ∈ zs
  · have hany : (kvs.any fun kv => decide (kv.1 = (Sum.inr (strL z) : Key))) = true := by
      have : (Sum.inr (strL z) : Key) ∈ kvs.map (·.1) := by rw [h]; exact List.mem_map.mpr ⟨_, hz, rfl⟩
      obtain ⟨e, he, h1⟩ := List.mem_map.mp this
      exact List.any_eq_true.mpr ⟨e, he, decide_eq_true h1⟩
    refine ⟨zs, ?_, nd, fun y => ⟨.inl, fun q => q.elim id fun e => e ▸ hz⟩⟩
    unfold putK
    rw [if_pos hany, List.map_map, ← h]
    refine List.map_congr_left fun e _ => ?_
    show (if e.1 = _ then (e.1, _) else e).1 = e.1
    split <;> rfl
  · have hany : ¬ (kvs.any fun kv => decide (kv.1 = (Sum.inr (strL z) : Key))) = true := fun q => by
      obtain ⟨e, he, h1⟩ := List.any_eq_true.mp q
      have h1 : e.1 = (Sum.inr (strL z) : Key) := of_decide_eq_true h1
      have : (Sum.inr (strL z) : Key) ∈ kvs.map (·.1) := List.mem_map.mpr ⟨e, he, h1⟩
      rw [h] at this
      obtain ⟨y, hz1, hz2⟩ := List.mem_map.mp this
      have : y = z := strL_inj (Sum.inr.inj hz2)
      exact hz (this ▸ hz1)
    refine ⟨zs ++ [z], ?_, ?_, fun y => by simp⟩
    · unfold putK
      rw [if_neg hany, List.map_append, List.map_append, h]
      rfl
    · rw [List.nodup_append]
      refine ⟨nd, by simp, fun a ha b hb e => ?_⟩
      have : b = z := by simpa using hb
      exact hz (this ▸ e ▸ ha)
theorem sc_law_readings : FnScope ["_law_plan_here", "_law_reader_here", "_law_found", "_law_rests", "_law_look", "_law_pace", "_law_rest"] ["_law_plan_here", "_law_reader_here"] (defScope s_law_readings) := ⟨rfl, rfl, rfl, by decide +kernel, rfl, by decide +kernel, by decide +kernel⟩
theorem ok_law_readings (T : Txt w K mg) : FnOk P w K mg base CX0 3 (He.ga K "_law_readings") (fdA K (He.ga K "_law_readings")) ["_law_plan_here", "_law_reader_here"] (sp_law_readings K) := by
  have G_law_all := ok_law_all (P := P) (base := base) T
  have G_law_paces := ok_law_paces (P := P) (base := base) T
  have G_law_read := ok_law_read (P := P) (base := base) T
  refine (d_law_readings T).ok sc_law_readings (fun vs H Q E h => ?_) (fun cdv A outer s H vs Q E hr h => ?_)
  · obtain ⟨_, _, _, _, rfl, _⟩ := h; rfl
  obtain ⟨v, u, p, r, rfl, hP, ok, hR, ro, nar, q⟩ := h
  have hR0 := hR
  have hln := ro.n1
  obtain ⟨e, f, ks, rfl, he, hf, hks⟩ := hR
  have hkl : ks.length = r.looks.length := paired_len hks
  refine ⟨_, (pss_cons (ps_set (i := 2) sc_law_readings.nd rfl (Or.inl rfl) pe_dnewK)
      (pss_cons (ps_set (i := 3) sc_law_readings.nd rfl (Or.inl rfl) (pcall (d_law_all T) G_law_all (hr.mono (by decide)) (pa_cons (pe_lc (own := [("_law_look", 4)]) rfl sc_law_readings.nd (pi_tup (pe_ix ix_tup (pv 1) pe_int (fun _ _ => rfl))) (blkOk_by (own := [("_law_look", 4)]) (N := ["_law_plan_here", "_law_reader_here", "_law_found", "_law_rests", "_law_look", "_law_pace", "_law_rest"]) (sc := defScope s_law_readings) (by decide +kernel)) (fun _ _ _ _ _ => (pg_name (i := 4) sc_law_readings.nd rfl (Or.inl rfl))) (fun _ _ _ _ _ => pts_nil) (fun _ _ _ _ _ => (pe_tup (pa_cons (pe_ix (ix_tupK (K := K) rfl) (pv 4) pe_int (fun _ _ => rfl)) (pa_cons (pe_ix (ix_tupK (K := K) rfl) (pv 4) pe_int (fun _ _ => rfl)) pa_nil))))) pa_nil)))
      (pss_cons (ps_for PassesOwn.never rfl (pi_list (pcall (d_law_paces T) G_law_paces (hr.mono (by decide)) (pa_cons (pv 0) pa_nil))) (pg_name (i := 5) sc_law_readings.nd rfl (Or.inl rfl)) (pss_one (ps_for PassesOwn.never rfl (pi_list (pv 3)) (pg_name (i := 6) sc_law_readings.nd rfl (Or.inl rfl)) (pss_one (ps_dput (hu_of hr) (pv 2) (pcall (d_law_read T) G_law_read (hr.mono (by decide)) (pa_cons (pv 0) (pa_cons (pv 1) (pa_cons (pv 5) (pa_cons (pv 6) pa_nil))))) (pe_tup (pa_cons (pv 5) (pa_cons (pv 6) pa_nil))) rfl)))))
      (pss_one (ps_ret (pv 2)))))), ?_⟩
  refine fun fd hfd => ?_
  have k0 : Kp [] H (upd H fd (.dK [])) := .new hfd
  have hfd0 : upd H fd (.dK []) fd = some (.dK []) := upd_same
  generalize upd H fd (.dK []) = H0 at k0 hfd0 ⊢
  have he0 := kpT he k0
  have hf0 := kpT hf k0
  refine ⟨_, rfl, _, _, _, _, rfl, rfl, he0, rfl, f, rfl, ⟨_, hf0⟩, fun D hD => lc_tup (xs := ks) (fun i H' => Kp [] H0 H' ∧ ∃ bv, H' D = some (.lst bv) ∧ Paired (IsBd K H') bv ((lBd r).take i)) ⟨.new hD, [], upd_same, .nil⟩ (fun i H' _ h => kpT hf0 h.1) ?_ ?_⟩
  · rintro i x H1 hx ⟨k1, bv, hD1, hbv⟩
    obtain ⟨y, hy, g, rfl, hg⟩ := paired_at hks hx
    have hi : i < r.looks.length := (List.getElem?_eq_some_iff.mp hy).1
    have hbl : bv.length ≤ i := by rw [paired_len hbv, List.length_take]; omega
    have hg1 := kpT (kpT hg k0) k1
    refine ⟨rfl, tyes ?_⟩
    refine iteT ?_
    refine ⟨_, rfl, _, _, _, _, rfl, rfl, hg1, rfl, _, rfl, _, _, _, _, rfl, rfl, hg1, rfl, by show 2 ≤ sizeLine; decide, fun t ht => ?_⟩
    have kt : Kp [] H1 (upd H1 t (.tup [.int y.low, .int y.high])) := .new ht
    have hD2 := kt.keep _ _ hD1 (by simp)
    have kx : Kp [D] (upd H1 t (.tup [.int y.low, .int y.high])) (upd (upd H1 t (.tup [.int y.low, .int y.high])) D (.lst (bv ++ [V.ref t]))) := .put (by simp) hD2 rfl
    have et : (lBd r).take (i + 1) = (lBd r).take i ++ [(y.low, y.high)] := by
      rw [List.take_succ]
      unfold lBd
      rw [List.getElem?_map, hy]
      rfl
    refine ⟨_, hD2, small1000 (by omega), (k1.trans kt).putN hD, _, upd_same, ?_⟩
    rw [et]
    exact paired_snoc (pkp hbv fun _ _ z => (z.kp kt).kp kx) ⟨t, rfl, kpT (SqT.of upd_same) kx⟩
  rintro H1 ⟨k1, bv, hD1, hbv⟩
  have ell : (lBd r).length = r.looks.length := List.length_map ..
  rw [hkl, ← ell, List.take_length] at hbv
  refine ⟨D, bv, lBd r, rfl, hD1, hbv, by omega, fun b hb => ?_, fun H2 rl rv rs k2 _ hrl hrv hrs hrn => ?_⟩
  · obtain ⟨x, hx, rfl⟩ := List.mem_map.mp hb
    have o := ro.ls x hx
    have := nar.2 x hx
    have := o.l0; have := o.l1; have := o.h1
    exact ⟨by show 0 ≤ x.low; omega, by show x.low ≤ x.high; omega, by show x.high ≤ x.low + 1; omega, by show x.high ≤ 1000; omega⟩
  have k02 := (k0.trans k1).trans k2
  have hfd2 := (k1.trans k2).keep _ _ hfd0 (by simp)
  refine ⟨_, rfl, v, p, rfl, hP.kp k02, ok, nar.1, fun H3 pa pv ps k3 hpa hpv hps hpn => ?_⟩
  have hrl3 := k3.keep _ _ hrl (by simp)
  have hfd3 := k3.keep _ _ hfd2 (by simp)
  have k03 := k02.trans k3
  have hrv3 := pkp hrv fun _ _ z => z.kp k3
  have nfp : pa ≠ fd := ne_of hpa hfd3 (by intro z; cases z)
  have nfr : rl ≠ fd := ne_of hrl3 hfd3 (by intro z; cases z)
  have hpl : pv.length = ps.length := paired_len hpv
  have hrll : rv.length = rs.length := paired_len hrv
  refine ⟨pa, rfl, ⟨_, SqL.of hpa⟩, for_list (xs := pv) (fun i σ H' => ∃ o4 o5 o6 kvs zs, σ = [some v, some (.ref e), some (.ref fd), some (.ref rl), o4, o5, o6] ∧ Kp [fd] H3 H' ∧ H' fd = some (.dK kvs) ∧ kvs.map (·.1) = zs.map (fun z => Sum.inr (strL z)) ∧ zs.Nodup ∧ (∀ z, z ∈ zs ↔ ∃ pace ∈ ps.take i, ∃ rest ∈ rs, readP p r (qOf r pace rest) r.looks.length = z) ∧ kvs.length ≤ i * 16)
    ⟨_, _, _, [], [], rfl, .refl _ _, hfd3, rfl, List.nodup_nil, fun z => ⟨fun h => (by cases h), fun ⟨y, hy, _⟩ => by simp at hy⟩, by simp⟩ (fun i σ H' _ h => by obtain ⟨_, _, _, _, _, _, k, _⟩ := h; exact SqL.of (k.keep _ _ hpa (by simp [nfp]))) ?_ ?_⟩
  · rintro i x σ H4 hx ⟨o4, o5, o6, kvs, zs, rfl, k4, hfd4, hkz, hnd, hz, hkl4⟩
    obtain ⟨pace, hpi, hpx⟩ := paired_at hpv hx
    have hi : i < ps.length := (List.getElem?_eq_some_iff.mp hpi).1
    have hpace := (hps pace).mp (List.mem_of_getElem? hpi)
    have hpcl : pace.length = p.ws.length := by rw [paired_len hpace]; exact List.length_map ..
    have hrl4 := k4.keep _ _ hrl3 (by simp [nfr])
    refine ⟨_, rfl, rl, rfl, ⟨_, SqL.of hrl4⟩, for_list (xs := rv) (fun j σ H' => ∃ o6 kvs zs, σ = [some v, some (.ref e), some (.ref fd), some (.ref rl), o4, some x, o6] ∧ Kp [fd] H3 H' ∧ H' fd = some (.dK kvs) ∧ kvs.map (·.1) = zs.map (fun z => Sum.inr (strL z)) ∧ zs.Nodup ∧ (∀ z, z ∈ zs ↔ (∃ pace ∈ ps.take i, ∃ rest ∈ rs, readP p r (qOf r pace rest) r.looks.length = z) ∨ ∃ rest ∈ rs.take j, readP p r (qOf r pace rest) r.looks.length = z) ∧ kvs.length ≤ i * 16 + j)
      ⟨_, kvs, zs, rfl, k4, hfd4, hkz, hnd, fun z => by rw [hz]; simp, hkl4⟩ (fun j σ H' _ h => by obtain ⟨_, _, _, _, k, _⟩ := h; exact SqL.of (k.keep _ _ hrl3 (by simp [nfr]))) ?_ ?_⟩
    · rintro j y σ H5 hy ⟨o6, kvs, zs, rfl, k5, hfd5, hkz, hnd, hz, hkl5⟩
      obtain ⟨rest, hri, hry⟩ := paired_at hrv3 hy
      have hj : j < rs.length := (List.getElem?_eq_some_iff.mp hri).1
      have hrest := (hrs rest).mp (List.mem_of_getElem? hri)
      have hrtl : rest.length = r.looks.length := by rw [paired_len hrest]; exact List.length_map ..
      have k05 : Kp [] H H5 := k03.drop1 k5 hfd
      have et : rs.take (j + 1) = rs.take j ++ [rest] := by rw [List.take_succ, hri]; rfl
      refine ⟨_, rfl, _, rfl, by show 2 ≤ sizeLine; decide, fun t ht => ?_⟩
      have kt : Kp [] H5 (upd H5 t (.tup [x, y])) := .new ht
      have k6 := k05.trans kt
      refine ⟨_, rfl, _, rfl, _, rfl, _, rfl, _, rfl, v, .ref e, x, y, p, r, pace, rest, rfl, hP.kp k6, ok, hR0.kp k6, ro, (hpx.kp k5).kp kt, (hry.kp k5).kp kt, hpcl, hrtl, fun H6 k7 => ?_⟩
      have hfd7 := (kt.trans k7).keep _ _ hfd5 (by simp)
      refine ⟨fd, _, rfl, DPut.k (k := .inr _) hfd7 (Nat.lt_trans (show kvs.length < 1000 by omega) (by decide)), ?_⟩
      obtain ⟨zs', h1, h2, h3⟩ := keys_put (v := .ref t) (z := readP p r (qOf r pace rest) r.looks.length) hkz hnd
      have hle := putK_le kvs (Sum.inr (strL (readP p r (qOf r pace rest) r.looks.length))) (.ref t)
      refine ⟨_, _, zs', rfl, (k5.trans (kt.trans k7).mono0).trans (.put (by simp) hfd7 rfl), upd_same, h1, h2, fun z => ?_, by omega⟩
      rw [h3, hz, et]
      constructor
      · rintro ((h | ⟨rest', h4, h5⟩) | h)
        · exact .inl h
        · exact .inr ⟨rest', List.mem_append_left _ h4, h5⟩
        · exact .inr ⟨rest, by simp, h.symm⟩
      · rintro (h | ⟨rest', h4, h5⟩)
        · exact .inl (.inl h)
        · rcases List.mem_append.mp h4 with g | g
          · exact .inl (.inr ⟨rest', g, h5⟩)
          · have : rest' = rest := by simpa using g
            subst this
            exact .inr h5.symm
    · rintro σ H5 ⟨o6, kvs, zs, rfl, k5, hfd5, hkz, hnd, hz, hkl5⟩
      rw [hrll, List.take_length] at hz
      have et : ps.take (i + 1) = ps.take i ++ [pace] := by rw [List.take_succ, hpi]; rfl
      refine ⟨_, _, _, kvs, zs, rfl, k5, hfd5, hkz, hnd, fun z => ?_, by omega⟩
      rw [hz, et]
      constructor
      · rintro (⟨p', h1, h2⟩ | h)
        · exact ⟨p', List.mem_append_left _ h1, h2⟩
        · exact ⟨pace, by simp, h⟩
      · rintro ⟨p', h1, h2⟩
        rcases List.mem_append.mp h1 with g | g
        · exact .inl ⟨p', g, h2⟩
        · have : p' = pace := by simpa using g
          subst this
          exact .inr h2
  · rintro σ H4 ⟨o4, o5, o6, kvs, zs, rfl, k4, hfd4, hkz, hnd, hz, _⟩
    rw [hpl, List.take_length] at hz
    have hkH4 : Kp [] H H4 := k03.drop1 k4 hfd
    refine ⟨_, rfl, q H4 fd hkH4 hfd ⟨kvs, zs, hfd4, hkz, hnd, fun z => ?_⟩⟩
    rw [hz, rds_iff ro.st]
    constructor
    · rintro ⟨pace, h1, rest, h2, h3⟩
      exact ⟨pace, rest, (hps pace).mp h1, (hrs rest).mp h2, h3⟩
    · rintro ⟨pace, rest, h1, h2, h3⟩
      exact ⟨pace, (hps pace).mpr h1, rest, (hrs rest).mpr h2, h3⟩
end
end Ink
set_option Elab.async false
set_option linter.all false
set_option pp.maxSteps 150
set_option maxRecDepth 100000
set_option maxHeartbeats 4000000
namespace Ink
open PySem PySem.Spec PyProof.Rows L2 StX
/-! ### the words of the printed text -/
def Hd0 (b : List Nat) : Prop := ∀ x, b.head? = some x → cls x = 0
def Pc (cs : List Nat) (ws : List (List Nat)) : Prop := ∀ ds us, Lex ds us → Hd0 ds → Lex (cs ++ ds) (ws ++ us)
def Wd (w : List Nat) : Prop := ∃ k, k ≠ 0 ∧ w ≠ [] ∧ ∀ x ∈ w, cls x = k
theorem Pc.lex {cs : List Nat} {ws : List (List Nat)} (h : Pc cs ws) : Lex cs ws := by
  have := h [] [] .nil (fun x e => by cases e)
  rwa [List.append_nil, List.append_nil] at this
theorem Pc.nil : Pc [] [] := fun _ _ h _ => h
theorem Hd0.app {b ds : List Nat} (hb : Hd0 b) (hd : Hd0 ds) : Hd0 (b ++ ds) := by
  cases b with
  | nil => exact hd
  | cons x b => exact fun y e => hb y e
theorem Pc.cat {a b : List Nat} {u v : List (List Nat)} (ha : Pc a u) (hb : Pc b v) (h : Hd0 b) : Pc (a ++ b) (u ++ v) := fun ds us hl hd => by
  rw [List.append_assoc, List.append_assoc]
  exact ha _ _ (hb ds us hl hd) (h.app hd)
theorem Pc.wd {w b : List Nat} {v : List (List Nat)} (hw : Wd w) (hb : Pc b v) (h : Hd0 b) : Pc (w ++ b) (w :: v) := fun ds us hl hd => by
  obtain ⟨k, k0, ne, hk⟩ := hw
  cases w with
  | nil => exact absurd rfl ne
  | cons c r =>
    have hc := hk c List.mem_cons_self
    show Lex (c :: (r ++ b ++ ds)) ((c :: r) :: (v ++ us))
    rw [List.append_assoc]
    refine .run (by rw [hc]; exact k0) (fun x hx => by rw [hc]; exact hk x (List.mem_cons_of_mem _ hx)) (fun x hx => ?_) (hb ds us hl hd)
    rw [h.app hd x hx, hc]
    exact fun z => k0 z.symm
theorem Pc.sp {b : List Nat} {v : List (List Nat)} (hb : Pc b v) : Pc (32 :: b) v := fun ds us hl hd => .blank (.inl rfl) (hb ds us hl hd)
theorem Pc.lf {b : List Nat} {v : List (List Nat)} (hb : Pc b v) : Pc (10 :: b) v := fun ds us hl hd => .blank (.inr rfl) (hb ds us hl hd)
theorem Pc.one {c : Nat} {b : List Nat} {v : List (List Nat)} (hc : isSingle c) (hb : Pc b v) : Pc (c :: b) ([c] :: v) := fun ds us hl hd => .single hc (hb ds us hl hd)
theorem Pc.dots {b : List Nat} {v : List (List Nat)} (hb : Pc b v) : Pc (46 :: 46 :: b) ([46, 46] :: v) := fun ds us hl hd => .dots (hb ds us hl hd)
theorem hd0_nil : Hd0 [] := fun x e => by cases e
theorem hd0_c {c : Nat} {b : List Nat} (h : cls c = 0) : Hd0 (c :: b) := fun x e => by cases e; exact h
theorem wd_num {n : Nat} (h : n < 10) : Wd (numW n) := ⟨3, by decide, by simp [numW], fun x hx => by
  have : x = 48 + n := by simpa [numW] using hx
  subst this
  have : n = 0 ∨ n = 1 ∨ n = 2 ∨ n = 3 ∨ n = 4 ∨ n = 5 ∨ n = 6 ∨ n = 7 ∨ n = 8 ∨ n = 9 := by omega
  rcases this with rfl | rfl | rfl | rfl | rfl | rfl | rfl | rfl | rfl | rfl <;> decide⟩
theorem wd_sign {c : Nat} (h : cls c = 1) : Wd [c] := ⟨1, by decide, by simp, fun x hx => by
  have : x = c := by simpa using hx
  rw [this]; exact h⟩
theorem wd_ink : Wd (kw "ink") := ⟨1, by decide, by decide +kernel, by decide +kernel⟩
theorem wd_write : Wd (kw "write") := ⟨1, by decide, by decide +kernel, by decide +kernel⟩
theorem wd_reader : Wd (kw "reader") := ⟨1, by decide, by decide +kernel, by decide +kernel⟩
theorem wd_ask : Wd (kw "ask") := ⟨1, by decide, by decide +kernel, by decide +kernel⟩
theorem wd_reads : Wd (kw "reads") := ⟨1, by decide, by decide +kernel, by decide +kernel⟩
theorem wd_sure : Wd (kw "sure") := ⟨1, by decide, by decide +kernel, by decide +kernel⟩
theorem wd_slack : Wd (kw "slack") := ⟨1, by decide, by decide +kernel, by decide +kernel⟩
theorem wd_cells : Wd (kw "cells") := ⟨1, by decide, by decide +kernel, by decide +kernel⟩
theorem wd_begin : Wd (kw "begin") := ⟨1, by decide, by decide +kernel, by decide +kernel⟩
theorem wd_at : Wd (kw "at") := ⟨1, by decide, by decide +kernel, by decide +kernel⟩
theorem wd_bare : Wd (kw "bare") := ⟨1, by decide, by decide +kernel, by decide +kernel⟩
theorem wd_sees : Wd (kw "sees") := ⟨1, by decide, by decide +kernel, by decide +kernel⟩
theorem wd_like : Wd (kw "like") := ⟨1, by decide, by decide +kernel, by decide +kernel⟩
theorem wd_not : Wd (kw "not") := ⟨1, by decide, by decide +kernel, by decide +kernel⟩
theorem wd_bw (o : Bool) : Wd (kw (bw o)) := by cases o <;> exact ⟨1, by decide, by decide +kernel, by decide +kernel⟩
theorem k_sp : kw " " = [32] := by decide +kernel
theorem k_lf : kw "\n" = [10] := by decide +kernel
theorem k_semi : kw ";" = [59] := by decide +kernel
theorem k_col : kw ":" = [58] := by decide +kernel
theorem k_com : kw "," = [44] := by decide +kernel
theorem k_open : kw "(" = [40] := by decide +kernel
theorem k_close : kw ")" = [41] := by decide +kernel
theorem k_dots : kw ".." = [46, 46] := by decide +kernel
theorem k_bare : kw " bare" = 32 :: kw "bare" := by decide +kernel
theorem k_sees : kw " sees " = 32 :: (kw "sees" ++ [32]) := by decide +kernel
theorem k_like : kw " like " = 32 :: (kw "like" ++ [32]) := by decide +kernel
theorem k_at : kw " at " = 32 :: (kw "at" ++ [32]) := by decide +kernel
theorem k_not : kw "not " = kw "not" ++ [32] := by decide +kernel
theorem k_write : kw "write " = kw "write" ++ [32] := by decide +kernel
theorem k_ink : kw "ink " = kw "ink" ++ [32] := by decide +kernel
theorem k_reader : kw "reader " = kw "reader" ++ [32] := by decide +kernel
theorem k_cells : kw "cells " = kw "cells" ++ [32] := by decide +kernel
theorem k_cols : kw ": " = [58, 32] := by decide +kernel
theorem k_coms : kw ", " = [44, 32] := by decide +kernel
theorem c32 : cls 32 = 0 := by decide
theorem c59 : cls 59 = 0 := by decide
theorem c58 : cls 58 = 0 := by decide
theorem c44 : cls 44 = 0 := by decide
theorem c41 : cls 41 = 0 := by decide
theorem c46 : cls 46 = 0 := by decide
theorem c10 : cls 10 = 0 := by decide
theorem pc_cl : ∀ (c : Cl) (l : Nat), c.Sm → Pc (clT c l) (clW c l)
  | .sees i ch, l, h => by
    obtain ⟨h1, h2⟩ := h
    by_cases e : ch = 46
    · have e1 : clT (.sees i ch) l = numW i ++ (32 :: (kw "bare" ++ [])) := by simp only [clT, if_pos e, k_bare, List.append_nil]
      have e2 : clW (.sees i ch) l = numW i :: kw "bare" :: [] := by simp only [clW, if_pos e]
      rw [e1, e2]
      exact .wd (wd_num h1) (.sp (.wd wd_bare .nil hd0_nil)) (hd0_c c32)
    · have e1 : clT (.sees i ch) l = numW i ++ (32 :: (kw "sees" ++ (32 :: ([ch] ++ [])))) := by simp only [clT, if_neg e, k_sees, List.append_nil, List.cons_append, List.append_assoc, List.nil_append]
      have e2 : clW (.sees i ch) l = numW i :: kw "sees" :: [ch] :: [] := by simp only [clW, if_neg e]
      rw [e1, e2]
      exact .wd (wd_num h1) (.sp (.wd wd_sees (.sp (.wd (wd_sign (h2.resolve_left e)) .nil hd0_nil)) (hd0_c c32))) (hd0_c c32)
  | .alike i j, l, h => by
    have e1 : clT (.alike i j) l = numW i ++ (32 :: (kw "like" ++ (32 :: (numW j ++ [])))) := by simp only [clT, k_like, List.append_nil, List.cons_append, List.append_assoc, List.nil_append]
    rw [e1]
    exact .wd (wd_num h.1) (.sp (.wd wd_like (.sp (.wd (wd_num h.2) .nil hd0_nil)) (hd0_c c32))) (hd0_c c32)
  | .not a, l, h => by
    have ih := pc_cl a 3 h
    have e1 : clT (.not a) l = kw "not" ++ (32 :: clT a 3) := by simp only [clT, k_not, List.append_assoc, List.cons_append, List.nil_append]
    rw [e1]
    exact .wd wd_not (.sp ih) (hd0_c c32)
  | .bin o a b, l, h => by
    have ha := pc_cl a (lv o) h.1
    have hb := pc_cl b (lv o + 1) h.2
    have mid : Pc (clT a (lv o) ++ (32 :: (kw (bw o) ++ (32 :: clT b (lv o + 1))))) (clW a (lv o) ++ (kw (bw o) :: clW b (lv o + 1))) := ha.cat (.sp (.wd (wd_bw o) (.sp hb) (hd0_c c32))) (hd0_c c32)
    have em : clT a (lv o) ++ kw " " ++ kw (bw o) ++ kw " " ++ clT b (lv o + 1) = clT a (lv o) ++ (32 :: (kw (bw o) ++ (32 :: clT b (lv o + 1)))) := by simp only [k_sp, List.append_assoc, List.cons_append, List.nil_append]
    by_cases q : l ≤ lv o
    · have e1 : clT (.bin o a b) l = clT a (lv o) ++ (32 :: (kw (bw o) ++ (32 :: clT b (lv o + 1)))) := by rw [← em]; simp only [clT, if_pos q]
      have e2 : clW (.bin o a b) l = clW a (lv o) ++ (kw (bw o) :: clW b (lv o + 1)) := by simp only [clW, if_pos q]
      rw [e1, e2]; exact mid
    · have e1 : clT (.bin o a b) l = 40 :: ((clT a (lv o) ++ (32 :: (kw (bw o) ++ (32 :: clT b (lv o + 1))))) ++ (41 :: [])) := by rw [← em]; simp only [clT, if_neg q, k_open, k_close, List.cons_append, List.nil_append]
      have e2 : clW (.bin o a b) l = [40] :: ((clW a (lv o) ++ (kw (bw o) :: clW b (lv o + 1))) ++ ([41] :: [])) := by simp only [clW, if_neg q, k_open, k_close]
      rw [e1, e2]
      exact .one (by decide) (mid.cat (.one (by decide) .nil) (hd0_c c41))
theorem pc_rests {lo hi : Nat} (h1 : lo < 10) (h2 : hi < 10) {b : List Nat} {v : List (List Nat)} (hb : Pc b v) (h : Hd0 b) : Pc (restsT lo hi ++ b) (restsW lo hi ++ v) := by
  have e1 : restsT lo hi ++ b = numW lo ++ (46 :: 46 :: (numW hi ++ b)) := by simp only [restsT, k_dots, List.append_assoc, List.cons_append, List.nil_append]
  have e2 : restsW lo hi ++ v = numW lo :: [46, 46] :: numW hi :: v := by simp only [restsW, k_dots, List.cons_append, List.nil_append]
  rw [e1, e2]
  exact .wd (wd_num h1) (.dots (.wd (wd_num h2) hb h)) (hd0_c c46)
theorem pc_lk {k : PLk} (h : k.Sm) {b : List Nat} {v : List (List Nat)} (hb : Pc b v) (hd : Hd0 b) : Pc (lkT k ++ b) (lkW k ++ v) := by
  have e1 : lkT k ++ b = numW k.cell ++ (32 :: (kw "at" ++ (32 :: (restsT k.low k.high ++ b)))) := by simp only [lkT, k_at, List.append_assoc, List.cons_append, List.nil_append]
  rw [e1]
  exact .wd (wd_num h.1) (.sp (.wd wd_at (.sp (pc_rests h.2.1 h.2.2 hb hd)) (hd0_c c32))) (hd0_c c32)
theorem pc_lks : ∀ {k0 : PLk} {ks : List PLk} {b : List Nat} {v : List (List Nat)}, (∀ k ∈ k0 :: ks, k.Sm) → Pc b v → Hd0 b → Pc (joinL (kw ", ") ((k0 :: ks).map lkT) ++ b) (lkW k0 ++ moreW ks ++ v)
  | k0, [], b, v, h, hb, hd => by
    have e : lkW k0 ++ moreW [] ++ v = lkW k0 ++ v := by show lkW k0 ++ [] ++ v = _; rw [List.append_nil]
    rw [e]
    exact pc_lk (h k0 List.mem_cons_self) hb hd
  | k0, k1 :: ks, b, v, h, hb, hd => by
    have ih := pc_lks (k0 := k1) (ks := ks) (fun k hk => h k (List.mem_cons_of_mem _ hk)) hb hd
    have e1 : joinL (kw ", ") ((k0 :: k1 :: ks).map lkT) ++ b = lkT k0 ++ (44 :: 32 :: (joinL (kw ", ") ((k1 :: ks).map lkT) ++ b)) := by
      show lkT k0 ++ kw ", " ++ joinL (kw ", ") ((k1 :: ks).map lkT) ++ b = _
      rw [k_coms]; simp only [List.append_assoc, List.cons_append, List.nil_append]
    have e2 : lkW k0 ++ moreW (k1 :: ks) ++ v = lkW k0 ++ ([44] :: (lkW k1 ++ moreW ks ++ v)) := by
      show lkW k0 ++ ((kw "," :: lkW k1) ++ moreW ks) ++ v = _
      rw [k_com]; simp only [List.append_assoc, List.cons_append, List.nil_append]
    rw [e1, e2]
    exact pc_lk (h k0 List.mem_cons_self) (.one (by decide) (.sp ih)) (hd0_c c44)
def Stm.nm : Stm → List Nat
  | .ink z _ => z
  | .write _ _ z _ _ => z
  | .reader z _ _ _ => z
  | .reads z => z
  | .sure z _ => z
  | .slack z _ _ => z
theorem pc_st {s : Stm} (h : s.Sm) (hn : Wd s.nm) : Pc (stT s) (stW s) := by
  have sem : Pc [59] [[59]] := .one (by decide) .nil
  cases s with
  | ink z n =>
    have e1 : stT (.ink z n) = kw "ink" ++ (32 :: (z ++ (32 :: (numW n ++ [59])))) := by simp only [stT, lineT, k_ink, k_sp, k_semi, List.append_assoc, List.cons_append, List.nil_append]
    have e2 : stW (.ink z n) = kw "ink" :: z :: numW n :: [[59]] := by rw [← k_semi]; rfl
    rw [e1, e2]
    exact .wd wd_ink (.sp (.wd hn (.sp (.wd (wd_num h.2) sem (hd0_c c59))) (hd0_c c32))) (hd0_c c32)
  | write cell c z lo hi =>
    obtain ⟨h1, h2, h3, h4, h5⟩ := h
    have e1 : stT (.write cell c z lo hi) = kw "write" ++ (32 :: (numW cell ++ (32 :: ([c] ++ (32 :: (z ++ (32 :: (restsT lo hi ++ [59])))))))) := by simp only [stT, lineT, joinL, k_sp, k_semi, List.append_assoc, List.cons_append, List.nil_append]
    have e2 : stW (.write cell c z lo hi) = kw "write" :: numW cell :: [c] :: z :: (restsW lo hi ++ [[59]]) := by rw [← k_semi]; rfl
    rw [e1, e2]
    exact .wd wd_write (.sp (.wd (wd_num h1) (.sp (.wd (wd_sign h2) (.sp (.wd hn (.sp (pc_rests h4 h5 sem (hd0_c c59))) (hd0_c c32))) (hd0_c c32))) (hd0_c c32))) (hd0_c c32)
  | reader z st k0 ks =>
    obtain ⟨h1, h2, h3, h4⟩ := h
    have lk := pc_lks h3 sem (hd0_c c59)
    cases st with
    | none =>
      have e1 : stT (.reader z none k0 ks) = kw "reader" ++ (32 :: (z ++ (32 :: (kw "begin" ++ (58 :: 32 :: (joinL (kw ", ") ((k0 :: ks).map lkT) ++ [59])))))) := by simp only [stT, lineT, startT, k_reader, k_sp, k_cols, k_semi, List.append_assoc, List.cons_append, List.nil_append]
      have e2 : stW (.reader z none k0 ks) = kw "reader" :: z :: kw "begin" :: [58] :: (lkW k0 ++ moreW ks ++ [[59]]) := by rw [← k_semi, ← k_col]; rfl
      rw [e1, e2]
      exact .wd wd_reader (.sp (.wd hn (.sp (.wd wd_begin (.one (by decide) (.sp lk)) (hd0_c c58))) (hd0_c c32))) (hd0_c c32)
    | some n =>
      have e1 : stT (.reader z (some n) k0 ks) = kw "reader" ++ (32 :: (z ++ (32 :: (kw "write" ++ (32 :: (numW n ++ (58 :: 32 :: (joinL (kw ", ") ((k0 :: ks).map lkT) ++ [59])))))))) := by simp only [stT, lineT, startT, k_reader, k_write, k_sp, k_cols, k_semi, List.append_assoc, List.cons_append, List.nil_append]
      have e2 : stW (.reader z (some n) k0 ks) = kw "reader" :: z :: kw "write" :: numW n :: [58] :: (lkW k0 ++ moreW ks ++ [[59]]) := by rw [← k_semi, ← k_col]; rfl
      rw [e1, e2]
      exact .wd wd_reader (.sp (.wd hn (.sp (.wd wd_write (.sp (.wd (wd_num (h2 n rfl)) (.one (by decide) (.sp lk)) (hd0_c c58))) (hd0_c c32))) (hd0_c c32))) (hd0_c c32)
  | reads z =>
    have e1 : stT (.reads z) = kw "ask" ++ (32 :: (kw "reads" ++ (32 :: (z ++ [59])))) := by simp only [stT, lineT, joinL, k_sp, k_semi, List.append_assoc, List.cons_append, List.nil_append]
    have e2 : stW (.reads z) = kw "ask" :: kw "reads" :: z :: [[59]] := by rw [← k_semi]; rfl
    rw [e1, e2]
    exact .wd wd_ask (.sp (.wd wd_reads (.sp (.wd hn sem (hd0_c c59))) (hd0_c c32))) (hd0_c c32)
  | sure z c =>
    have e1 : stT (.sure z c) = kw "ask" ++ (32 :: (kw "sure" ++ (32 :: (z ++ (32 :: (clT c 1 ++ [59])))))) := by simp only [stT, lineT, joinL, k_sp, k_semi, List.append_assoc, List.cons_append, List.nil_append]
    have e2 : stW (.sure z c) = kw "ask" :: kw "sure" :: z :: (clW c 1 ++ [[59]]) := by rw [← k_semi]; rfl
    rw [e1, e2]
    exact .wd wd_ask (.sp (.wd wd_sure (.sp (.wd hn (.sp ((pc_cl c 1 h.2.1).cat sem (hd0_c c59))) (hd0_c c32))) (hd0_c c32))) (hd0_c c32)
  | slack z m c =>
    have e1 : stT (.slack z m c) = kw "ask" ++ (32 :: (kw "slack" ++ (32 :: (z ++ (32 :: (numW m ++ (32 :: (clT c 1 ++ [59])))))))) := by simp only [stT, lineT, joinL, k_sp, k_semi, List.append_assoc, List.cons_append, List.nil_append]
    have e2 : stW (.slack z m c) = kw "ask" :: kw "slack" :: z :: numW m :: (clW c 1 ++ [[59]]) := by rw [← k_semi]; rfl
    rw [e1, e2]
    exact .wd wd_ask (.sp (.wd wd_slack (.sp (.wd hn (.sp (.wd (wd_num h.2.1) (.sp ((pc_cl c 1 h.2.2.1).cat sem (hd0_c c59))) (hd0_c c32))) (hd0_c c32))) (hd0_c c32))) (hd0_c c32)
theorem pc_rows : ∀ {ss : List Stm} {a : List Nat} {u : List (List Nat)}, Pc a u → (∀ s ∈ ss, s.Sm ∧ Wd s.nm) → Pc (joinL (kw "\n") (a :: ss.map stT)) (u ++ ss.flatMap stW)
  | [], a, u, ha, _ => by
    show Pc a (u ++ [])
    rw [List.append_nil]; exact ha
  | s :: ss, a, u, ha, h => by
    have ih := pc_rows (ss := ss) (pc_st (h s List.mem_cons_self).1 (h s List.mem_cons_self).2) fun t ht => h t (List.mem_cons_of_mem _ ht)
    have e : joinL (kw "\n") (a :: (s :: ss).map stT) = a ++ (10 :: joinL (kw "\n") (stT s :: ss.map stT)) := by
      show a ++ kw "\n" ++ joinL (kw "\n") (stT s :: ss.map stT) = _
      rw [k_lf]; simp only [List.append_assoc, List.cons_append, List.nil_append]
    rw [e]
    exact ha.cat (.lf ih) (hd0_c c10)
theorem lex_whole {cells : Nat} {ss : List Stm} (hc : cells < 10) (h : ∀ s ∈ ss, s.Sm ∧ Wd s.nm) : Lex (wholeT cells ss) (progW cells ss) := by
  have hd : Pc (kw "cells " ++ numW cells ++ kw ";") [kw "cells", numW cells, kw ";"] := by
    have e1 : kw "cells " ++ numW cells ++ kw ";" = kw "cells" ++ (32 :: (numW cells ++ [59])) := by simp only [k_cells, k_semi, List.append_assoc, List.cons_append, List.nil_append]
    have e2 : [kw "cells", numW cells, kw ";"] = kw "cells" :: numW cells :: [[59]] := by rw [k_semi]
    rw [e1, e2]
    exact .wd wd_cells (.sp (.wd (wd_num hc) (.one (by decide) .nil) (hd0_c c59))) (hd0_c c32)
  exact (pc_rows hd h).lex
/-! ### replacing '..' -/
theorem replL_rep2 (z : List Nat) : ∀ (n : Nat) (l : List Nat), l.length ≤ n → StrLaws.replL [46, 46] z l = rep2 z l
  | n, [], _ => StrLaws.replL_nil
  | 0, _ :: _, h => by cases h
  | n + 1, [c], h => by
    rw [StrLaws.replL_miss (by simp), StrLaws.replL_nil]
    by_cases e : c = 46
    · subst e; rfl
    · rw [rep2_ne e]; rfl
  | n + 1, c :: d :: r, h => by
    simp only [List.length_cons] at h
    by_cases e : c = 46 ∧ d = 46
    · obtain ⟨rfl, rfl⟩ := e
      rw [StrLaws.replL_hit (by simp) rfl]
      show z ++ StrLaws.replL [46, 46] z r = z ++ rep2 z r
      rw [replL_rep2 z n r (by omega)]
    · have hm : ¬ (c :: d :: r).take ([46, 46] : List Nat).length = [46, 46] := fun q => e (by
        have : [c, d] = [46, 46] := q
        simpa using this)
      rw [StrLaws.replL_miss hm, replL_rep2 z n (d :: r) (by simp only [List.length_cons]; omega)]
      rw [rep2.eq_2 z c (d :: r) fun q e1 e2 => e ⟨e1, by cases e2; rfl⟩]
theorem replace_dots (cs z : List Nat) : Txt.replace (strL cs) ".." (strL z) = strL (rep2 z cs) := by
  have h := StrLaws.replace_list (x := strL cs) (y := "..") (z := strL z) (by decide)
  have e : (("..": Str).cps.toList) = [46, 46] := by decide +kernel
  rw [e] at h
  have h2 : (Txt.replace (strL cs) ".." (strL z)).cps.toList = rep2 z cs := h.trans (replL_rep2 z _ cs (Nat.le_refl _))
  generalize Txt.replace (strL cs) ".." (strL z) = t at h2
  obtain ⟨⟨l⟩⟩ := t
  have : l = rep2 z cs := h2
  subst this
  rfl
end Ink
set_option Elab.async false
set_option linter.all false
set_option pp.maxSteps 150
set_option maxRecDepth 100000
set_option maxHeartbeats 4000000
namespace Ink
open PySem PySem.Spec PyProof.Rows L2 StX
section
variable {P : Program} {w : World} {K : PySem.W.Frag} {mg : Str → Option Value} {base : Heap}
/-- picking out of a list whose object is known: one of its own items -/
def PickRun (P : Program) (w : World) (K : PySem.W.Frag) (mg : Str → Option Value) (base : Heap) (k : Nat) (f : Addr) : Prop :=
  ∀ (A : Around) (outer : List Env) (s : Shared) (H : Hp) (ra l : Addr) (o : Obj) (xs : List V) (its : List Value) (n : Nat) (Q : VK) (E : XK), Room k A → Env0 P w K mg base A outer s H → RowAt K H ra → H l = some (.frz o (.lst xs)) →
    o.cls = .type "list" → o.data = .seq its.toArray n → Vals xs its → 1 ≤ xs.length → xs.length ≤ 1000 → (∀ H' x, Kp [ra] H H' → RowAt K H' ra → x ∈ xs → Q x H') →
    codeAny (model P w) A (.call (.ref f) ⟨[.ref ra, .ref l], []⟩) (fun r s' => CR CX0 outer P w H s Q E r s' ∧ ∀ u, r = .ok (.ret u) → u ∈ its) s
theorem pick_run (T : Txt w K mg) : PickRun P w K mg base 2 (He.ga K "_law_pick") := by
  intro A outer s H ra l o xs its n Q E hr e0 hR hl hc hd hv h1 h2 q
  have G_law_taken := ok_law_taken (P := P) (base := base) T
  have B := (d_law_pick T).b
  obtain ⟨oc, od, dV, kV, doc, pm, an, cdv, ct, osl, efd, lk, hcd, _, _⟩ := (d_law_pick T).F.ex
  have S := sc_law_pick
  have KX : K.In s.heap := e0.mod.kin.keeps fun b o e => (e0.bs b o e).1
  have lim : s.heap.NoLimit := e0.mod.nolimit.keeps fun b o e => (e0.bs b o e).1
  have hbt := B s [.ref ra, .ref l] KX rfl
  rw [List.append_nil] at hbt
  rw [efd] at hbt lk
  have hkind : ∀ v ∈ (["_law_row", "_law_things"] : List Str).zip [Value.ref ra, .ref l], (defScope s_law_pick).names.lookup v.1 = some .local ∨ ((defScope s_law_pick).names.lookup v.1 = some .cell ∧ ((cellsFrom (s.heap.objs.size + 1) (defScope s_law_pick).names []).lookup v.1).isSome = true) := fun ⟨x, v⟩ hy => by
    rcases S.par x (List.of_mem_zip hy).1 with q | q
    · exact .inl q
    · exact .inr ⟨q, PySem.W.cellsFrom_some _ _ _ (.inl q)⟩
  refine codeAny_call_function hr.depth (KX _ _ lk) rfl S.co S.gen rfl (PySem.W.codeRec_of KX hcd) (hbt _ _ _ _ ?_)
  refine wpAny_newFunctionEnv_cells S.kind hkind fun env he s1 xx => ?_
  subst he
  refine ⟨lim.keeps xx.toInCall.keep, codeAny_func ?_⟩
  have rv : Vals [V.ref ra, .ref l] [Value.ref ra, .ref l] := .cons rfl (.cons rfl .nil)
  have I : Inv (cxOf CX0 P w K mg base ["_law_row", "_law_things"] "_law_pick" (defScope s_law_pick) (He.ga K "_law_pick") cdv A outer s H E) [] (start ["_law_row", "_law_things"] [V.ref ra, .ref l]) H s1 := inv_start S hr.hd e0 rfl rv xx
  have fin : ∀ {σ' : L2.St} {H' : Hp} {v : V} {u : Value} {s' : Shared}, Inv (cxOf CX0 P w K mg base ["_law_row", "_law_things"] "_law_pick" (defScope s_law_pick) (He.ga K "_law_pick") cdv A outer s H E) [] σ' H' s' → RelV v u → Q v H' → CE outer P w H s Q u s' :=
    fun {σ' H' v u s'} J rv q => ⟨v, H', J.os, J.bare, J.base, J.hok, rv, q⟩
  have hr2 := hr.deeper (envOfC "_law_pick" (defScope s_law_pick) s.heap.objs.size (He.ga K "_law_pick") cdv)
  obtain ⟨rxs, hrx⟩ := hR.some
  have ne : l ≠ ra := fun e => by rw [e, hrx] at hl; cases hl
  have hsq : SqL K H l xs := .inl (.inr ⟨o, hl⟩)
  refine wpAny_execs_cons (wpAny_Return_some (Subscript_ (raw_name (x := "_law_things") (i := 1) rfl (by first | exact .inl rfl | exact .inr rfl) I rfl (fun v r => ?_))))
  have e : v = Value.ref l := r
  subst e
  refine wpAny_mono (PE.run (pcall (X := cxOf CX0 P w K mg base ["_law_row", "_law_things"] "_law_pick" (defScope s_law_pick) (He.ga K "_law_pick") cdv A outer s H E) (d_law_taken T) G_law_taken hr2 (pa_cons (pv 0) (pa_cons (pe_callB call_len (by rfl) (f_len T) bb_len (pa_cons (pv 1) pa_nil)) pa_nil))) [] s1 _ H (fun x H1 => ∃ v : Nat, x = .int (v : Nat) ∧ v < xs.length ∧ Kp [ra] H H1 ∧ RowAt K H1 ra) I ?_) (fun u s2 q2 => ?_) (fun e s' z => wpAny_mono z (fun _ _ y => y.elim) (fun _ _ y => y.elim))
  · refine ⟨_, rfl, _, rfl, _, _, rfl, .inl ⟨_, hsq, rfl⟩, ra, xs.length, rfl, hR, h1, h2, fun H1 v k1 hR1 hv => ⟨v, rfl, hv, k1, hR1⟩⟩
  obtain ⟨x, H1, I1, r1, j, rfl, hj, k1, hR1⟩ := q2
  obtain ⟨t, rfl⟩ := r1
  have hfz := k1.frz _ _ _ hl
  have hok : H1 l = some (.frz o (.lst xs)) := hfz
  have ho2 := (I1.hok l _ hok).1
  have hil : s2.heap.IsList l its.toArray := ⟨o, ho2, hc, n, hd⟩
  have hlen := hv.length
  obtain ⟨u, eu, ru⟩ := hv.get (List.getElem?_eq_getElem hj)
  refine item_listR (x := u) hil (by omega) (by omega) (by rw [show ((j : Nat) : Int).toNat = j by omega]; simpa using eu) ?_
  exact ⟨fin I1 ru (q _ _ k1 hR1 (List.getElem_mem hj)), fun u' e => by cases e; exact List.mem_of_getElem? eu⟩
/-- replacing by a picked text -/
def tReplP (K : PySem.W.Frag) (ir : Nat) (to : TE) (y : Str) (zs : List Str) : TE := fun σ H Q => to σ H fun v H1 => ∃ x ra, v = .str x ∧ σ[ir]? = some (some (.ref ra)) ∧ RowAt K H1 ra ∧ x.length ≤ 100000 ∧ ∀ H2 z, z ∈ zs → Kp [ra] H1 H2 → RowAt K H2 ra → Q (.str (Txt.replace x y z)) H2
end
section
variable {X : Cx} {o : Expr} {to : TE} {y z0 z1 z2 rx : Str} {j k0 k1 k2 ir : Nat} {c0 d0 d1 d2 apos pos p1 pf lp cp : Pos}
theorem pet_replP (T : Txt X.w X.K X.mg) (ho : PE X o to) (hr : Room 2 X.A) (hN : X.N[ir]? = some rx) (hvk : Vis X.env.scope rx) (hz : ∀ z ∈ [z0, z1, z2], z.length ≤ 8)
    (hg : Gl X "_law_pick" := by rfl) (hdk : (rx == ("__debug__" : Str)) = false := by decide) (hck : (rx == ("__classdict__" : Str)) = false := by decide)
    (hst : starEach [.Constant (.str y) j c0, .Call (.Name "_law_pick" pf) [.Name rx p1, .List [.Constant (.str z0) k0 d0, .Constant (.str z1) k1 d1, .Constant (.str z2) k2 d2] lp] [] cp] X.env =
      [(false, eval (.Constant (.str y) j c0) X.env), (false, eval (.Call (.Name "_law_pick" pf) [.Name rx p1, .List [.Constant (.str z0) k0 d0, .Constant (.str z1) k1 d1, .Constant (.str z2) k2 d2] lp] [] cp) X.env)] := by rfl)
    (hbase : attributeBase o "replace" X.env (eval o X.env) = eval o X.env := by rfl) (hline : (apos.endLine == pos.line) = true := by rfl) :
    PET X (.Call (.Attribute o "replace" apos) [.Constant (.str y) j c0, .Call (.Name "_law_pick" pf) [.Name rx p1, .List [.Constant (.str z0) k0 d0, .Constant (.str z1) k1 d1, .Constant (.str z2) k2 d2] lp] [] cp] [] pos) (tReplP X.K ir to y [z0, z1, z2]) := by
  intro pins s σ H Q h0 I h
  refine PySem.Call_method2 hbase hst hline (wpAny_mono (PySem.wpAny_toks (ho.run pins s σ H _ I h)) (fun v s1 q => ?_) fun _ _ z => z.2)
  obtain ⟨hk, v', H1, I1, r1, x, ra, e1, hra, hR, hb, q⟩ := q
  subst e1
  obtain ⟨tx, e2⟩ := r1
  subst e2
  refine ⟨"str", _, PySem.F.plainAttrs_str, PySem.F.slot_str_replace, PySem.F.type_str_replace, typeIs_str _ _ _, (fun _ e => nomatch e), Calls.callWith_builtin rfl (Calls.evalArgs_plain (Calls.spliced_cons ?_))⟩
  refine Calls.Constant_str (Calls.spliced_cons ?_)
  have Ia : Inv X pins σ H1 { s1 with toks := s1.toks + 1 } := I1.tok _
  refine wpAny_Call_Name_kw (ld_glob Ia hg (d_law_pick T).m ?_ (by decide))
  refine PySem.W.callWith_K (h₀ := X.base) Ia.ok.mod.kin (d_law_pick T).F.kp ?_ rfl rfl
  show wpAny _ _ (spliced ((false, eval (.Name rx p1) X.env) :: backTo cp (starEach [.List [.Constant (.str z0) k0 d0, .Constant (.str z1) k1 d1, .Constant (.str z2) k2 d2] lp] X.env))) _ _ _
  refine Calls.spliced_cons (raw_name hN hvk Ia hra (fun v r => ?_) hdk hck)
  have e : v = Value.ref ra := r
  subst e
  show wpAny _ _ (spliced ((false, eval (.List [.Constant (.str z0) k0 d0, .Constant (.str z1) k1 d1, .Constant (.str z2) k2 d2] lp) X.env) :: backTo cp (starEach [] X.env))) _ _ _
  refine Calls.spliced_cons (wpAny_List_spliced ?_)
  show wpAny _ _ (spliced ((false, eval (.Constant (.str z0) k0 d0) X.env) :: backTo lp (starEach [.Constant (.str z1) k1 d1, .Constant (.str z2) k2 d2] X.env))) _ _ _
  refine Calls.spliced_cons (Calls.Constant_str ?_)
  show wpAny _ _ (spliced ((false, eval (.Constant (.str z1) k1 d1) X.env) :: backTo lp (starEach [.Constant (.str z2) k2 d2] X.env))) _ _ _
  refine Calls.spliced_cons (Calls.Constant_str ?_)
  show wpAny _ _ (spliced ((false, eval (.Constant (.str z2) k2 d2) X.env) :: backTo lp (starEach [] X.env))) _ _ _
  refine Calls.spliced_cons (Calls.Constant_str (Calls.spliced_nil ?_))
  have h3 : (3 : Nat) ≤ sizeLine := by decide
  refine ⟨h3, Calls.spliced_nil ?_⟩
  have hf : H1 s1.heap.objs.size = none := I1.hok.fresh (Nat.le_refl _)
  have hv : Vals [V.str z0, .str z1, .str z2] [Value.str z0 (s1.toks + 1), .str z1 (s1.toks + 1 + 1), .str z2 (s1.toks + 1 + 1 + 1)] := .cons ⟨_, rfl⟩ (.cons ⟨_, rfl⟩ (.cons ⟨_, rfl⟩ .nil))
  have Ib : Inv X pins σ (upd H1 s1.heap.objs.size (.frz { cls := .type "list", data := .seq #[.str z0 (s1.toks + 1), .str z1 (s1.toks + 1 + 1), .str z2 (s1.toks + 1 + 1 + 1)] 0 } (.lst [.str z0, .str z1, .str z2]))) { s1 with heap := s1.heap.push { cls := .type "list", data := .seq #[.str z0 (s1.toks + 1), .str z1 (s1.toks + 1 + 1), .str z2 (s1.toks + 1 + 1 + 1)] 0 }, toks := s1.toks + 1 + 1 + 1 + 1 } :=
    I1.laid (t' := s1.toks + 1 + 1 + 1 + 1) (fun b u e => Heap.get?_push_of_some _ e) (Nat.le_refl _) ⟨Heap.get?_push_size _ rfl, h3, [.str z0 (s1.toks + 1), .str z1 (s1.toks + 1 + 1), .str z2 (s1.toks + 1 + 1 + 1)], 0, hv, Heap.get?_push_size _ rfl⟩
  have kf : Kp [ra] H1 (upd H1 s1.heap.objs.size (.frz { cls := .type "list", data := .seq #[.str z0 (s1.toks + 1), .str z1 (s1.toks + 1 + 1), .str z2 (s1.toks + 1 + 1 + 1)] 0 } (.lst [.str z0, .str z1, .str z2]))) := .new hf
  have hRb := hR.kp (Kp.new (S := []) (o := .frz { cls := .type "list", data := .seq #[.str z0 (s1.toks + 1), .str z1 (s1.toks + 1 + 1), .str z2 (s1.toks + 1 + 1 + 1)] 0 } (.lst [.str z0, .str z1, .str z2])) hf) (by simp)
  refine ⟨Ib.kIn, wpAny_call (codeAny_mono (pick_run (P := X.prog) (base := X.base) T X.A X.stack _ _ ra s1.heap.objs.size _ [.str z0, .str z1, .str z2] [.str z0 (s1.toks + 1), .str z1 (s1.toks + 1 + 1), .str z2 (s1.toks + 1 + 1 + 1)] 0
    (fun v H' => ∃ z, z ∈ [z0, z1, z2] ∧ v = .str z ∧ Kp [ra] H1 H' ∧ RowAt X.K H' ra) L2.E0 hr Ib.env0 hRb upd_same rfl rfl hv (by show 1 ≤ 3; decide) (by show 3 ≤ 1000; decide) (fun H' x k hR' hx => ?_)) fun r s' hq => ?_)⟩
  · simp only [List.mem_cons, List.not_mem_nil, or_false] at hx
    rcases hx with rfl | rfl | rfl
    · exact ⟨z0, by simp, rfl, kf.trans k, hR'⟩
    · exact ⟨z1, by simp, rfl, kf.trans k, hR'⟩
    · exact ⟨z2, by simp, rfl, kf.trans k, hR'⟩
  obtain ⟨hq, hm⟩ := hq
  cases r with
  | error e => exact hq.elim
  | ok fl =>
    cases fl with
    | next => exact False.elim hq
    | brk => exact False.elim hq
    | cont => exact False.elim hq
    | ret u =>
      obtain ⟨v, H4, I4, rv, z, hzm, rfl, k4, hR4⟩ := Ib.after hq
      have hu := hm u rfl
      obtain ⟨tz, rfl⟩ := rv
      have htz : s1.toks + 1 ≤ tz := by
        simp only [List.mem_cons, List.not_mem_nil, or_false] at hu
        rcases hu with e | e | e <;> · cases e; omega
      have hzl := hz z hzm
      have hmul : (x.length + 1) * z.length ≤ (x.length + 1) * 8 := Nat.mul_le_mul_left _ hzl
      refine Calls.spliced_nil ?_
      exact PySem.SC.replaceA (show s1.toks ≠ 0 by omega) (Nat.ne_of_gt (Nat.lt_of_lt_of_le (Nat.succ_pos _) htz)) (Nat.ne_of_lt htz) (by omega) (fun t' k => ⟨.str (Txt.replace x y z), H4, I4.tok k, ⟨t', rfl⟩, q H4 z hzm k4 hR4⟩) (none_booked T I4.kIn I4.nolimit)
end
end Ink
set_option Elab.async false
set_option linter.all false
set_option pp.maxSteps 150
set_option maxRecDepth 100000
set_option maxHeartbeats 4000000
namespace Ink
open PySem PySem.Spec PyProof.Rows L2 StX
def lastAt (cs : List Nat) (i : Nat) : Option Nat := if i = 0 then none else cs[i - 1]?
theorem lastAt_succ (cs : List Nat) (i : Nat) : lastAt cs (i + 1) = cs[i]? := by
  unfold lastAt
  rw [if_neg (by omega), Nat.add_sub_cancel]
theorem rep2_len (x : List Nat) : ∀ (n : Nat) (l : List Nat), l.length ≤ n → (rep2 x l).length ≤ l.length * (x.length + 1)
  | n, [], _ => Nat.zero_le _
  | 0, _ :: _, h => by cases h
  | n + 1, [c], h => by
    by_cases e : c = 46
    · subst e; show 1 ≤ 1 * _; omega
    · rw [rep2_ne e]; show 1 ≤ 1 * _; omega
  | n + 1, c :: d :: r, h => by
    simp only [List.length_cons] at h
    by_cases e : c = 46 ∧ d = 46
    · obtain ⟨rfl, rfl⟩ := e
      have ih := rep2_len x n r (by omega)
      show (x ++ rep2 x r).length ≤ (r.length + 2) * _
      rw [List.length_append, Nat.add_mul]
      omega
    · rw [rep2.eq_2 x c (d :: r) fun q e1 e2 => e ⟨e1, by cases e2; rfl⟩]
      have ih := rep2_len x n (d :: r) (by simp only [List.length_cons]; omega)
      show (rep2 x (d :: r)).length + 1 ≤ ((d :: r).length + 1) * _
      rw [Nat.add_mul]
      omega
theorem singles : (";:,()" : Str).cps.toList = [59, 58, 44, 40, 41] := by decide +kernel
theorem blanks2 : (" \n" : Str).cps.toList = [32, 10] := by decide +kernel
theorem signs_at {cs : List Nat} {i : Nat} {u : V} (h : (signsV (strL cs))[i]? = some u) : ∃ c, cs[i]? = some c ∧ u = .str (sg c) := by
  have h' : (cs.map fun c => V.str (sg c))[i]? = some u := h
  rw [List.getElem?_map] at h'
  obtain ⟨c, hc, e⟩ := Option.map_eq_some_iff.mp h'
  exact ⟨c, hc, e.symm⟩
theorem single_in {c : Nat} (h : decide (c ∈ (";:,()" : Str).cps.toList) = true) : isSingle c := by
  have := of_decide_eq_true h
  rw [singles] at this
  exact this
theorem blank_in {c : Nat} : decide (c ∈ (" \n" : Str).cps.toList) = true ↔ c = 32 ∨ c = 10 := by
  rw [decide_eq_true_iff, blanks2]
  simp
section
variable {P : Program} {w : World} {K : PySem.W.Frag} {mg : Str → Option Value} {base : Heap}
def sp_law_loose (K : PySem.W.Frag) : Sp := fun vs H Q _ => ∃ (ra : Addr) (cs : List Nat), vs = [.ref ra, .str (strL cs)] ∧ RowAt K H ra ∧ cs.length ≤ 3000 ∧
  ∀ (H' : Hp) (ds : List Nat), Kp [ra] H H' → RowAt K H' ra → ds.length ≤ 100000 → (∀ ws, Lex cs ws → Lex ds ws) → Q (.str (strL ds)) H'
theorem sc_law_loose : FnScope ["_law_row", "_law_text", "_law_found", "_law_at", "_law_sign", "_law_tight"] ["_law_row", "_law_text"] (defScope s_law_loose) := ⟨rfl, rfl, rfl, by decide +kernel, rfl, by decide +kernel, by decide +kernel⟩
theorem ok_law_loose (T : Txt w K mg) : FnOk P w K mg base CX0 4 (He.ga K "_law_loose") (fdA K (He.ga K "_law_loose")) ["_law_row", "_law_text"] (sp_law_loose K) := by
  have G_law_pick := ok_law_pick (P := P) (base := base) T
  refine (d_law_loose T).ok sc_law_loose (fun vs H Q E h => ?_) (fun cdv A outer s H vs Q E hr h => ?_)
  · obtain ⟨_, _, rfl, _⟩ := h; rfl
  obtain ⟨ra, cs, rfl, hR, hcl, q⟩ := h
  have hszl : (strL cs).length ≤ sizeLine := Nat.le_trans hcl (by decide)
  refine ⟨_, (pss_str (i := 2) sc_law_loose.nd rfl (Or.inl rfl) (psst_cons (PST.of (ps_for PassesOwn.never rfl (pi_enumS (by rfl) (f_enumerate T) (pa_cons (pv 1) pa_nil)) (pg_tup rfl (pgs_cons (pg_name (i := 3) sc_law_loose.nd rfl (Or.inl rfl)) (pgs_cons (pg_name (i := 4) sc_law_loose.nd rfl (Or.inl rfl)) pgs_nil))) (pss_cons (ps_set (i := 5) sc_law_loose.nd rfl (Or.inl rfl) (pe_cut (pe_and (pe_chain op_lt op_lt pe_int (pv 3) (pe_op op_sub (pe_callB call_len (by rfl) (f_len T) bb_len (pa_cons (pv 1) pa_nil)) pe_int)) (pe_one (pe_or (pe_cmpR op_in_sign (pe_ix ix_str (pv 1) (pe_op op_sub (pv 3) pe_int) (fun _ _ => rfl)) pe_str (by with_unfolding_all rfl)) (pe_one (pe_cmpR op_in_sign (pe_ix ix_str (pv 1) (pe_op op_add (pv 3) pe_int) (fun _ _ => rfl)) pe_str (by with_unfolding_all rfl))))))))
      (pss_one (ps_set (i := 2) sc_law_loose.nd rfl (Or.inl rfl) (pe_op op_add_str (pv 2) (pe_cut (pe_ifExp (pt_cmpR op_in_sign (pv 4) pe_str (by with_unfolding_all rfl)) (pcall (d_law_pick T) G_law_pick (hr.mono (by decide)) (pa_cons (pv 0) (pa_cons (pe_ifExp (pt_val (pv 5)) (pe_lst (pa_cons pe_str (pa_cons pe_str (pa_cons pe_str (pa_cons pe_str pa_nil))))) (pe_lst (pa_cons pe_str (pa_cons pe_str (pa_cons pe_str pa_nil))))) pa_nil))) (pv 4)))))))))
      (CwR.psst_one (CwR.pst_ret (CwR.pet_op op_add_str (CwR.pet_op op_add_str (CwR.PET.of (pcall (d_law_pick T) G_law_pick (hr.mono (by decide)) (pa_cons (pv 0) (pa_cons (pe_lst (pa_cons pe_str (pa_cons pe_str pa_nil))) pa_nil)))) (pet_replP (ir := 0) T (pv 2) (hr.mono (by decide)) rfl (by first | exact .inl rfl | exact .inr rfl) (by decide))) (CwR.PET.of (pcall (d_law_pick T) G_law_pick (hr.mono (by decide)) (pa_cons (pv 0) (pa_cons (pe_lst (pa_cons pe_str (pa_cons pe_str pa_nil))) pa_nil))))))))), ?_⟩
  refine ⟨_, rfl, _, rfl, for_it walk_enumG (fun i σ H' => ∃ o3 o4 o5 es, σ = [some (.ref ra), some (.str (strL cs)), some (.str (strL es)), o3, o4, o5] ∧ Kp [ra] H H' ∧ RowAt K H' ra ∧ es.length ≤ 2 * i ∧ ∀ ds, Lz (lastAt cs i) (cs.drop i) ds → Lz none cs (es ++ ds))
    ⟨_, _, _, [], rfl, .refl _ _, hR, Nat.zero_le _, fun ds h => h⟩ (fun i σ H' _ h => rfl) ?_ ?_⟩
  · rintro i y σ H1 H2 hi ⟨o3, o4, o5, es, rfl, k1, hR1, hel, hes⟩ ⟨t, y0, u, rfl, ht, rfl, h1, h2⟩
    cases h1
    obtain ⟨c, hc, rfl⟩ := signs_at h2
    have hin : i < cs.length := (List.getElem?_eq_some_iff.mp hc).1
    have kt : Kp [] H1 (upd H1 t (.tup [.int (i : Nat), .str (sg c)])) := .new ht
    have hR2 := hR1.kp kt (by simp)
    refine ⟨t, _, rfl, SqT.of upd_same, rfl, _, _, rfl, _, _, rfl, rfl, ?_⟩
    have hdrop : cs.drop i = c :: cs.drop (i + 1) := by
      rw [List.drop_eq_getElem_cons hin]
      have := (List.getElem?_eq_some_iff.mp hc).2
      rw [this]
    have hi1 : ∀ {k : Nat}, k = i → (((i : Nat) : Int) - 1) = ((k - 1 : Nat) : Int) ∨ i = 0 := fun e => by omega
    refine ⟨fun v H' => ∃ b, v = .bl b ∧ H' = (upd H1 t (.tup [.int (i : Nat), .str (sg c)])) ∧ (b = true → (∃ x, lastAt cs i = some x ∧ isSingle x) ∨ (∃ x, (cs.drop (i + 1)).head? = some x ∧ isSingle x)), ?_, ?_⟩
    · refine ⟨_, rfl, _, _, rfl, rfl, _, rfl, ite2 (fun hp => ?_) (fun _ => ⟨_, rfl, iteF ⟨false, rfl, rfl, fun z => by cases z⟩⟩)⟩
      have hp := of_decide_eq_true hp
      refine ⟨_, rfl, _, _, rfl, ⟨hszl, rfl⟩, _, _, rfl, rfl, _, _, rfl, rfl, _, rfl, ite2 (fun hq => ?_) (fun _ => ⟨false, rfl, rfl, fun z => by cases z⟩)⟩
      have hq := of_decide_eq_true hq
      have hlen : ((strL cs).length : Int) = (cs.length : Nat) := rfl
      rw [hlen] at hq
      obtain ⟨a, ha⟩ : ∃ a, cs[i - 1]? = some a := ⟨_, List.getElem?_eq_getElem (by omega)⟩
      obtain ⟨b, hb⟩ : ∃ b, cs[i + 1]? = some b := ⟨_, List.getElem?_eq_getElem (by omega)⟩
      have ei : ((i : Nat) : Int) - 1 = ((i - 1 : Nat) : Int) := by omega
      refine ⟨_, rfl, _, rfl, _, _, rfl, rfl, _, _, _, rfl, rfl, hszl, (by rw [ei]; exact atI_nat ha), _, _, rfl, rfl, _, rfl, ite2 (fun h1 => ⟨true, rfl, rfl, fun _ => .inl ⟨a, ?_, single_in h1⟩⟩) (fun _ => ?_)⟩
      · unfold lastAt; rw [if_neg (by omega)]; exact ha
      refine ⟨_, rfl, _, rfl, _, _, rfl, rfl, _, _, _, rfl, rfl, hszl, atI_nat hb, _, _, rfl, rfl, _, rfl, rfl, fun h1 => .inr ⟨b, ?_, single_in h1⟩⟩
      rw [List.head?_drop]; exact hb
    rintro v H' ⟨tb, rfl, rfl, htb⟩
    refine ⟨_, rfl, ?_⟩
    refine ⟨fun v H' => ∃ b, v = .str (strL b) ∧ Kp [ra] (upd H1 t (.tup [.int (i : Nat), .str (sg c)])) H' ∧ RowAt K H' ra ∧ b.length ≤ 2 ∧ ∀ ds, Lz (some c) (cs.drop (i + 1)) ds → Lz (lastAt cs i) (cs.drop i) (b ++ ds), ?_, ?_⟩
    · refine ⟨_, rfl, _, _, rfl, rfl, _, rfl, ite2 (fun hb => ?_) (fun hb => ⟨_, rfl, [c], rfl, .refl _ _, hR2, by simp, fun ds hd => ?_⟩)⟩
      · have hb := blank_in.mp hb
        obtain ⟨rx, hrx⟩ := hR2.some
        have fin : ∀ (b : List Nat), (∀ x ∈ b, x = 32 ∨ x = 10) → (b ≠ [] ∨ tb = true) → ∀ ds, Lz (some c) (cs.drop (i + 1)) ds → Lz (lastAt cs i) (cs.drop i) (b ++ ds) := fun b hx ht ds hd => by
          rw [hdrop]
          refine .blank hb hx ?_ hd
          rcases ht with z | z
          · exact .inl z
          · exact .inr (htb z)
        refine ⟨_, rfl, _, rfl, _, rfl, ?_⟩
        cases tb with
        | true =>
          refine iteT ⟨by show 4 ≤ sizeLine; decide, fun D hD => ?_⟩
          have ne : D ≠ ra := fun e => by rw [e, hrx] at hD; cases hD
          refine ⟨ra, D, _, rfl, hR2.kp (Kp.new (S := []) hD) (by simp), upd_same, ne, by decide, by decide, fun H3 x k3 hR3 hx => ?_⟩
          have kk := ((Kp.new (S := []) (o := .lst [.str " ", .str "", .str "\n", .str "  "]) hD).mono0 (S := [ra])).trans k3
          have hx : x = .str " " ∨ x = .str "" ∨ x = .str "\n" ∨ x = .str "  " := by simpa using hx
          rcases hx with e | e | e | e
          · exact ⟨[32], by rw [e]; decide +kernel, kk, hR3, by decide, fin _ (by decide) (.inl (by decide))⟩
          · exact ⟨[], by rw [e]; decide +kernel, kk, hR3, by decide, fin _ (by decide) (.inr rfl)⟩
          · exact ⟨[10], by rw [e]; decide +kernel, kk, hR3, by decide, fin _ (by decide) (.inl (by decide))⟩
          · exact ⟨[32, 32], by rw [e]; decide +kernel, kk, hR3, by decide, fin _ (by decide) (.inl (by decide))⟩
        | false =>
          refine iteF ⟨by show 3 ≤ sizeLine; decide, fun D hD => ?_⟩
          have ne : D ≠ ra := fun e => by rw [e, hrx] at hD; cases hD
          refine ⟨ra, D, _, rfl, hR2.kp (Kp.new (S := []) hD) (by simp), upd_same, ne, by decide, by decide, fun H3 x k3 hR3 hx => ?_⟩
          have kk := ((Kp.new (S := []) (o := .lst [.str " ", .str "\n", .str "  "]) hD).mono0 (S := [ra])).trans k3
          have hx : x = .str " " ∨ x = .str "\n" ∨ x = .str "  " := by simpa using hx
          rcases hx with e | e | e
          · exact ⟨[32], by rw [e]; decide +kernel, kk, hR3, by decide, fin _ (by decide) (.inl (by decide))⟩
          · exact ⟨[10], by rw [e]; decide +kernel, kk, hR3, by decide, fin _ (by decide) (.inl (by decide))⟩
          · exact ⟨[32, 32], by rw [e]; decide +kernel, kk, hR3, by decide, fin _ (by decide) (.inl (by decide))⟩
      · rw [hdrop]
        exact .keep (fun z => hb (blank_in.mpr z)) hd
    rintro v H3 ⟨b, rfl, k3, hR3, hb, hlz⟩
    refine ⟨_, _, rfl, rfl, sz2 (m := 6000) (n := 2) (by show es.length ≤ 6000; omega) hb (by decide), ?_⟩
    refine ⟨_, _, _, es ++ b, (by rw [← strL_app]; rfl), k1.trans (kt.mono0.trans k3), hR3, by rw [List.length_append]; omega, fun ds hd => ?_⟩
    rw [List.append_assoc]
    refine hes _ (hlz _ ?_)
    rw [lastAt_succ, hc] at hd
    exact hd
  rintro σ H1 ⟨o3, o4, o5, es, rfl, k1, hR1, hel, hes⟩
  have hn : (signsV (strL cs)).length = cs.length := by show (cs.map _).length = _; exact List.length_map ..
  rw [hn] at hel hes
  have hlz : Lz none cs es := by
    have := hes [] (by rw [List.drop_length]; exact .nil)
    rwa [List.append_nil] at this
  have nera : ∀ {H' : Hp} {D : Addr}, RowAt K H' ra → H' D = none → D ≠ ra := fun hR hD e => by
    obtain ⟨rx, hrx⟩ := hR.some
    rw [e, hrx] at hD; cases hD
  have el := rep2_len
  refine ⟨_, rfl, by show 2 ≤ sizeLine; decide, fun D hD => ?_⟩
  have kD : Kp [ra] H1 (upd H1 D (.lst [.str "", .str " "])) := .new hD
  refine ⟨ra, D, _, rfl, hR1.kp (Kp.new (S := []) hD) (by simp), upd_same, nera hR1 hD, by decide, by decide, fun H2 x k2 hR2 hx => ?_⟩
  obtain ⟨b0, rfl, hb0, hl0⟩ : ∃ b0 : List Nat, x = .str (strL b0) ∧ (∀ y ∈ b0, y = 32 ∨ y = 10) ∧ b0.length ≤ 1 := by
    have hx : x = .str "" ∨ x = .str " " := by simpa using hx
    rcases hx with e | e
    · exact ⟨[], by rw [e]; decide +kernel, by decide, by decide⟩
    · exact ⟨[32], by rw [e]; decide +kernel, by decide, by decide⟩
  refine ⟨_, rfl, strL es, ra, rfl, rfl, hR2, by show es.length ≤ 100000; omega, fun H3 z hz k3 hR3 => ?_⟩
  obtain ⟨b1, b2, rfl, hb1, hb2, hl1⟩ : ∃ b1 b2 : List Nat, z = strL (b1 ++ [46, 46] ++ b2) ∧ (∀ y ∈ b1, y = 32 ∨ y = 10) ∧ (∀ y ∈ b2, y = 32 ∨ y = 10) ∧ (b1 ++ [46, 46] ++ b2).length ≤ 4 := by
    have hz : z = ".." ∨ z = " .. " ∨ z = "..\n" := by simpa using hz
    rcases hz with e | e | e
    · exact ⟨[], [], by rw [e]; decide +kernel, by decide, by decide, by decide⟩
    · exact ⟨[32], [32], by rw [e]; decide +kernel, by decide, by decide, by decide⟩
    · exact ⟨[], [10], by rw [e]; decide +kernel, by decide, by decide, by decide⟩
  generalize hzz : b1 ++ [46, 46] ++ b2 = zz at hl1
  have hrl : (rep2 zz es).length ≤ 60000 := by
    have h1 := rep2_len zz es.length es (Nat.le_refl _)
    have h2 : es.length * (zz.length + 1) ≤ 6000 * 5 := Nat.mul_le_mul (by omega) (by omega)
    omega
  rw [replace_dots]
  refine ⟨_, _, rfl, rfl, (by show b0.length + (rep2 zz es).length ≤ sizeLine; have : (100000 : Nat) ≤ sizeLine := by decide
                              omega), ?_⟩
  refine ⟨_, rfl, by show 2 ≤ sizeLine; decide, fun D2 hD2 => ?_⟩
  have kD2 : Kp [ra] H3 (upd H3 D2 (.lst [.str "", .str "\n"])) := .new hD2
  refine ⟨ra, D2, _, rfl, hR3.kp (Kp.new (S := []) hD2) (by simp), upd_same, nera hR3 hD2, by decide, by decide, fun H4 y k4 hR4 hy => ?_⟩
  obtain ⟨b3, rfl, hb3, hl3⟩ : ∃ b3 : List Nat, y = .str (strL b3) ∧ (∀ y ∈ b3, y = 32 ∨ y = 10) ∧ b3.length ≤ 1 := by
    have hy : y = .str "" ∨ y = .str "\n" := by simpa using hy
    rcases hy with e | e
    · exact ⟨[], by rw [e]; decide +kernel, by decide, by decide⟩
    · exact ⟨[10], by rw [e]; decide +kernel, by decide, by decide⟩
  refine ⟨_, _, rfl, rfl, (by show (strL b0 ++ strL (rep2 zz es)).length + b3.length ≤ sizeLine; rw [app_len]; show b0.length + (rep2 zz es).length + b3.length ≤ sizeLine; have : (100000 : Nat) ≤ sizeLine := by decide
                              omega), ?_⟩
  refine qv ?_ (q H4 (b0 ++ rep2 zz es ++ b3) ((((k1.trans kD).trans k2).trans k3).trans (kD2.trans k4)) hR4 (by rw [List.length_append, List.length_append]; omega) fun ws hws => ?_)
  · rw [strL_app, strL_app]
  · rw [List.append_assoc]
    refine Lex.blanks hb0 (Lex.tail hb3 ?_)
    rw [← hzz]
    exact Lex.rep hb1 hb2 (hws.loose hlz)
end
end Ink
set_option Elab.async false
set_option linter.all false
set_option pp.maxSteps 150
set_option maxRecDepth 100000
set_option maxHeartbeats 4000000
namespace Ink
open PySem PySem.Spec PyProof.Rows L2 StX
def Sc : V → Prop
  | .str _ => True
  | .bl _ => True
  | .int _ => True
  | .non => True
  | _ => False
def tyn : V → String
  | .str _ => "str"
  | .bl _ => "bool"
  | .int _ => "int"
  | _ => "NoneType"
section
variable {P : Program} {w : World} {K : PySem.W.Frag} {mg : Str → Option Value} {base : Heap}
theorem ty_sc {x : V} {H : Hp} (h : Sc x) : TyX K H x (.type (tyn x)) := by
  cases x with
  | str z => exact .base (.str z)
  | bl z => exact .base (.bl z)
  | int z => exact .base (.int z)
  | non => exact .base .non
  | byt _ => exact h.elim
  | flt _ => exact h.elim
  | ref _ => exact h.elim
  | ty _ => exact h.elim
theorem kitAny2 {t : Value} {a b : Value} {c : Bool} (h1 : PySem.W.kitOne K t a = some false) (h2 : PySem.W.kitOne K t b = some c) : PySem.W.kitAny K t [a, b] = some c := by
  unfold PySem.W.kitAny
  rw [h1]
  show PySem.W.kitAny K t [b] = some c
  unfold PySem.W.kitAny
  rw [h2]
  cases c <;> rfl
theorem kitAny1 {t : Value} {a b : Value} (h1 : PySem.W.kitOne K t a = some true) : PySem.W.kitAny K t [a, b] = some true := by
  unfold PySem.W.kitAny
  rw [h1]
theorem tynQ {x : V} (h : Sc x) : tyn x = "str" ∨ tyn x = "bool" ∨ tyn x = "int" ∨ tyn x = "NoneType" := by
  cases x <;> first | exact h.elim | simp [tyn]
theorem kit_scT {x : V} (h : Sc x) : PySem.W.kitOne K (.type (tyn x)) (.type "tuple") = some false := by
  rcases tynQ h with e | e | e | e <;> rw [e] <;> exact kit_ty (by decide +kernel)
theorem kit_scL {x : V} (h : Sc x) : PySem.W.kitOne K (.type (tyn x)) (.type "list") = some false := by
  rcases tynQ h with e | e | e | e <;> rw [e] <;> exact kit_ty (by decide +kernel)
theorem kit_scD {x : V} (h : Sc x) : PySem.W.kitOne K (.type (tyn x)) (.type "dict") = some false := by
  rcases tynQ h with e | e | e | e <;> rw [e] <;> exact kit_ty (by decide +kernel)
theorem kit_tl : PySem.W.kitOne K (.type "tuple") (.type "list") = some false := kit_ty (by decide +kernel)
def Alk (K : PySem.W.Frag) (H : Hp) : Nat → V → V → Prop
  | 0, _, _ => False
  | n + 1, x, y => (Sc x ∧ x = y) ∨ ∃ a b xs ys, x = .ref a ∧ y = .ref b ∧ SqT K H a xs ∧ SqT K H b ys ∧ xs.length ≤ 100000 ∧ Paired (Alk K H n) xs ys
theorem Alk.kp {S : List Addr} {H H' : Hp} (k : Kp S H H') : ∀ {n : Nat} {x y : V}, Alk K H n x y → Alk K H' n x y
  | 0, _, _, h => h
  | n + 1, _, _, .inl h => .inl h
  | n + 1, _, _, .inr ⟨a, b, xs, ys, e1, e2, h1, h2, hl, p⟩ => .inr ⟨a, b, xs, ys, e1, e2, kpT h1 k, kpT h2 k, hl, pkp p fun _ _ z => Alk.kp k z⟩
def sp_law_alike (K : PySem.W.Frag) (n : Nat) : Sp := fun vs H Q _ => ∃ (x y : V), vs = [x, y] ∧ Alk K H n x y ∧ ∀ H', Kp [] H H' → Q (.bl true) H'
theorem sc_law_alike : FnScope ["_law_found", "_law_due", "_law_k", "_law_key"] ["_law_found", "_law_due"] (defScope s_law_alike) := ⟨rfl, rfl, rfl, by decide +kernel, rfl, by decide +kernel, by decide +kernel⟩
theorem ok_law_alike (T : Txt w K mg) : ∀ n, FnOk P w K mg base CX0 (n + 1) (He.ga K "_law_alike") (fdA K (He.ga K "_law_alike")) ["_law_found", "_law_due"] (sp_law_alike K n)
  | 0 => (d_law_alike T).ok sc_law_alike (fun vs H Q E h => by obtain ⟨_, _, rfl, _⟩ := h; rfl) (fun cdv A outer s H vs Q E hr h => by obtain ⟨_, _, _, z, _⟩ := h; exact z.elim)
  | n + 1 => by
    have G_law_alike := ok_law_alike T n
    refine (d_law_alike T).ok sc_law_alike (fun vs H Q E h => ?_) (fun cdv A outer s H vs Q E hr h => ?_)
    · obtain ⟨_, _, rfl, _⟩ := h; rfl
    obtain ⟨x, y, rfl, hxy, q⟩ := h
    refine ⟨_, (pss_cons (ps_if (pt_val (pe_callB call_isiT (by rfl) (f_isinstance T) bb_isinstance (pa_cons (pv 1) (pa_cons (pe_tup (pa_cons (pe_bltn (v := .ty "tuple") (by rfl) (f_tuple T) bb_tuple rfl) (pa_cons (pe_bltn (v := .ty "list") (by rfl) (f_list T) bb_list rfl) pa_nil))) pa_nil)))) (pss_cons (ps_if (PW.pt (pw_or (pt_not (pt_val (pe_callB call_isiT (by rfl) (f_isinstance T) bb_isinstance (pa_cons (pv 0) (pa_cons (pe_tup (pa_cons (pe_bltn (v := .ty "tuple") (by rfl) (f_tuple T) bb_tuple rfl) (pa_cons (pe_bltn (v := .ty "list") (by rfl) (f_list T) bb_list rfl) pa_nil))) pa_nil))))) (pw_or1 (pt_cmpR op_ne (pe_callB call_isi (by rfl) (f_isinstance T) bb_isinstance (pa_cons (pv 0) (pa_cons (pe_bltn (v := .ty "list") (by rfl) (f_list T) bb_list rfl) pa_nil))) (pe_callB call_isi (by rfl) (f_isinstance T) bb_isinstance (pa_cons (pv 1) (pa_cons (pe_bltn (v := .ty "list") (by rfl) (f_list T) bb_list rfl) pa_nil))) (nomark _))))) (pss_one (ps_ret pe_bl)) pss_nil)
      (pss_cons (ps_if (pt_cmpR op_ne (pe_callB call_len (by rfl) (f_len T) bb_len (pa_cons (pv 0) pa_nil)) (pe_callB call_len (by rfl) (f_len T) bb_len (pa_cons (pv 1) pa_nil)) (nomark _)) (pss_one (ps_ret pe_bl)) pss_nil)
      (pss_one (ps_ret (pe_cmpR (op_eqD hr.units) (pe_lc (own := [("_law_k", 2)]) rfl sc_law_alike.nd (pi_range1 (by rfl) (f_range T) (pa_cons (pe_callB call_len (by rfl) (f_len T) bb_len (pa_cons (pv 1) pa_nil)) pa_nil)) (blkOk_by (own := [("_law_k", 2)]) (N := ["_law_found", "_law_due", "_law_k", "_law_key"]) (sc := defScope s_law_alike) (by decide +kernel)) (fun _ _ _ _ _ => (pg_name (i := 2) sc_law_alike.nd rfl (Or.inl rfl))) (fun _ _ _ _ _ => (pts_one (pt_not (pt_val (pcall (d_law_alike T) G_law_alike (hr.mono (by omega)) (pa_cons (pe_ix (ix_tupK (K := K) rfl) (pv 0) (pv 2) (fun _ _ => rfl)) (pa_cons (pe_ix (ix_tupK (K := K) rfl) (pv 1) (pv 2) (fun _ _ => rfl)) pa_nil))))))) (fun _ _ _ _ _ => (pv 2))) (pe_lst pa_nil) (nomark _)))))) pss_nil)
      (pss_cons (ps_if (pt_val (pe_callB call_isi (by rfl) (f_isinstance T) bb_isinstance (pa_cons (pv 1) (pa_cons (pe_bltn (v := .ty "dict") (by rfl) (f_dict T) bb_dict rfl) pa_nil)))) pss_never pss_nil)
      (pss_cons (ps_if (PW.pt (pw_or (pt_cmpR op_isN (pv 1) pe_non (nomark _)) (pw_or1 (pt_val (pe_callB call_isi (by rfl) (f_isinstance T) bb_isinstance (pa_cons (pv 1) (pa_cons (pe_bltn (v := .ty "str") (by rfl) (f_str T) bb_str rfl) pa_nil))))))) (pss_one (ps_ret (pe_and (pe_cmpR op_eq (pv 0) (pv 1) (nomark _)) (pe_one (pe_cmpR op_eq (pe_callB call_isi (by rfl) (f_isinstance T) bb_isinstance (pa_cons (pv 0) (pa_cons (pe_bltn (v := .ty "str") (by rfl) (f_str T) bb_str rfl) pa_nil))) (pe_callB call_isi (by rfl) (f_isinstance T) bb_isinstance (pa_cons (pv 1) (pa_cons (pe_bltn (v := .ty "str") (by rfl) (f_str T) bb_str rfl) pa_nil))) (nomark _)))))) pss_nil)
      (pss_one (ps_ret (pe_and (pe_callB call_isi (by rfl) (f_isinstance T) bb_isinstance (pa_cons (pv 0) (pa_cons (pe_bltn (v := .ty "int") (by rfl) (f_int T) bb_int rfl) pa_nil))) (pe_and (pe_cmpR op_eq (pe_callB call_isi (by rfl) (f_isinstance T) bb_isinstance (pa_cons (pv 0) (pa_cons (pe_bltn (v := .ty "bool") (by rfl) (f_bool T) bb_bool rfl) pa_nil))) (pe_callB call_isi (by rfl) (f_isinstance T) bb_isinstance (pa_cons (pv 1) (pa_cons (pe_bltn (v := .ty "bool") (by rfl) (f_bool T) bb_bool rfl) pa_nil))) (nomark _)) (pe_one (pe_cmpR op_eq (pv 0) (pv 1) (nomark _)))))))))), ?_⟩
    rcases hxy with ⟨hs, rfl⟩ | ⟨a, b, xs, ys, rfl, rfl, ha, hb, hlen, hp⟩
    · refine ⟨_, rfl, by show 2 ≤ sizeLine; decide, fun D hD => ⟨x, D, _, _, _, _, rfl, upd_same, .cons (.ty _) (.cons (.ty _) .nil), ty_sc hs, kitAny2 (kit_scT hs) (kit_scL hs), _, rfl, iteF ?_⟩⟩
      have kD : Kp [] H (upd H D (.tup [.ty "tuple", .ty "list"])) := .new hD
      refine ⟨_, rfl, x, _, _, _, _, rfl, .ty _, ty_sc hs, kit_scD hs, _, rfl, iteF ?_⟩
      cases x with
      | str z =>
        refine ⟨_, rfl, rfl, _, rfl, iteDF (by intro z; cases z) ?_⟩
        refine ⟨_, rfl, _, _, _, _, _, rfl, .ty _, .base (.str z), kit_ss, _, rfl, iteT ?_⟩
        refine ⟨_, rfl, _, rfl, rfl, _, rfl, iteDT rfl ?_⟩
        refine ⟨_, rfl, _, _, _, _, _, rfl, .ty _, .base (.str z), kit_ss, _, rfl, _, _, _, _, _, rfl, .ty _, .base (.str z), kit_ss, rfl, ?_⟩
        exact qb (by decide) (q _ kD)
      | non =>
        refine ⟨_, rfl, rfl, _, rfl, iteDT rfl ?_⟩
        refine ⟨_, rfl, _, rfl, rfl, _, rfl, iteDT rfl ?_⟩
        have k0 : PySem.W.kitOne K (.type "NoneType") (.type "str") = some false := kit_ty (by decide +kernel)
        refine ⟨_, rfl, _, _, _, _, _, rfl, .ty _, .base .non, k0, _, rfl, _, _, _, _, _, rfl, .ty _, .base .non, k0, rfl, ?_⟩
        exact qb (by decide) (q _ kD)
      | bl b =>
        have k0 : PySem.W.kitOne K (.type "bool") (.type "str") = some false := kit_ty (by decide +kernel)
        have k1 : PySem.W.kitOne K (.type "bool") (.type "int") = some true := kit_ty (by decide +kernel)
        have k2 : PySem.W.kitOne K (.type "bool") (.type "bool") = some true := kit_ty (by decide +kernel)
        refine ⟨_, rfl, rfl, _, rfl, iteDF (by intro z; cases z) ?_⟩
        refine ⟨_, rfl, _, _, _, _, _, rfl, .ty _, .base (.bl b), k0, _, rfl, iteF ?_⟩
        refine ⟨_, rfl, _, _, _, _, _, rfl, .ty _, .base (.bl b), k1, _, rfl, iteT ?_⟩
        refine ⟨_, rfl, _, _, _, _, _, rfl, .ty _, .base (.bl b), k2, _, rfl, _, _, _, _, _, rfl, .ty _, .base (.bl b), k2, rfl, _, rfl, iteDT rfl ?_⟩
        exact ⟨_, rfl, _, rfl, rfl, qb (by simp) (q _ kD)⟩
      | int i =>
        have k0 : PySem.W.kitOne K (.type "int") (.type "str") = some false := kit_ty (by decide +kernel)
        refine ⟨_, rfl, rfl, _, rfl, iteDF (by intro z; cases z) ?_⟩
        refine ⟨_, rfl, _, _, _, _, _, rfl, .ty _, .base (.int i), k0, _, rfl, iteF ?_⟩
        refine ⟨_, rfl, _, _, _, _, _, rfl, .ty _, .base (.int i), kit_ii, _, rfl, iteT ?_⟩
        refine ⟨_, rfl, _, _, _, _, _, rfl, .ty _, .base (.int i), kit_ib, _, rfl, _, _, _, _, _, rfl, .ty _, .base (.int i), kit_ib, rfl, _, rfl, iteDT rfl ?_⟩
        exact ⟨_, rfl, _, rfl, rfl, qb (by simp) (q _ kD)⟩
      | byt _ => exact hs.elim
      | flt _ => exact hs.elim
      | ref _ => exact hs.elim
      | ty _ => exact hs.elim
    · have hlp : xs.length = ys.length := paired_len hp
      refine ⟨_, rfl, by show 2 ≤ sizeLine; decide, fun D hD => ⟨_, D, _, _, _, _, rfl, upd_same, .cons (.ty _) (.cons (.ty _) .nil), tyT (kpT hb (.new (S := []) hD)), kitAny1 kit_tt, _, rfl, iteT ?_⟩⟩
      have kD : Kp [] H (upd H D (.tup [.ty "tuple", .ty "list"])) := .new hD
      have ha1 := kpT ha kD
      have hb1 := kpT hb kD
      refine ⟨_, rfl, by show 2 ≤ sizeLine; decide, fun D2 hD2 => ⟨_, D2, _, _, _, _, rfl, upd_same, .cons (.ty _) (.cons (.ty _) .nil), tyT (kpT ha1 (.new (S := []) hD2)), kitAny1 kit_tt, _, rfl, iteF ?_⟩⟩
      have kD2 := kD.newT (p := D2) (o := .tup [.ty "tuple", .ty "list"]) hD2
      have ha2 := kpT ha kD2
      have hb2 := kpT hb kD2
      refine ⟨_, rfl, _, _, _, _, _, rfl, .ty _, tyT ha2, kit_tl, _, rfl, _, _, _, _, _, rfl, .ty _, tyT hb2, kit_tl, rfl, _, rfl, iteNF (by decide) ?_⟩
      refine ⟨_, rfl, _, _, rfl, .inr ⟨_, ha2, rfl⟩, _, rfl, _, _, rfl, .inr ⟨_, hb2, rfl⟩, rfl, _, rfl, iteNF (by rw [hlp]) ?_⟩
      refine ⟨_, rfl, _, _, rfl, .inr ⟨_, hb2, rfl⟩, _, rfl, (by omega), (by omega), fun B hB => ?_⟩
      refine lc_range (lo := 0) (n := ((ys.length : Nat) : Int).toNat) (fun i H' => Kp [] (upd (upd H D (.tup [.ty "tuple", .ty "list"])) D2 (.tup [.ty "tuple", .ty "list"])) H' ∧ H' B = some (.lst [])) ⟨.new hB, upd_same⟩ ?_ ?_
      · rintro i H3 hi ⟨k3, hB3⟩
        have hi' : i < ys.length := by omega
        have hx : xs[i]? = some (xs[i]'(by omega)) := List.getElem?_eq_getElem (by omega)
        obtain ⟨y, hy, hxy⟩ := paired_at hp hx
        have e0 : (0 : Int) + (i : Nat) = ((i : Nat) : Int) := by omega
        refine ⟨rfl, ?_⟩
        refine ⟨_, rfl, _, rfl, a, _, _, _, rfl, rfl, kpT ha2 k3, (by rw [e0]; exact atI_nat hx), _, rfl, _, rfl, b, _, _, _, rfl, rfl, kpT hb2 k3, (by rw [e0]; exact atI_nat hy), _, _, rfl, (hxy.kp kD2).kp k3, fun H4 k4 => ?_⟩
        exact ⟨_, rfl, iteF ⟨k3.trans k4, k4.keep _ _ hB3 (by simp)⟩⟩
      · rintro H3 ⟨k3, hB3⟩
        refine ⟨by show 0 ≤ sizeLine; decide, fun e0 he0 => ?_⟩
        have hB4 : upd H3 e0 (.lst []) B = some (.lst []) := by rw [upd_ne (ne_of_none hB3 he0)]; exact hB3
        refine ⟨_, _, .lst (SqL.of hB4) .nil, .lst (SqL.of upd_same) .nil, by decide, rfl, ?_⟩
        exact qb (by decide) (q _ ((kD2.trans k3).newT he0))
end
end Ink
set_option Elab.async false
set_option linter.all false
set_option pp.maxSteps 150
set_option maxRecDepth 100000
set_option maxHeartbeats 4000000
namespace Ink
open PySem PySem.Spec PyProof.Rows L2 StX
section
variable {X : Cx}
/-- a dict against the empty dict -/
def rNeD0 : R2 := fun x y H Q => ∃ a b ks, x = .ref a ∧ y = .ref b ∧ H a = some (.dK ks) ∧ H b = some (.dK []) ∧ Q (.bl (!ks.isEmpty)) H
theorem op_neDK (hu : X.A.units + 64 < cLine) : OpR X (compareOp .NotEq) rNeD0 := by
  intro pins s σ H x y v u Q I rx ry h
  obtain ⟨a, b, ks, rfl, rfl, ea, eb, q⟩ := h
  obtain rfl : v = Value.ref a := rx
  obtain rfl : u = Value.ref b := ry
  obtain ⟨_, ya, va, ra, da⟩ := (show ObjOk X.prog X.w H s.heap a (.dK ks) from I.hok a _ ea)
  obtain ⟨_, yb, vb, rb, db⟩ := (show ObjOk X.prog X.w H s.heap b (.dK []) from I.hok b _ eb)
  cases rb
  refine PySem.W.keq_ne (knd := mixKind X.prog X.w) (r := true) ya yb da db (by omega) (fun hl => ?_) (fin_bl I q ?_)
  · cases va with
    | nil => exact hits_all .nil .nil (fun p hp => by cases hp)
    | cons _ _ => cases hl
  · cases ra with
    | nil => rfl
    | cons _ _ => rfl
end
end Ink
set_option Elab.async false
set_option linter.all false
set_option pp.maxSteps 150
set_option maxRecDepth 100000
set_option maxHeartbeats 4000000
namespace Ink
open PySem PySem.Spec PyProof.Rows L2 StX
/-! ### what the law writes, plain -/
def inkN : List (List Nat) := [kw "RED", kw "B", kw "LONGEST"]
def rdN : List (List Nat) := [kw "R", kw "QQ", kw "ABCDEFGH"]
theorem inkN_e : inkN = [[82, 69, 68], [66], [76, 79, 78, 71, 69, 83, 84]] := by decide +kernel
theorem rdN_e : rdN = [[82], [81, 81], [65, 66, 67, 68, 69, 70, 71, 72]] := by decide +kernel
theorem vprog_snoc {cells : Nat} {s : Stm} : ∀ {ss : List Stm} {S : PSt}, VProg cells S ss → s.Sm → VStm cells (ss.foldl PSt.next S) s → VProg cells S (ss ++ [s])
  | [], S, _, h1, h2 => ⟨h1, h2, trivial⟩
  | t :: ss, S, h, h1, h2 => ⟨h.1, h.2.1, vprog_snoc h.2.2 h1 h2⟩
theorem vrun_snoc {cells : Nat} {s : Stm} : ∀ {ss : List Stm} {S : PSt}, VRun cells S ss → (∀ z, s.isAsk = some z → ∃ d, (ss.foldl PSt.next S).rd z = some d ∧ (ss.foldl PSt.next S).inks ≠ [] ∧ ((ss.foldl PSt.next S).pl cells).Ok ∧ (rdOf d).Ok ((ss.foldl PSt.next S).pl cells)) → VRun cells S (ss ++ [s])
  | [], S, _, h2 => ⟨h2, trivial⟩
  | t :: ss, S, h, h2 => ⟨h.1, vrun_snoc h.2 h2⟩
def pwr (x : LWr) : PWr := ⟨x.cell, x.c, inkN.getD x.ink [], x.lo, x.hi⟩
def tp (p : LPl) (told : List LWr) : LPl := ⟨p.cells, p.stays, told⟩
abbrev RdL := List (List Nat × (Option Nat × List PLk))
structure LG (p : LPl) (told : List LWr) (rds : RdL) (ss : List Stm) : Prop where
  v : VProg p.cells S0 ss
  r : VRun p.cells S0 ss
  nm : ∀ s ∈ ss, s.Sm ∧ Wd s.nm
  len : ∀ s ∈ ss, (lineT s).length ≤ 170
  st : ss.foldl PSt.next S0 = ⟨(inkN.take p.stays.length).zip p.stays, told.map pwr, rds⟩
  tn : told.length ≤ 4
  tw : ∀ x ∈ told, x.Ok p.cells p.stays.length
  rd : ∀ x ∈ rds, LRd.Ok p.cells told.length x.2.1 x.2.2
  rn : rds.map (·.1) = rdN.take rds.length
  r3 : rds.length ≤ 3
theorem name_w {z : List Nat} (h : z ∈ inkN ∨ z ∈ rdN) : NameW z ∧ Wd z ∧ z.length ≤ 8 := by
  rw [inkN_e, rdN_e] at h
  simp only [List.mem_cons, List.not_mem_nil, or_false] at h
  rcases h with (h | h | h) | (h | h | h) <;> subst h
  all_goals refine ⟨⟨⟨_, _, rfl, by decide⟩, by decide⟩, ⟨2, by decide, by decide, by decide⟩, by decide⟩
theorem zip_names {st : List Nat} (h : st.length ≤ 3) : ((inkN.take st.length).zip st).map (·.1) = inkN.take st.length := by
  have e : (inkN.take st.length).length = st.length := by
    rw [List.length_take, inkN_e]; show min st.length 3 = _; omega
  rw [List.map_fst_zip (by rw [e]; exact Nat.le_refl _)]
theorem zip_stays {st : List Nat} (h : st.length ≤ 3) : ((inkN.take st.length).zip st).map (·.2) = st := by
  have e : (inkN.take st.length).length = st.length := by
    rw [List.length_take, inkN_e]; show min st.length 3 = _; omega
  rw [List.map_snd_zip (by rw [e]; exact Nat.le_refl _)]
theorem ink_idx {n i : Nat} (hn : n ≤ 3) (hi : i < n) : (inkN.take n).idxOf (inkN.getD i []) = i ∧ inkN.getD i [] ∈ inkN.take n ∧ inkN.getD i [] ∈ inkN := by
  rw [inkN_e]
  have : (n = 1 ∧ i = 0) ∨ (n = 2 ∧ i = 0) ∨ (n = 2 ∧ i = 1) ∨ (n = 3 ∧ i = 0) ∨ (n = 3 ∧ i = 1) ∨ (n = 3 ∧ i = 2) := by omega
  rcases this with ⟨rfl, rfl⟩ | ⟨rfl, rfl⟩ | ⟨rfl, rfl⟩ | ⟨rfl, rfl⟩ | ⟨rfl, rfl⟩ | ⟨rfl, rfl⟩ <;> decide
theorem tp_ok {p : LPl} (ok : p.Ok) {told : List LWr} (h : told.length ≤ 4) (h2 : ∀ x ∈ told, x.Ok p.cells p.stays.length) : (tp p told).Ok :=
  ⟨ok.c0, ok.c1, ok.n0, ok.n1, ok.st, h, h2⟩
theorem LG.names {p : LPl} {told : List LWr} {rds : RdL} {ss : List Stm} (g : LG p told rds ss) (ok : p.Ok) : (ss.foldl PSt.next S0).names = inkN.take p.stays.length := by
  rw [g.st]; exact zip_names ok.n1
theorem LG.pl {p : LPl} {told : List LWr} {rds : RdL} {ss : List Stm} (g : LG p told rds ss) (ok : p.Ok) : (ss.foldl PSt.next S0).pl p.cells = (tp p told).pl := by
  have e := g.names ok
  unfold PSt.pl
  rw [e, g.st]
  unfold LPl.pl tp
  have e2 : ((inkN.take p.stays.length).zip p.stays).map (fun x => ((x.2 : Nat) : Int)) = p.stays.map (fun x => ((x : Nat) : Int)) := by
    have := congrArg (List.map (fun x : Nat => ((x : Nat) : Int))) (zip_stays ok.n1)
    rw [List.map_map] at this
    exact this
  have e3 : (told.map pwr).map (PWr.wr (inkN.take p.stays.length)) = told.map LWr.wr := by
    rw [List.map_map]
    refine List.map_congr_left fun x hx => ?_
    show PWr.wr _ (pwr x) = x.wr
    unfold PWr.wr pwr LWr.wr
    rw [(ink_idx ok.n1 (g.tw x hx).ink).1]
  rw [e2, e3]
theorem LG.plok {p : LPl} {told : List LWr} {rds : RdL} {ss : List Stm} (g : LG p told rds ss) (ok : p.Ok) : ((ss.foldl PSt.next S0).pl p.cells).Ok := by
  rw [g.pl ok]; exact (tp_ok ok g.tn g.tw).pl
theorem sub_l {w : Nat} {l : List Nat} (h : l.length ≤ w) : l.length ≤ w := h
theorem LG.start {p : LPl} (ok : p.Ok) : LG p [] [] (((inkN.take p.stays.length).zip p.stays).map fun x => Stm.ink x.1 x.2) := by
  have st := ok.st
  have n0 := ok.n0
  have n1 := ok.n1
  have w := fun z (h : z ∈ inkN) => name_w (.inl h)
  have m1 : kw "RED" ∈ inkN := by simp [inkN]
  have m2 : kw "B" ∈ inkN := by simp [inkN]
  have m3 : kw "LONGEST" ∈ inkN := by simp [inkN]
  have d1 : kw "B" ∉ [kw "RED"] := by decide +kernel
  have d2 : kw "LONGEST" ∉ [kw "RED", kw "B"] := by decide +kernel
  have ln : ∀ z n, z ∈ inkN → (lineT (.ink z n)).length ≤ 170 := fun z n hz => by
    have := (w z hz).2.2
    simp only [lineT, k_ink, k_sp, List.length_append, List.length_singleton]
    have : (kw "ink").length = 3 := by decide +kernel
    omega
  obtain ⟨cells, stays, ws⟩ := p
  simp only at st n0 n1
  match stays, st, n0, n1 with
  | [a], st, _, _ =>
    have ha := st a (by simp)
    show LG _ [] [] [.ink (kw "RED") a]
    refine ⟨⟨⟨(w _ m1).1, by omega⟩, ⟨(by intro h; cases h), rfl, by omega, by omega, by decide⟩, trivial⟩, ⟨(fun z h => by cases h), trivial⟩, ?_, ?_, rfl, by decide, (fun x hx => by cases hx), (fun x hx => by cases hx), rfl, by decide⟩
    · intro s hs
      have : s = .ink (kw "RED") a := by simpa using hs
      subst this; exact ⟨⟨(w _ m1).1, by omega⟩, (w _ m1).2.1⟩
    · intro s hs
      have : s = .ink (kw "RED") a := by simpa using hs
      subst this; exact ln _ _ m1
  | [a, b], st, _, _ =>
    have ha := st a (by simp)
    have hb := st b (by simp)
    show LG _ [] [] [.ink (kw "RED") a, .ink (kw "B") b]
    refine ⟨⟨⟨(w _ m1).1, by omega⟩, ⟨(by intro h; cases h), rfl, by omega, by omega, by decide⟩, ⟨(w _ m2).1, by omega⟩, ⟨d1, rfl, by omega, by omega, by show 2 ≤ 4; decide⟩, trivial⟩, ⟨(fun z h => by cases h), (fun z h => by cases h), trivial⟩, ?_, ?_, rfl, by decide, (fun x hx => by cases hx), (fun x hx => by cases hx), rfl, by decide⟩
    · intro s hs
      have : s = .ink (kw "RED") a ∨ s = .ink (kw "B") b := by simpa using hs
      rcases this with rfl | rfl
      · exact ⟨⟨(w _ m1).1, by omega⟩, (w _ m1).2.1⟩
      · exact ⟨⟨(w _ m2).1, by omega⟩, (w _ m2).2.1⟩
    · intro s hs
      have : s = .ink (kw "RED") a ∨ s = .ink (kw "B") b := by simpa using hs
      rcases this with rfl | rfl
      · exact ln _ _ m1
      · exact ln _ _ m2
  | [a, b, c], st, _, _ =>
    have ha := st a (by simp)
    have hb := st b (by simp)
    have hc := st c (by simp)
    show LG _ [] [] [.ink (kw "RED") a, .ink (kw "B") b, .ink (kw "LONGEST") c]
    refine ⟨⟨⟨(w _ m1).1, by omega⟩, ⟨(by intro h; cases h), rfl, by omega, by omega, by decide⟩, ⟨(w _ m2).1, by omega⟩, ⟨d1, rfl, by omega, by omega, by show 2 ≤ 4; decide⟩, ⟨(w _ m3).1, by omega⟩, ⟨d2, rfl, by omega, by omega, by show 3 ≤ 4; decide⟩, trivial⟩, ⟨(fun z h => by cases h), (fun z h => by cases h), (fun z h => by cases h), trivial⟩, ?_, ?_, rfl, by decide, (fun x hx => by cases hx), (fun x hx => by cases hx), rfl, by decide⟩
    · intro s hs
      have : s = .ink (kw "RED") a ∨ s = .ink (kw "B") b ∨ s = .ink (kw "LONGEST") c := by simpa using hs
      rcases this with rfl | rfl | rfl
      · exact ⟨⟨(w _ m1).1, by omega⟩, (w _ m1).2.1⟩
      · exact ⟨⟨(w _ m2).1, by omega⟩, (w _ m2).2.1⟩
      · exact ⟨⟨(w _ m3).1, by omega⟩, (w _ m3).2.1⟩
    · intro s hs
      have : s = .ink (kw "RED") a ∨ s = .ink (kw "B") b ∨ s = .ink (kw "LONGEST") c := by simpa using hs
      rcases this with rfl | rfl | rfl
      · exact ln _ _ m1
      · exact ln _ _ m2
      · exact ln _ _ m3
theorem fold_snoc {ss : List Stm} {s : Stm} {S : PSt} : (ss ++ [s]).foldl PSt.next S = (ss.foldl PSt.next S).next s := by
  rw [List.foldl_append]; rfl
theorem all_snoc {α : Type} {Q : α → Prop} {l : List α} {x : α} (h : ∀ y ∈ l, Q y) (hx : Q x) : ∀ y ∈ l ++ [x], Q y := fun y hy => by
  rcases List.mem_append.mp hy with z | z
  · exact h y z
  · have : y = x := by simpa using z
    subst this; exact hx
theorem LRd.Ok.mono {cells n m : Nat} {st : Option Nat} {ks : List PLk} (h : LRd.Ok cells n st ks) (hm : n ≤ m) : LRd.Ok cells m st ks :=
  ⟨fun k e => by have := h.st k e; omega, h.n0, h.n1, h.ls⟩
theorem LG.write {p : LPl} {told : List LWr} {rds : RdL} {ss : List Stm} (g : LG p told rds ss) (ok : p.Ok) {x : LWr} (hx : x.Ok p.cells p.stays.length) (h4 : told.length < 4) :
    LG p (told ++ [x]) rds (ss ++ [.write x.cell x.c (inkN.getD x.ink []) x.lo x.hi]) := by
  obtain ⟨_, hm1, hm⟩ := ink_idx ok.n1 hx.ink
  have hw := name_w (.inl hm)
  have c1 := ok.c1
  have sm : (Stm.write x.cell x.c (inkN.getD x.ink []) x.lo x.hi).Sm := by
    have := hx.cell; have := hx.lo; have := hx.h1
    refine ⟨by omega, ?_, hw.1, by omega, by omega⟩
    have h0 := hx.c0; have h1 := hx.c1
    unfold cls
    rw [if_pos ⟨h0, by omega⟩]
  refine ⟨vprog_snoc g.v sm ?_, vrun_snoc g.r (fun z h => by cases h), all_snoc g.nm ⟨sm, hw.2.1⟩, all_snoc g.len ?_, ?_, by rw [List.length_append, List.length_singleton]; omega, all_snoc g.tw hx, fun y hy => by
    rw [List.length_append]; exact (g.rd y hy).mono (Nat.le_add_right _ _), g.rn, g.r3⟩
  · refine ⟨hx.cell, by rw [g.names ok]; exact hm1, hx.h0, by have := hx.h1; have := hx.lo; omega, ?_⟩
    rw [g.st]; show (told.map pwr).length + 1 ≤ 4; rw [List.length_map]; omega
  · have j := joinL_len (kw " ") [kw "write", numW x.cell, [x.c], inkN.getD x.ink [], restsT x.lo x.hi]
    have w1 : (kw " ").length = 1 := by decide +kernel
    have w2 : (kw "write").length = 5 := by decide +kernel
    have := hw.2.2
    simp only [List.map_cons, List.map_nil, List.sum_cons, List.sum_nil, List.length_cons, List.length_nil, w1, restsT_len, w2] at j
    show (joinL _ _).length ≤ 170
    omega
  · rw [fold_snoc, g.st]
    show (⟨_, told.map pwr ++ [pwr x], rds⟩ : PSt) = _
    rw [List.map_append]; rfl
theorem rd_fresh {rds : RdL} (hn : rds.map (·.1) = rdN.take rds.length) (h3 : rds.length < 3) : (rds.find? fun x => decide (x.1 = rdN.getD rds.length [])) = none ∧ rdN.getD rds.length [] ∈ rdN ∧ rdN.getD rds.length [] ∉ inkN ∧ (rds.map (·.1) ++ [rdN.getD rds.length []]) = rdN.take (rds.length + 1) := by
  have key : ∀ n, n < 3 → rdN.getD n [] ∉ rdN.take n ∧ rdN.getD n [] ∈ rdN ∧ rdN.getD n [] ∉ inkN ∧ rdN.take n ++ [rdN.getD n []] = rdN.take (n + 1) := by
    rw [rdN_e, inkN_e]
    intro n hn
    have : n = 0 ∨ n = 1 ∨ n = 2 := by omega
    rcases this with rfl | rfl | rfl <;> decide
  obtain ⟨k1, k2, k3, k4⟩ := key rds.length h3
  refine ⟨find_none' (by rw [hn]; exact k1), k2, k3, by rw [hn]; exact k4⟩
theorem LG.reader {p : LPl} {told : List LWr} {rds : RdL} {ss : List Stm} (g : LG p told rds ss) (ok : p.Ok) (h3 : rds.length < 3) {st : Option Nat} {k0 : PLk} {ks : List PLk} (hr : LRd.Ok p.cells told.length st (k0 :: ks)) :
    LG p told (rds ++ [(rdN.getD rds.length [], (st, k0 :: ks))]) (ss ++ [.reader (rdN.getD rds.length []) st k0 ks]) := by
  obtain ⟨f1, f2, f3, f4⟩ := rd_fresh g.rn h3
  have hw := name_w (.inr f2)
  have tn := g.tn
  have c1 := ok.c1
  have n1 := hr.n1
  simp only [List.length_cons] at n1
  have lk : ∀ k ∈ k0 :: ks, k.cell < p.cells ∧ k.low ≤ 4 ∧ k.low ≤ k.high ∧ k.high ≤ k.low + 1 := hr.ls
  have sm : (Stm.reader (rdN.getD rds.length []) st k0 ks).Sm := ⟨hw.1, fun n e => by have := hr.st n e; omega, fun k hk => by obtain ⟨a, b, c, d⟩ := lk k hk; exact ⟨by omega, by omega, by omega⟩, by omega⟩
  refine ⟨vprog_snoc g.v sm ?_, vrun_snoc g.r (fun z h => by cases h), all_snoc g.nm ⟨sm, hw.2.1⟩, all_snoc g.len ?_, ?_, g.tn, g.tw, all_snoc g.rd hr, ?_, by rw [List.length_append, List.length_singleton]; omega⟩
  · refine ⟨?_, ?_, fun n e => ?_, fun k hk => ?_, by omega, ?_⟩
    · rw [g.names ok]; exact fun h => f3 (List.mem_of_mem_take h)
    · rw [g.st]; show (rds.find? _).map _ = none; rw [f1]; rfl
    · rw [g.st]; show n < (told.map pwr).length; rw [List.length_map]; exact hr.st n e
    · obtain ⟨a, b, c, d⟩ := lk k hk; exact ⟨a, c, by omega⟩
    · rw [g.st]; show rds.length < 10; omega
  · have w8 : (kw "reader ").length = 7 := by decide +kernel
    have w9 : (kw ": ").length = 2 := by decide +kernel
    have w0 : (kw ", ").length = 2 := by decide +kernel
    have w1 : (kw " ").length = 1 := by decide +kernel
    have j := joinL_len (kw ", ") ((k0 :: ks).map lkT)
    have hsl := startT_len st
    have := hw.2.2
    rw [lks_len, List.length_map, w0, List.length_cons] at j
    simp only [lineT, List.length_append, w8, w9, w1]
    omega
  · rw [fold_snoc, g.st]; rfl
  · rw [List.map_append, List.length_append]; exact f4
/-- an ask of the law -/
def LAsk (z : List Nat) (L : Nat) : Stm → Prop
  | .reads y => y = z
  | .sure y c => y = z ∧ c.Ok L ∧ c.Sm ∧ c.ht ≤ 2 ∧ c.parts + 1 ≤ 8
  | .slack y m c => y = z ∧ m = 0 ∧ c.Ok L ∧ c.Sm ∧ c.ht ≤ 2 ∧ c.parts + 1 ≤ 8
  | _ => False
theorem clT_2 {c : Cl} (h : c.ht ≤ 2) (l : Nat) : (clT c l).length ≤ 144 := by
  have h1 := clT_len c l
  have h2 : 3 ^ c.ht ≤ 3 ^ 2 := Nat.pow_le_pow_right (by decide) h
  omega
theorem LG.rd_of {p : LPl} {told : List LWr} {rds : RdL} {ss : List Stm} (g : LG p told rds ss) {x : List Nat × (Option Nat × List PLk)} (hx : x ∈ rds) : (ss.foldl PSt.next S0).rd x.1 = some x.2 := by
  rw [g.st]
  show (rds.find? _).map _ = _
  have nd : (rds.map (·.1)).Nodup := by
    rw [g.rn]
    have : rdN.Nodup := by rw [rdN_e]; decide
    exact this.sublist (List.take_sublist _ _)
  rw [find_nodup nd hx]
  rfl
theorem LG.ask {p : LPl} {told : List LWr} {rds : RdL} {ss : List Stm} (g : LG p told rds ss) (ok : p.Ok) {x : List Nat × (Option Nat × List PLk)} (hx : x ∈ rds) {s : Stm} (hs : LAsk x.1 x.2.2.length s) :
    LG p told rds (ss ++ [s]) ∧ asksOf p.cells S0 (ss ++ [s]) = asksOf p.cells S0 ss ++ [((tp p told).pl, rdOf x.2, s)] := by
  have hrd := g.rd_of hx
  have hz : x.1 ∈ rdN := by
    have : x.1 ∈ rds.map (·.1) := List.mem_map.mpr ⟨x, hx, rfl⟩
    rw [g.rn] at this
    exact List.mem_of_mem_take this
  have hw := name_w (.inr hz)
  have w1 : (kw " ").length = 1 := by decide +kernel
  have w3 : (kw "ask").length = 3 := by decide +kernel
  have w4 : (kw "reads").length = 5 := by decide +kernel
  have w5 : (kw "sure").length = 4 := by decide +kernel
  have w6 : (kw "slack").length = 5 := by decide +kernel
  have hrun : ∃ d, (ss.foldl PSt.next S0).rd x.1 = some d ∧ (ss.foldl PSt.next S0).inks ≠ [] ∧ ((ss.foldl PSt.next S0).pl p.cells).Ok ∧ (rdOf d).Ok ((ss.foldl PSt.next S0).pl p.cells) := by
    refine ⟨x.2, hrd, ?_, g.plok ok, ?_⟩
    · rw [g.st]
      intro e
      have e2 := congrArg List.length (zip_stays ok.n1)
      have e : (inkN.take p.stays.length).zip p.stays = [] := e
      rw [e] at e2
      have := ok.n0
      have : (0 : Nat) = p.stays.length := e2
      omega
    · rw [g.pl ok]
      exact LRd.Ok.rdr (p := tp p told) (g.rd x hx)
  have key : s.Sm ∧ VStm p.cells (ss.foldl PSt.next S0) s ∧ s.isAsk = some x.1 ∧ Wd s.nm ∧ (lineT s).length ≤ 170 ∧ (ss.foldl PSt.next S0).next s = ss.foldl PSt.next S0 := by
    cases s with
    | reads y =>
      obtain rfl : y = x.1 := hs
      refine ⟨hw.1, ⟨_, hrd⟩, rfl, hw.2.1, ?_, rfl⟩
      have j := joinL_len (kw " ") [kw "ask", kw "reads", x.1]
      have := hw.2.2
      simp only [List.map_cons, List.map_nil, List.sum_cons, List.sum_nil, List.length_cons, List.length_nil, w1, w3, w4] at j
      show (joinL _ _).length ≤ 170
      omega
    | sure y c =>
      obtain ⟨rfl, h1, h2, h3, h4⟩ := hs
      refine ⟨⟨hw.1, h2, by omega⟩, ⟨_, hrd, h1, by omega, by omega⟩, rfl, hw.2.1, ?_, rfl⟩
      have j := joinL_len (kw " ") [kw "ask", kw "sure", x.1, clT c 1]
      have := hw.2.2
      have := clT_2 h3 1
      simp only [List.map_cons, List.map_nil, List.sum_cons, List.sum_nil, List.length_cons, List.length_nil, w1, w3, w5] at j
      show (joinL _ _).length ≤ 170
      omega
    | slack y m c =>
      obtain ⟨rfl, rfl, h1, h2, h3, h4⟩ := hs
      refine ⟨⟨hw.1, by omega, h2, by omega⟩, ⟨_, hrd, h1, by omega, by omega, rfl⟩, rfl, hw.2.1, ?_, rfl⟩
      have j := joinL_len (kw " ") [kw "ask", kw "slack", x.1, numW 0, clT c 1]
      have := hw.2.2
      have := clT_2 h3 1
      have e1 : (numW 0).length = 1 := rfl
      simp only [List.map_cons, List.map_nil, List.sum_cons, List.sum_nil, List.length_cons, List.length_nil, w1, w3, w6, e1] at j
      show (joinL _ _).length ≤ 170
      omega
    | ink _ _ => exact hs.elim
    | write _ _ _ _ _ => exact hs.elim
    | reader _ _ _ _ => exact hs.elim
  obtain ⟨k1, k2, k3, k4, k5, k6⟩ := key
  refine ⟨⟨vprog_snoc g.v k1 k2, vrun_snoc g.r (fun z h => ?_), all_snoc g.nm ⟨k1, k4⟩, all_snoc g.len k5, ?_, g.tn, g.tw, g.rd, g.rn, g.r3⟩, ?_⟩
  · rw [k3] at h; cases h; exact hrun
  · rw [fold_snoc, k6, g.st]
  · rw [asks_snoc]
    unfold askOf
    rw [k3]
    simp only
    rw [hrd]
    simp only
    rw [g.pl ok]
theorem nar_of {p : LPl} (ok : p.Ok) {x : Option Nat × List PLk} (h : LRd.Ok p.cells p.ws.length x.1 x.2) : Nar p.pl (rdOf x) := by
  refine ⟨fun y hy => ?_, fun k hk => ?_⟩
  · obtain ⟨u, hu, rfl⟩ := List.mem_map.mp hy
    have := (ok.ws u hu).h1
    show ((u.hi : Nat) : Int) ≤ (u.lo : Nat) + 1
    omega
  · obtain ⟨u, hu, rfl⟩ := List.mem_map.mp hk
    obtain ⟨_, _, _, d⟩ := h.ls u hu
    show ((u.high : Nat) : Int) ≤ (u.low : Nat) + 1
    omega
theorem asks_write {cells : Nat} {ss : List Stm} {s : Stm} (h : s.isAsk = none) : asksOf cells S0 (ss ++ [s]) = asksOf cells S0 ss := by
  rw [asks_snoc]
  unfold askOf
  rw [h]
  simp
theorem whole_len {cells : Nat} {ss : List Stm} (h : ∀ s ∈ ss, (lineT s).length ≤ 170) (hn : ss.length ≤ 11) : (wholeT cells ss).length ≤ 2000 := by
  have j := joinL_len (kw "\n") ((kw "cells " ++ numW cells ++ kw ";") :: ss.map stT)
  have e1 : (kw "cells " ++ numW cells ++ kw ";").length = 8 := by
    rw [List.length_append, List.length_append]
    have : (kw "cells ").length = 6 := by decide +kernel
    have : (kw ";").length = 1 := by decide +kernel
    have : (numW cells).length = 1 := rfl
    omega
  have e2 : (kw "\n").length = 1 := by decide +kernel
  have e3 : ∀ ss : List Stm, (∀ s ∈ ss, (lineT s).length ≤ 170) → ((ss.map stT).map (·.length)).sum ≤ ss.length * 171 := by
    intro ss
    induction ss with
    | nil => intro _; exact Nat.le_refl _
    | cons s ss ih =>
      intro h
      have := ih fun t ht => h t (List.mem_cons_of_mem _ ht)
      have h1 := h s List.mem_cons_self
      have : (stT s).length ≤ 171 := by
        show (lineT s ++ kw ";").length ≤ 171
        rw [List.length_append]
        have : (kw ";").length = 1 := by decide +kernel
        omega
      rw [List.map_cons, List.map_cons, List.sum_cons, List.length_cons, Nat.add_mul]
      omega
  have h3 := e3 ss h
  rw [List.map_cons, List.sum_cons, e1, List.length_cons, List.length_map, e2] at j
  unfold wholeT
  omega
/-- the law's own answer and the program's: alike -/
theorem paired_refl {α : Type} {R : α → α → Prop} : ∀ {l : List α}, (∀ x ∈ l, R x x) → Paired R l l
  | [], _ => .nil
  | x :: l, h => .cons (h x List.mem_cons_self) (paired_refl fun y hy => h y (List.mem_cons_of_mem _ hy))
theorem alk_ans {K : PySem.W.Frag} {H : Hp} {x y : V} {a : Ask} (ok : a.1.Ok) (ro : a.2.1.Ok a.1) (h1 : IsAns K H x a) (h2 : IsAns K H y a) : Alk K H 2 x y := by
  obtain ⟨p, r, s⟩ := a
  cases s with
  | reads z =>
    obtain ⟨a, ys, zs, rfl, q1, p1, s1, n1, r1⟩ := h1
    obtain ⟨b, ys2, zs2, rfl, q2, p2, s2, n2, r2⟩ := h2
    have e : ys = ys2 := sorted_same p1 p2 s1 s2 n1 n2 fun z => by rw [r1, r2]
    subst e
    have hl := few ok ro n1 fun z hz => (r1 z).mp hz
    refine .inr ⟨a, b, _, _, rfl, rfl, q1, q2, ?_, paired_refl fun v hv => ?_⟩
    · rw [List.length_map, p1.length_eq, List.length_map]; omega
    · obtain ⟨t, _, rfl⟩ := List.mem_map.mp hv
      exact .inl ⟨trivial, rfl⟩
  | sure z c =>
    obtain ⟨b, rfl, h1⟩ := h1
    obtain ⟨b2, rfl, h2⟩ := h2
    have e : b = b2 := by
      have := h1.trans h2.symm
      cases b <;> cases b2 <;> simp_all
    subst e
    exact .inl ⟨trivial, rfl⟩
  | slack z m c =>
    rcases h1 with ⟨rfl, h1⟩ | ⟨rfl, t, h1, f1⟩
    · rcases h2 with ⟨rfl, h2⟩ | ⟨rfl, t, h2, f2⟩
      · exact .inl ⟨trivial, rfl⟩
      · rw [h1 t h2] at f2; cases f2
    · rcases h2 with ⟨rfl, h2⟩ | ⟨rfl, t, h2, f2⟩
      · rw [h2 t h1] at f1; cases f1
      · exact .inl ⟨trivial, rfl⟩
  | ink _ _ => exact h1.elim
  | write _ _ _ _ _ => exact h1.elim
  | reader _ _ _ _ => exact h1.elim
theorem asks_ok {cells : Nat} : ∀ {ss : List Stm} {S : PSt}, VRun cells S ss → ∀ a ∈ asksOf cells S ss, a.1.Ok ∧ a.2.1.Ok a.1
  | [], S, _, a, h => by cases h
  | s :: ss, S, h, a, ha => by
    rcases List.mem_append.mp ha with z | z
    · unfold askOf at z
      cases e : s.isAsk with
      | none => rw [e] at z; cases z
      | some y =>
        obtain ⟨d, hd, _, o1, o2⟩ := h.1 y e
        rw [e] at z
        simp only at z
        rw [hd] at z
        have : a = (S.pl cells, rdOf d, s) := by simpa using z
        subst this
        exact ⟨o1, o2⟩
    · exact asks_ok h.2 a z
theorem paired_alk {K : PySem.W.Frag} {H : Hp} : ∀ {l : List Ask} {xs ys : List V}, (∀ a ∈ l, a.1.Ok ∧ a.2.1.Ok a.1) → Paired (fun v x => IsAns K H v x) xs l → Paired (fun v x => IsAns K H v x) ys l → Paired (Alk K H 2) xs ys
  | [], _, _, _, .nil, .nil => .nil
  | a :: l, _, _, h, .cons h1 t1, .cons h2 t2 => .cons (alk_ans (h a List.mem_cons_self).1 (h a List.mem_cons_self).2 h1 h2) (paired_alk (fun b hb => h b (List.mem_cons_of_mem _ hb)) t1 t2)
end Ink
set_option Elab.async false
set_option linter.all false
set_option pp.maxSteps 150
set_option maxRecDepth 100000
set_option maxHeartbeats 4000000
namespace Ink
open PySem PySem.Spec PyProof.Rows L2 StX
structure LN where
  ra : Addr
  nl : Addr
  rl : Addr
  rd : Addr
  dl : Addr
  ll : Addr
  sb : Addr
def strsV (l : List (List Nat)) : List V := l.map fun x => V.str (strL x)
structure LH (K : PySem.W.Frag) (H : Hp) (N : LN) (p : LPl) (rest : List LWr) (rds : RdL) (rows : List (List Nat)) (as : List Ask) : Prop where
  row : RowAt K H N.ra
  nl : H N.nl = some (.lst (strsV (inkN.take p.stays.length)))
  st : SqT K H N.sb (p.stays.map fun x => V.int (x : Nat))
  rl : H N.rl = some (.lst (strsV rows))
  rd : ∃ kvs : List (Key × V), H N.rd = some (.dK kvs) ∧ Paired (fun kv x => kv.1 = Sum.inr (strL x.1) ∧ IsRdr K H kv.2 (rdOf x.2)) kvs rds
  dl : ∃ us, H N.dl = some (.lst us) ∧ Paired (IsAns K H) us as
  ll : ∃ vs, H N.ll = some (.lst vs) ∧ Paired (IsWr K H) vs (rest.map LWr.wr)
  nd : N.ra ≠ N.nl ∧ N.ra ≠ N.rl ∧ N.ra ≠ N.rd ∧ N.ra ≠ N.dl ∧ N.ra ≠ N.ll ∧ N.nl ≠ N.rl ∧ N.nl ≠ N.rd ∧ N.nl ≠ N.dl ∧ N.nl ≠ N.ll ∧ N.rl ≠ N.rd ∧ N.rl ≠ N.dl ∧ N.rl ≠ N.ll ∧ N.rd ≠ N.dl ∧ N.rd ≠ N.ll ∧ N.dl ≠ N.ll
section
variable {K : PySem.W.Frag} {H H' : Hp} {N : LN} {p : LPl} {rest : List LWr} {rds : RdL} {rows : List (List Nat)} {as : List Ask}
theorem LH.kp (h : LH K H N p rest rds rows as) (k : Kp [N.ra] H H') (hR : RowAt K H' N.ra) : LH K H' N p rest rds rows as := by
  obtain ⟨kvs, r1, r2⟩ := h.rd
  obtain ⟨us, d1, d2⟩ := h.dl
  obtain ⟨vs, l1, l2⟩ := h.ll
  obtain ⟨a1, a2, a3, a4, a5, _⟩ := h.nd
  exact ⟨hR, k.keep _ _ h.nl (by simp [a1.symm]), kpT h.st k, k.keep _ _ h.rl (by simp [a2.symm]), ⟨kvs, k.keep _ _ r1 (by simp [a3.symm]), pkp r2 fun _ _ z => ⟨z.1, z.2.kp k⟩⟩,
    ⟨us, k.keep _ _ d1 (by simp [a4.symm]), pkp d2 fun _ _ z => z.kp k⟩, ⟨vs, k.keep _ _ l1 (by simp [a5.symm]), pkp l2 fun _ _ z => z.kp k⟩, h.nd⟩
theorem LH.kp0 (h : LH K H N p rest rds rows as) (k : Kp [] H H') : LH K H' N p rest rds rows as := h.kp k.mono0 (h.row.kp k (by simp))
theorem LH.addRow (h : LH K H N p rest rds rows as) {x : List Nat} : LH K (upd H N.rl (.lst (strsV rows ++ [.str (strL x)]))) N p rest rds (rows ++ [x]) as ∧ Kp [N.rl] H (upd H N.rl (.lst (strsV rows ++ [.str (strL x)]))) := by
  have k : Kp [N.rl] H (upd H N.rl (.lst (strsV rows ++ [.str (strL x)]))) := .put (by simp) h.rl rfl
  obtain ⟨kvs, r1, r2⟩ := h.rd
  obtain ⟨us, d1, d2⟩ := h.dl
  obtain ⟨vs, l1, l2⟩ := h.ll
  obtain ⟨a1, a2, a3, a4, a5, a6, a7, a8, a9, b1, b2, b3, b4, b5, b6⟩ := h.nd
  refine ⟨⟨h.row.kp k (by simp [a2]), k.keep _ _ h.nl (by simp [a6]), kpT h.st k, ?_, ⟨kvs, k.keep _ _ r1 (by simp [b1.symm]), pkp r2 fun _ _ z => ⟨z.1, z.2.kp k⟩⟩,
    ⟨us, k.keep _ _ d1 (by simp [b2.symm]), pkp d2 fun _ _ z => z.kp k⟩, ⟨vs, k.keep _ _ l1 (by simp [b3.symm]), pkp l2 fun _ _ z => z.kp k⟩, h.nd⟩, k⟩
  rw [upd_same]
  unfold strsV
  rw [List.map_append]
  rfl
theorem LH.addDue (h : LH K H N p rest rds rows as) {us : List V} {u : V} {a : Ask} (hd : H N.dl = some (.lst us)) (hu : IsAns K H u a) :
    LH K (upd H N.dl (.lst (us ++ [u]))) N p rest rds rows (as ++ [a]) ∧ Kp [N.dl] H (upd H N.dl (.lst (us ++ [u]))) := by
  have k : Kp [N.dl] H (upd H N.dl (.lst (us ++ [u]))) := .put (by simp) hd rfl
  obtain ⟨kvs, r1, r2⟩ := h.rd
  obtain ⟨us', d1, d2⟩ := h.dl
  rw [hd] at d1
  cases d1
  obtain ⟨vs, l1, l2⟩ := h.ll
  obtain ⟨a1, a2, a3, a4, a5, a6, a7, a8, a9, b1, b2, b3, b4, b5, b6⟩ := h.nd
  exact ⟨⟨h.row.kp k (by simp [a4]), k.keep _ _ h.nl (by simp [a8]), kpT h.st k, k.keep _ _ h.rl (by simp [b2]), ⟨kvs, k.keep _ _ r1 (by simp [b4]), pkp r2 fun _ _ z => ⟨z.1, z.2.kp k⟩⟩,
    ⟨_, upd_same, paired_snoc (pkp d2 fun _ _ z => z.kp k) (hu.kp k)⟩, ⟨vs, k.keep _ _ l1 (by simp [b6.symm]), pkp l2 fun _ _ z => z.kp k⟩, h.nd⟩, k⟩
theorem LH.pop {x : LWr} (h : LH K H N p (x :: rest) rds rows as) {v : V} {vs : List V} (hl : H N.ll = some (.lst (v :: vs))) :
    LH K (upd H N.ll (.lst vs)) N p rest rds rows as ∧ Kp [N.ll] H (upd H N.ll (.lst vs)) ∧ IsWr K H v x.wr := by
  have k : Kp [N.ll] H (upd H N.ll (.lst vs)) := .put (by simp) hl rfl
  obtain ⟨kvs, r1, r2⟩ := h.rd
  obtain ⟨us, d1, d2⟩ := h.dl
  obtain ⟨vs', l1, l2⟩ := h.ll
  rw [hl] at l1
  cases l1
  cases l2 with
  | cons h1 t =>
    obtain ⟨a1, a2, a3, a4, a5, a6, a7, a8, a9, b1, b2, b3, b4, b5, b6⟩ := h.nd
    exact ⟨⟨h.row.kp k (by simp [a5]), k.keep _ _ h.nl (by simp [a9]), kpT h.st k, k.keep _ _ h.rl (by simp [b3]), ⟨kvs, k.keep _ _ r1 (by simp [b5]), pkp r2 fun _ _ z => ⟨z.1, z.2.kp k⟩⟩,
      ⟨us, k.keep _ _ d1 (by simp [b6]), pkp d2 fun _ _ z => z.kp k⟩, ⟨_, upd_same, pkp t fun _ _ z => z.kp k⟩, h.nd⟩, k, h1⟩
theorem LH.addRd (h : LH K H N p rest rds rows as) {kvs : List (Key × V)} {z : List Nat} {u : V} {d : Option Nat × List PLk} (hd : H N.rd = some (.dK kvs)) (hu : IsRdr K H u (rdOf d)) (hn : valV kvs (.inr (strL z)) = none) :
    LH K (upd H N.rd (.dK (putK kvs (.inr (strL z)) u))) N p rest (rds ++ [(z, d)]) rows as ∧ Kp [N.rd] H (upd H N.rd (.dK (putK kvs (.inr (strL z)) u))) := by
  have k : Kp [N.rd] H (upd H N.rd (.dK (putK kvs (.inr (strL z)) u))) := .put (by simp) hd rfl
  obtain ⟨kvs', r1, r2⟩ := h.rd
  rw [hd] at r1
  cases r1
  obtain ⟨us, d1, d2⟩ := h.dl
  obtain ⟨vs, l1, l2⟩ := h.ll
  obtain ⟨a1, a2, a3, a4, a5, a6, a7, a8, a9, b1, b2, b3, b4, b5, b6⟩ := h.nd
  refine ⟨⟨h.row.kp k (by simp [a3]), k.keep _ _ h.nl (by simp [a7]), kpT h.st k, k.keep _ _ h.rl (by simp [b1]), ⟨_, upd_same, ?_⟩,
    ⟨us, k.keep _ _ d1 (by simp [b4.symm]), pkp d2 fun _ _ z => z.kp k⟩, ⟨vs, k.keep _ _ l1 (by simp [b5.symm]), pkp l2 fun _ _ z => z.kp k⟩, h.nd⟩, k⟩
  have e : putK kvs (.inr (strL z)) u = kvs ++ [(.inr (strL z), u)] := putK_new _ hn
  rw [e] at k ⊢
  exact paired_snoc (pkp r2 fun _ _ z => ⟨z.1, z.2.kp k⟩) ⟨rfl, hu.kp k⟩
end
/-! writes as data -/
def wrD (x : LWr) : PyData := .tuple [.int (x.cell : Nat), .str (sg x.c), .int (x.ink : Nat), .int (x.lo : Nat), .int (x.hi : Nat)]
theorem dp_wrs {K : PySem.W.Frag} {H : Hp} : ∀ {rest : List LWr} {vs : List V}, Paired (IsWr K H) vs (rest.map LWr.wr) → DpAll K H vs (rest.map wrD)
  | [], _, .nil => .nil
  | x :: rest, _, .cons ⟨a, e, s⟩ t => by
    subst e
    exact .cons (.tup s (.cons (.int _) (.cons (.str _) (.cons (.int _) (.cons (.int _) (.cons (.int _) .nil)))))) (dp_wrs t)
theorem lay_wrs {c n : Nat} : ∀ {rest : List LWr}, (∀ x ∈ rest, x.Ok c n) → PyData.canLayAll0 (rest.map wrD) = true ∧ PyData.depthAll (rest.map wrD) ≤ 1
  | [], _ => ⟨rfl, Nat.zero_le _⟩
  | x :: rest, h => by
    obtain ⟨h1, h2⟩ := lay_wrs fun y hy => h y (List.mem_cons_of_mem _ hy)
    have hx := h x List.mem_cons_self
    have hc := hx.c1
    have e : PyData.strOk (sg x.c) = true := strOk_sg (by omega)
    refine ⟨?_, ?_⟩
    · show ((true && (PyData.strOk (sg x.c) && (true && (true && (true && true))))) && PyData.canLayAll0 (rest.map wrD)) = true
      rw [h1, e]; rfl
    · show max 1 (PyData.depthAll (rest.map wrD)) ≤ 1
      omega
theorem shaped_wrs {c n : Nat} {rest : List LWr} (h : ∀ x ∈ rest, x.Ok c n) : SeqAt.shaped (.list (rest.map wrD)) = true := by
  obtain ⟨h1, h2⟩ := lay_wrs h
  have e1 : (PyData.list (rest.map wrD)).canLay0 = true := h1
  have e2 : (PyData.list (rest.map wrD)).depth ≤ 64 := by show PyData.depthAll _ + 1 ≤ 64; omega
  unfold SeqAt.shaped
  rw [e1, decide_eq_true e2]
  rfl
end Ink
set_option Elab.async false
set_option linter.all false
set_option pp.maxSteps 150
set_option maxRecDepth 100000
set_option maxHeartbeats 4000000
namespace Ink
open PySem PySem.Spec PyProof.Rows L2 StX
/-! ### an ask's row -/
def askT : Stm → List Nat
  | .reads z => kw "reads " ++ z
  | .sure z c => kw "sure " ++ z ++ kw " " ++ clT c 1
  | .slack z _ c => kw "slack " ++ z ++ kw " 0 " ++ clT c 1
  | _ => []
def askWd : Stm → Str
  | .reads _ => "reads"
  | .sure _ _ => "sure"
  | _ => "slack"
def AskIs (z : List Nat) (c : Cl) (st : Stm) : Prop := st = .reads z ∨ st = .sure z c ∨ st = .slack z 0 c
theorem AskIs.lask {z : List Nat} {c : Cl} {st : Stm} {L : Nat} (h : AskIs z c st) (ok : c.Ok L) (sm : c.Sm) (ht : c.ht ≤ 2) (pt : c.parts + 1 ≤ 8) : LAsk z L st := by
  rcases h with rfl | rfl | rfl
  · rfl
  · exact ⟨rfl, ok, sm, ht, pt⟩
  · exact ⟨rfl, rfl, ok, sm, ht, pt⟩
theorem k_ask : kw "ask " = kw "ask" ++ [32] := by decide +kernel
theorem k_reads2 : kw "reads " = kw "reads" ++ [32] := by decide +kernel
theorem k_sure2 : kw "sure " = kw "sure" ++ [32] := by decide +kernel
theorem k_slack2 : kw "slack " = kw "slack" ++ [32] := by decide +kernel
theorem k_zero : kw " 0 " = 32 :: (numW 0 ++ [32]) := by decide +kernel
theorem ask_line {z : List Nat} {c : Cl} {st : Stm} (h : AskIs z c st) : ("ask " : Str) ++ strL (askT st) = strL (lineT st) := by
  show strL (kw "ask ") ++ strL (askT st) = _
  rw [strL_app]
  rcases h with rfl | rfl | rfl
  · simp only [askT, lineT, joinL, k_ask, k_reads2, k_sp, List.append_assoc, List.cons_append, List.nil_append]
  · simp only [askT, lineT, joinL, k_ask, k_sure2, k_sp, List.append_assoc, List.cons_append, List.nil_append]
  · simp only [askT, lineT, joinL, k_ask, k_slack2, k_sp, k_zero, List.append_assoc, List.cons_append, List.nil_append]
theorem ask_split {z : List Nat} {c : Cl} {st : Stm} (h : AskIs z c st) : (Txt.split (strL (lineT st)) " ")[1]? = some (askWd st) := by
  have e : ∀ l : List Nat, Txt.split (strL l) " " = (TL.spl [32] 0 [] l).map strL := fun l => SX.split_S (a := l) (b := [32]) (by decide) (by decide)
  have ea : kw "ask" = [97, 115, 107] := by decide +kernel
  have e1 : kw "reads" = [114, 101, 97, 100, 115] := by decide +kernel
  have e2 : kw "sure" = [115, 117, 114, 101] := by decide +kernel
  have e3 : kw "slack" = [115, 108, 97, 99, 107] := by decide +kernel
  rw [e, List.getElem?_map]
  rcases h with rfl | rfl | rfl
  · have : lineT (.reads z) = 97 :: 115 :: 107 :: 32 :: 114 :: 101 :: 97 :: 100 :: 115 :: 32 :: z := by
      simp only [lineT, joinL, ea, e1, k_sp, List.append_assoc, List.cons_append, List.nil_append]
    rw [this]
    have : (TL.spl [32] 0 [] (97 :: 115 :: 107 :: 32 :: 114 :: 101 :: 97 :: 100 :: 115 :: 32 :: z))[1]? = some [114, 101, 97, 100, 115] := rfl
    rw [this]
    show some (strL [114, 101, 97, 100, 115]) = some ("reads" : Str)
    decide +kernel
  · have : lineT (.sure z c) = 97 :: 115 :: 107 :: 32 :: 115 :: 117 :: 114 :: 101 :: 32 :: (z ++ (32 :: clT c 1)) := by
      simp only [lineT, joinL, ea, e2, k_sp, List.append_assoc, List.cons_append, List.nil_append]
    rw [this]
    have : (TL.spl [32] 0 [] (97 :: 115 :: 107 :: 32 :: 115 :: 117 :: 114 :: 101 :: 32 :: (z ++ (32 :: clT c 1))))[1]? = some [115, 117, 114, 101] := rfl
    rw [this]
    show some (strL [115, 117, 114, 101]) = some ("sure" : Str)
    decide +kernel
  · have : lineT (.slack z 0 c) = 97 :: 115 :: 107 :: 32 :: 115 :: 108 :: 97 :: 99 :: 107 :: 32 :: (z ++ (32 :: (numW 0 ++ (32 :: clT c 1)))) := by
      simp only [lineT, joinL, ea, e3, k_sp, List.append_assoc, List.cons_append, List.nil_append]
    rw [this]
    have : (TL.spl [32] 0 [] (97 :: 115 :: 107 :: 32 :: 115 :: 108 :: 97 :: 99 :: 107 :: 32 :: (z ++ (32 :: (numW 0 ++ (32 :: clT c 1))))))[1]? = some [115, 108, 97, 99, 107] := rfl
    rw [this]
    show some (strL [115, 108, 97, 99, 107]) = some ("slack" : Str)
    decide +kernel
theorem askT_len {z : List Nat} {c : Cl} {st : Stm} (h : AskIs z c st) (hz : z.length ≤ 8) (hc : c.ht ≤ 2) : (askT st).length ≤ 170 := by
  have l := clT_2 hc 1
  have w1 : (kw "reads ").length = 6 := by decide +kernel
  have w2 : (kw "sure ").length = 5 := by decide +kernel
  have w3 : (kw "slack ").length = 6 := by decide +kernel
  have w4 : (kw " ").length = 1 := by decide +kernel
  have w5 : (kw " 0 ").length = 3 := by decide +kernel
  rcases h with rfl | rfl | rfl
  · simp only [askT, List.length_append, w1]; omega
  · simp only [askT, List.length_append, w2, w4]; omega
  · simp only [askT, List.length_append, w3, w5]; omega
/-- what the law holds due for an ask -/
theorem due_ans {K : PySem.W.Frag} {H : Hp} {z : List Nat} {c : Cl} {p : Pl} {r : Rdr} {b : Bool} (hb : b = true ↔ ∀ y, Rds p r y → clSo y c = true) : IsAns K H (.bl b) (p, r, .sure z c) ∧ (b = true → IsAns K H (.int 0) (p, r, .slack z 0 c)) ∧ (b = false → IsAns K H .non (p, r, .slack z 0 c)) := by
  refine ⟨⟨b, rfl, hb⟩, fun e => .inl ⟨rfl, hb.mp e⟩, fun e => .inr ⟨rfl, ?_⟩⟩
  have h : ¬ ∀ y, Rds p r y → clSo y c = true := fun h => by rw [hb.mpr h] at e; cases e
  obtain ⟨y, hy⟩ := Classical.not_forall.mp h
  obtain ⟨h1, h2⟩ := Classical.not_imp.mp hy
  exact ⟨y, h1, by cases q : clSo y c with
    | false => rfl
    | true => exact absurd q h2⟩
end Ink
set_option Elab.async false
set_option linter.all false
set_option pp.maxSteps 150
set_option maxRecDepth 100000
set_option maxHeartbeats 4000000
namespace Ink
open PySem PySem.Spec PyProof.Rows L2 StX
section
variable {P : Program} {w : World} {K : PySem.W.Frag} {mg : Str → Option Value} {base : Heap}

theorem cut_take (xs : List V) (k : Nat) : cutV xs none (some (k : Int)) = xs.take k := by
  unfold cutV
  rw [HT.sIx_none, HT.sIx_nat, List.drop_zero, Nat.sub_zero, ← List.take_eq_take_min]
theorem asks_inks {cells : Nat} : ∀ (l : List (List Nat × Nat)) (S : PSt), asksOf cells S (l.map fun x => Stm.ink x.1 x.2) = []
  | [], _ => rfl
  | x :: l, S => asks_inks l (S.next (.ink x.1 x.2))
theorem strs_take (l : List (List Nat)) (n : Nat) : strsV (l.take n) = (strsV l).take n := List.map_take
theorem rows_sum : ∀ {ss : List Stm}, (∀ s ∈ ss, (lineT s).length ≤ 170) → ((ss.map stT).map (·.length)).sum ≤ ss.length * 171
  | [], _ => Nat.le_refl _
  | s :: ss, h => by
    have := rows_sum (ss := ss) fun t ht => h t (List.mem_cons_of_mem _ ht)
    have h1 := h s List.mem_cons_self
    have : (stT s).length ≤ 171 := by
      show (lineT s ++ kw ";").length ≤ 171
      rw [List.length_append]
      have : (kw ";").length = 1 := by decide +kernel
      omega
    rw [List.map_cons, List.map_cons, List.sum_cons, List.length_cons, Nat.add_mul]
    omega
theorem asks_len {cells : Nat} : ∀ {ss : List Stm} {S : PSt}, (asksOf cells S ss).length ≤ ss.length
  | [], _ => Nat.le_refl _
  | s :: ss, S => by
    have ih := asks_len (cells := cells) (ss := ss) (S := S.next s)
    have h1 : (askOf cells S s).length ≤ 1 := by
      unfold askOf
      cases s.isAsk with
      | none => exact Nat.zero_le _
      | some z =>
        simp only
        cases S.rd z with
        | none => exact Nat.zero_le _
        | some d => exact Nat.le_refl _
    show (askOf cells S s ++ asksOf cells (S.next s) ss).length ≤ _
    rw [List.length_append, List.length_cons]
    omega
theorem ink_at {n i : Nat} (hn : n ≤ 3) (hi : i < n) : (strsV (inkN.take n))[i]? = some (.str (strL (inkN.getD i []))) := by
  have h : (inkN.take n)[i]? = some (inkN.getD i []) := by
    rw [inkN_e]
    have : (n = 1 ∧ i = 0) ∨ (n = 2 ∧ i = 0) ∨ (n = 2 ∧ i = 1) ∨ (n = 3 ∧ i = 0) ∨ (n = 3 ∧ i = 1) ∨ (n = 3 ∧ i = 2) := by omega
    rcases this with ⟨rfl, rfl⟩ | ⟨rfl, rfl⟩ | ⟨rfl, rfl⟩ | ⟨rfl, rfl⟩ | ⟨rfl, rfl⟩ | ⟨rfl, rfl⟩ <;> rfl
  unfold strsV
  rw [List.getElem?_map, h]
  rfl
theorem line_write (x : LWr) (z : List Nat) : ("write " : Str) ++ strL (numW x.cell) ++ " " ++ sg x.c ++ " " ++ strL z ++ " " ++ strL (numW x.lo) ++ ".." ++ strL (numW x.hi) = strL (lineT (.write x.cell x.c z x.lo x.hi)) := by
  show strL (kw "write ") ++ strL (numW x.cell) ++ strL (kw " ") ++ strL [x.c] ++ strL (kw " ") ++ strL z ++ strL (kw " ") ++ strL (numW x.lo) ++ strL (kw "..") ++ strL (numW x.hi) = _
  simp only [strL_app, lineT, joinL, restsT, k_sp, k_write, k_dots, List.append_assoc, List.cons_append, List.nil_append]
theorem rdn_at {n : Nat} (h : n < 3) : ([.str "R", .str "QQ", .str "ABCDEFGH"] : List V)[n]? = some (.str (strL (rdN.getD n []))) := by
  have e : ([.str "R", .str "QQ", .str "ABCDEFGH"] : List V) = strsV rdN := by decide +kernel
  have h2 : rdN[n]? = some (rdN.getD n []) := by
    rw [rdN_e]
    have : n = 0 ∨ n = 1 ∨ n = 2 := by omega
    rcases this with rfl | rfl | rfl <;> rfl
  rw [e]
  unfold strsV
  rw [List.getElem?_map, h2]
  rfl
theorem line_reader (z : List Nat) (st : Option Nat) (k0 : PLk) (ks : List PLk) : ("reader " : Str) ++ strL z ++ " " ++ strL (startT st) ++ ": " ++ strL (joinL (kw ", ") ((k0 :: ks).map lkT)) = strL (lineT (.reader z st k0 ks)) := by
  show strL (kw "reader ") ++ strL z ++ strL (kw " ") ++ strL (startT st) ++ strL (kw ": ") ++ strL (joinL (kw ", ") ((k0 :: ks).map lkT)) = _
  simp only [strL_app, lineT]
theorem last_at (l : List V) (x : V) : atI (l ++ [x]) (-1) = some x := by
  have hl : (l ++ [x]).length = l.length + 1 := by rw [List.length_append, List.length_singleton]
  have h : ixN (l ++ [x]).length (-1) = some l.length := by
    rw [hl]
    unfold ixN
    rw [if_neg (by decide)]
    have e : ((-1 : Int) + ((l.length + 1 : Nat) : Int)) = (l.length : Nat) := by omega
    simp only [e]
    rw [if_pos (by omega)]
    rfl
  unfold atI
  rw [h]
  simp
abbrev sgL (sc a b c nl rl rd dl ll ra ta : Addr) (cells : Nat) (o8 o9 o14 o15 o16 o17 o18 o19 o20 o21 o22 o23 o24 o25 o26 o27 o28 o29 o30 o31 : Option V) : L2.St :=
  some (.ref sc) :: some (.ref ra) :: some (.ref a) :: some (.int (cells : Nat)) :: some (.ref b) :: some (.ref c) :: some (.ref nl) :: some (.ref rl) :: o8 :: o9 :: some (.ref ta) :: some (.ref rd) :: some (.ref dl) :: some (.ref ll) :: o14 :: o15 :: o16 :: o17 :: o18 :: o19 :: o20 :: o21 :: o22 :: o23 :: o24 :: o25 :: o26 :: o27 :: o28 :: o29 :: o30 :: o31 :: none :: none :: none :: []
def sp_law (K : PySem.W.Frag) : Sp := fun vs H Q _ => ∃ (sc : Addr) (ns : List Int), vs = [.ref sc] ∧ ScOk K H sc (ns.map V.int) ∧ ∀ H', Q (.bl true) H'
theorem sc_law : FnScope ("_law_script" :: "_law_row" :: "_law_plan_here" :: "_law_cells" :: "_law_stays" :: "_law_writes" :: "_law_names" :: "_law_rows" :: "_law_name" :: "_law_stay" :: "_law_told" :: "_law_readers" :: "_law_due" :: "_law_left" :: "_law_turn" :: "_law_way" :: "_law_now" :: "_law_cell" :: "_law_sign" :: "_law_ink" :: "_law_low" :: "_law_high" :: "_law_start" :: "_law_looks" :: "_law_head" :: "_law_parts" :: "_law_known" :: "_law_claim_here" :: "_law_text" :: "_law_is_sure" :: "_law_one" :: "_law_word" :: "_law_whole" :: "_law_line" :: "_law_loose_here" :: []) ["_law_script"] (defScope s_law) := ⟨rfl, rfl, rfl, by decide +kernel, rfl, by decide +kernel, by decide +kernel⟩
theorem ok_law (T : Txt w K mg) : FnOk P w K mg base CX0 30 (He.ga K "law") (fdA K (He.ga K "law")) ["_law_script"] (sp_law K) := by
  have G_law_taken := ok_law_taken (P := P) (base := base) T
  have G_law_pick := ok_law_pick (P := P) (base := base) T
  have G_law_plan := ok_law_plan (P := P) (base := base) T
  have G_law_reader := ok_law_reader (P := P) (base := base) T
  have G_law_readings := ok_law_readings (P := P) (base := base) T
  have G_law_claim := ok_law_claim (P := P) (base := base) T 2
  have G_law_so := ok_law_so (P := P) (base := base) T 4
  have G_law_claim_text := ok_law_claim_text (P := P) (base := base) T 4
  have G_law_loose := ok_law_loose (P := P) (base := base) T
  have G_printed := ok_printed (P := P) (base := base) T
  have G_check := ok_check (P := P) (base := base) T
  have G_run := ok_run (P := P) (base := base) T
  have G_law_alike := ok_law_alike (P := P) (base := base) T 3
  refine (d_law T).ok sc_law (fun vs H Q E h => ?_) (fun cdv A outer s H vs Q E hr h => ?_)
  · obtain ⟨_, _, rfl, _⟩ := h; rfl
  obtain ⟨sc, ns, rfl, hS, q⟩ := h
  refine ⟨_, (pss_cons (ps_set (i := 1) sc_law.nd rfl (Or.inl rfl) (pe_lst (pa_cons (pv 0) (pa_cons pe_int (pa_cons pe_int (pa_cons pe_int pa_nil))))))
      (pss_cons (ps_set (i := 2) sc_law.nd rfl (Or.inl rfl) (pcall (d_law_plan T) G_law_plan (hr.mono (by decide)) (pa_cons (pv 1) (pa_cons pe_int (pa_cons pe_int pa_nil)))))
      (pss_cons (ps_asg (pv 2) (pg_tup rfl (pgs_cons (pg_name (i := 3) sc_law.nd rfl (Or.inl rfl)) (pgs_cons (pg_name (i := 4) sc_law.nd rfl (Or.inl rfl)) (pgs_cons (pg_name (i := 5) sc_law.nd rfl (Or.inl rfl)) pgs_nil)))))
      (pss_cons (ps_set (i := 6) sc_law.nd rfl (Or.inl rfl) (pe_slice sl_list (pe_lst (pa_cons pe_str (pa_cons pe_str (pa_cons pe_str pa_nil)))) po_none (po_some (pe_callB call_len (by rfl) (f_len T) bb_len (pa_cons (pv 4) pa_nil)))))
      (pss_cons (ps_set (i := 7) sc_law.nd rfl (Or.inl rfl) (pe_op op_cat (pe_lst (pa_cons (pe_op op_add_str pe_str (pe_callTy call_str_int (by rfl) (f_str T) bb_str (pa_cons (pv 3) pa_nil))) pa_nil)) (pe_lc (g := gTup K 2 (gCons (gName 8) (gCons (gName 9) gNil))) (own := [("_law_name", 8), ("_law_stay", 9)]) rfl sc_law.nd (pi_zipLT (by rfl) (f_zip T) (pa_cons (pv 6) (pa_cons (pv 4) pa_nil))) (blkOk_by (own := [("_law_name", 8), ("_law_stay", 9)]) (N := ("_law_script" :: "_law_row" :: "_law_plan_here" :: "_law_cells" :: "_law_stays" :: "_law_writes" :: "_law_names" :: "_law_rows" :: "_law_name" :: "_law_stay" :: "_law_told" :: "_law_readers" :: "_law_due" :: "_law_left" :: "_law_turn" :: "_law_way" :: "_law_now" :: "_law_cell" :: "_law_sign" :: "_law_ink" :: "_law_low" :: "_law_high" :: "_law_start" :: "_law_looks" :: "_law_head" :: "_law_parts" :: "_law_known" :: "_law_claim_here" :: "_law_text" :: "_law_is_sure" :: "_law_one" :: "_law_word" :: "_law_whole" :: "_law_line" :: "_law_loose_here" :: [])) (sc := defScope s_law) (by decide +kernel)) (fun _ _ _ _ _ => (pg_tup rfl (pgs_cons (pg_name (i := 8) sc_law.nd rfl (Or.inl rfl)) (pgs_cons (pg_name (i := 9) sc_law.nd rfl (Or.inl rfl)) pgs_nil)))) (fun _ _ _ _ _ => pts_nil) (fun _ _ _ _ _ => (pe_op op_add_str (pe_op op_add_str (pe_op op_add_str pe_str (pv 8)) pe_str) (pe_callTy call_str_int (by rfl) (f_str T) bb_str (pa_cons (pv 9) pa_nil)))))))
      (pss_cons (ps_par3 (i := 10) (j := 11) (l := 12) rfl sc_law.nd rfl rfl rfl (by decide) (by decide) (by decide) rfl rfl rfl (pa_cons (pe_tup pa_nil) (pa_cons pe_dnewK (pa_cons (pe_lst pa_nil) pa_nil))) (by rfl))
      (pss_cons (ps_set (i := 13) sc_law.nd rfl (Or.inl rfl) (pe_callTy call_list_of (by rfl) (f_list T) bb_list (pa_cons (pv 5) pa_nil)))
      (pss_cons (ps_for PassesOwn.never rfl (pi_range1 (by rfl) (f_range T) (pa_cons (pcall (d_law_taken T) G_law_taken (hr.mono (by decide)) (pa_cons (pv 1) (pa_cons pe_int pa_nil))) pa_nil)) (pg_name (i := 14) sc_law.nd rfl (Or.inl rfl)) (pss_cons (ps_set (i := 15) sc_law.nd rfl (Or.inl rfl) (pcall (d_law_taken T) G_law_taken (hr.mono (by decide)) (pa_cons (pv 1) (pa_cons pe_int pa_nil))))
      (pss_cons (ps_set (i := 16) sc_law.nd rfl (Or.inl rfl) (pe_tup (pa_cons (pv 3) (pa_cons (pv 4) (pa_cons (pv 10) pa_nil)))))
      (pss_one (ps_if (pt_cut (PW.pt (pw_and (pt_cmpR op_lt (pv 15) pe_int (nomark _)) (pw_and1 (pt_cmpR (op_neD hr.units) (pv 13) (pe_lst pa_nil) (nomark _)))))) (pss_cons (ps_asg (pe_bm PySem.F.plainAttrs_list PySem.F.slot_list_pop PySem.F.type_list_pop mt_popAt (pv 13) (pa_cons pe_int pa_nil)) (pg_tup rfl (pgs_cons (pg_name (i := 17) sc_law.nd rfl (Or.inl rfl)) (pgs_cons (pg_name (i := 18) sc_law.nd rfl (Or.inl rfl)) (pgs_cons (pg_name (i := 19) sc_law.nd rfl (Or.inl rfl)) (pgs_cons (pg_name (i := 20) sc_law.nd rfl (Or.inl rfl)) (pgs_cons (pg_name (i := 21) sc_law.nd rfl (Or.inl rfl)) pgs_nil)))))))
      (pss_cons (ps_set (i := 10) sc_law.nd rfl (Or.inl rfl) (pe_cut (pe_op op_catA (pv 10) (pe_tup (pa_cons (pe_tup (pa_cons (pv 17) (pa_cons (pv 18) (pa_cons (pv 19) (pa_cons (pv 20) (pa_cons (pv 21) pa_nil)))))) pa_nil)))))
      (pss_one (ps_expr (pe_bm PySem.F.plainAttrs_list PySem.F.slot_list_append PySem.F.type_list_append mt_append (pv 7) (pa_cons (pe_op op_add_str (pe_op op_add_str (pe_op op_add_str (pe_op op_add_str (pe_op op_add_str (pe_op op_add_str (pe_op op_add_str (pe_op op_add_str (pe_op op_add_str pe_str (pe_callTy call_str_int (by rfl) (f_str T) bb_str (pa_cons (pv 17) pa_nil))) pe_str) (pv 18)) pe_str) (pe_ix ix_list (pv 6) (pv 19) (fun _ _ => rfl))) pe_str) (pe_callTy call_str_int (by rfl) (f_str T) bb_str (pa_cons (pv 20) pa_nil))) pe_str) (pe_callTy call_str_int (by rfl) (f_str T) bb_str (pa_cons (pv 21) pa_nil))) pa_nil)))))) (pss_one (ps_if (pt_cut (PW.pt (pw_and (pt_cmpR op_eq (pv 15) pe_int (nomark _)) (pw_and1 (pt_cmpR op_lt (pe_callB call_lenD (by rfl) (f_len T) bb_len (pa_cons (pv 11) pa_nil)) pe_int (nomark _)))))) (pss_cons (ps_set (i := 8) sc_law.nd rfl (Or.inl rfl) (pe_ix ix_list (pe_lst (pa_cons pe_str (pa_cons pe_str (pa_cons pe_str pa_nil)))) (pe_callB call_lenD (by rfl) (f_len T) bb_len (pa_cons (pv 11) pa_nil)) (fun _ _ => rfl)))
      (pss_cons (ps_asg (pcall (d_law_reader T) G_law_reader (hr.mono (by decide)) (pa_cons (pv 1) (pa_cons (pv 16) (pa_cons pe_int (pa_cons pe_int pa_nil))))) (pg_tup rfl (pgs_cons (pg_name (i := 22) sc_law.nd rfl (Or.inl rfl)) (pgs_cons (pg_name (i := 23) sc_law.nd rfl (Or.inl rfl)) pgs_nil))))
      (pss_cons (ps_dput (hu_of hr) (pv 11) (pv 8) (pe_tup (pa_cons (pv 22) (pa_cons (pv 23) pa_nil))) rfl)
      (pss_cons (ps_cut (ps_set (i := 24) sc_law.nd rfl (Or.inl rfl) (pe_ifExp (pt_cmpR op_isN (pv 22) pe_non (nomark _)) pe_str (pe_op op_add_str pe_str (pe_callTy call_str_int (by rfl) (f_str T) bb_str (pa_cons (pv 22) pa_nil))))))
      (pss_cons (ps_setLc (i := 25) (g := gTup K 3 (gCons (gName 17) (gCons (gName 20) (gCons (gName 21) gNil)))) (own := [("_law_cell", 17), ("_law_low", 20), ("_law_high", 21)]) rfl sc_law.nd rfl rfl (sw_true rfl rfl rfl (by decide +kernel)) (pi_tup (pv 23)) (blkOk_by (own := [("_law_cell", 17), ("_law_low", 20), ("_law_high", 21)]) (N := ("_law_script" :: "_law_row" :: "_law_plan_here" :: "_law_cells" :: "_law_stays" :: "_law_writes" :: "_law_names" :: "_law_rows" :: "_law_name" :: "_law_stay" :: "_law_told" :: "_law_readers" :: "_law_due" :: "_law_left" :: "_law_turn" :: "_law_way" :: "_law_now" :: "_law_cell" :: "_law_sign" :: "_law_ink" :: "_law_low" :: "_law_high" :: "_law_start" :: "_law_looks" :: "_law_head" :: "_law_parts" :: "_law_known" :: "_law_claim_here" :: "_law_text" :: "_law_is_sure" :: "_law_one" :: "_law_word" :: "_law_whole" :: "_law_line" :: "_law_loose_here" :: [])) (sc := defScope s_law) (by decide +kernel)) (fun _ _ _ _ _ => (pg_tup rfl (pgs_cons (pg_name (i := 17) sc_law.nd rfl (Or.inl rfl)) (pgs_cons (pg_name (i := 20) sc_law.nd rfl (Or.inl rfl)) (pgs_cons (pg_name (i := 21) sc_law.nd rfl (Or.inl rfl)) pgs_nil))))) (fun _ _ _ _ _ => pts_nil) (fun _ _ _ _ _ => (pe_op op_add_str (pe_op op_add_str (pe_op op_add_str (pe_op op_add_str (pe_callTy call_str_int (by rfl) (f_str T) bb_str (pa_cons (pv 17) pa_nil)) pe_str) (pe_callTy call_str_int (by rfl) (f_str T) bb_str (pa_cons (pv 20) pa_nil))) pe_str) (pe_callTy call_str_int (by rfl) (f_str T) bb_str (pa_cons (pv 21) pa_nil)))))
      (pss_one (ps_expr (pe_bm PySem.F.plainAttrs_list PySem.F.slot_list_append PySem.F.type_list_append mt_append (pv 7) (pa_cons (pe_op op_add_str (pe_op op_add_str (pe_op op_add_str (pe_op op_add_str (pe_op op_add_str pe_str (pv 8)) pe_str) (pv 24)) pe_str) (pe_join pe_str (pv 25))) pa_nil))))))))) (pss_one (ps_if (pt_cut (PW.pt (pw_and (pt_cmpR op_gt (pv 15) pe_int (nomark _)) (pw_and1 (pt_cmpR (op_neDK hr.units) (pv 11) pe_dnewK (nomark _)))))) (pss_cons (ps_set (i := 8) sc_law.nd rfl (Or.inl rfl) (pcall (d_law_pick T) G_law_pick (hr.mono (by decide)) (pa_cons (pv 1) (pa_cons (pe_callTy (call_listD rfl) (by rfl) (f_list T) bb_list (pa_cons (pv 11) pa_nil)) pa_nil))))
      (pss_cons (ps_set (i := 26) sc_law.nd rfl (Or.inl rfl) (pcall (d_law_readings T) G_law_readings (hr.mono (by decide)) (pa_cons (pv 16) (pa_cons (pe_dget (hu_of hr) (pv 11) (pv 8) (fun _ _ => rfl)) pa_nil))))
      (pss_cons (ps_set (i := 27) sc_law.nd rfl (Or.inr rfl) (pcall (d_law_claim T) G_law_claim (hr.mono (by decide)) (pa_cons (pv 1) (pa_cons (pe_callB call_len (by rfl) (f_len T) bb_len (pa_cons (pe_ix ix_tup (pe_dget (hu_of hr) (pv 11) (pv 8) (fun _ _ => rfl)) pe_int (fun _ _ => rfl)) pa_nil)) (pa_cons pe_int pa_nil)))))
      (pss_cons (ps_set (i := 28) sc_law.nd rfl (Or.inl rfl) (pcall (d_law_claim_text T) G_law_claim_text (hr.mono (by decide)) (pa_cons (pv 27) (pa_cons pe_int pa_nil))))
      (pss_cons (ps_cut (ps_set (i := 29) sc_law.nd rfl (Or.inl rfl) (pe_cmpR (op_eqD hr.units) (pe_lock (pe_lc (own := [("_law_one", 30)]) rfl sc_law.nd (pi_keys (pv 26)) (blkOk_by (own := [("_law_one", 30)]) (N := ("_law_script" :: "_law_row" :: "_law_plan_here" :: "_law_cells" :: "_law_stays" :: "_law_writes" :: "_law_names" :: "_law_rows" :: "_law_name" :: "_law_stay" :: "_law_told" :: "_law_readers" :: "_law_due" :: "_law_left" :: "_law_turn" :: "_law_way" :: "_law_now" :: "_law_cell" :: "_law_sign" :: "_law_ink" :: "_law_low" :: "_law_high" :: "_law_start" :: "_law_looks" :: "_law_head" :: "_law_parts" :: "_law_known" :: "_law_claim_here" :: "_law_text" :: "_law_is_sure" :: "_law_one" :: "_law_word" :: "_law_whole" :: "_law_line" :: "_law_loose_here" :: [])) (sc := defScope s_law) (by decide +kernel)) (fun _ _ _ _ _ => (pg_name (i := 30) sc_law.nd rfl (Or.inl rfl))) (fun _ _ _ _ _ => (pts_one (pt_not (pt_val (pcall (d_law_so T) G_law_so (hr.mono (by decide)) (pa_cons (pv 30) (pa_cons (pv 27) pa_nil))))))) (fun _ _ _ _ _ => (pv 30)))) (pe_lst pa_nil) (nomark _))))
      (pss_cons (ps_expr (pe_bm PySem.F.plainAttrs_list PySem.F.slot_list_append PySem.F.type_list_append mt_append (pv 7) (pa_cons (pe_op op_add_str pe_str (pcall (d_law_pick T) G_law_pick (hr.mono (by decide)) (pa_cons (pv 1) (pa_cons (pe_lst (pa_cons (pe_op op_add_str pe_str (pv 8)) (pa_cons (pe_op op_add_str (pe_op op_add_str (pe_op op_add_str pe_str (pv 8)) pe_str) (pv 28)) (pa_cons (pe_op op_add_str (pe_op op_add_str (pe_op op_add_str pe_str (pv 8)) pe_str) (pv 28)) pa_nil)))) pa_nil)))) pa_nil)))
      (pss_cons (ps_cut (ps_set (i := 31) sc_law.nd rfl (Or.inl rfl) (pe_ix ix_list (pe_split (pe_ix ix_list (pv 7) (pe_un un_neg pe_int) (fun _ _ => rfl)) pe_str) pe_int (fun _ _ => rfl))))
      (pss_one (ps_expr (pe_bm PySem.F.plainAttrs_list PySem.F.slot_list_append PySem.F.type_list_append mt_append (pv 12) (pa_cons (pe_cut (pe_ifExp (pt_cmpR op_eq (pv 31) pe_str (nomark _)) (pe_callTy call_tuple_of (by rfl) (f_tuple T) bb_tuple (pa_cons (pe_callB cr_sortedS (by rfl) (f_sorted T) bb_sorted (pa_cons (pe_callTy (call_listD rfl) (by rfl) (f_list T) bb_list (pa_cons (pv 26) pa_nil)) pa_nil)) pa_nil)) (pe_ifExp (pt_cmpR op_eq (pv 31) pe_str (nomark _)) (pv 29) (pe_ifExp (pt_val (pv 29)) pe_int pe_non)))) pa_nil))))))))))) pss_nil)))))))))
      (pss_cons (ps_set (i := 32) sc_law.nd rfl (Or.inl rfl) (pe_join pe_str (pe_lc (own := [("_law_line", 33)]) rfl sc_law.nd (pi_list (pv 7)) (blkOk_by (own := [("_law_line", 33)]) (N := ("_law_script" :: "_law_row" :: "_law_plan_here" :: "_law_cells" :: "_law_stays" :: "_law_writes" :: "_law_names" :: "_law_rows" :: "_law_name" :: "_law_stay" :: "_law_told" :: "_law_readers" :: "_law_due" :: "_law_left" :: "_law_turn" :: "_law_way" :: "_law_now" :: "_law_cell" :: "_law_sign" :: "_law_ink" :: "_law_low" :: "_law_high" :: "_law_start" :: "_law_looks" :: "_law_head" :: "_law_parts" :: "_law_known" :: "_law_claim_here" :: "_law_text" :: "_law_is_sure" :: "_law_one" :: "_law_word" :: "_law_whole" :: "_law_line" :: "_law_loose_here" :: [])) (sc := defScope s_law) (by decide +kernel)) (fun _ _ _ _ _ => (pg_name (i := 33) sc_law.nd rfl (Or.inl rfl))) (fun _ _ _ _ _ => pts_nil) (fun _ _ _ _ _ => (pe_op op_add_str (pv 33) pe_str)))))
      (pss_cons (ps_set (i := 34) sc_law.nd rfl (Or.inl rfl) (pcall (d_law_loose T) G_law_loose (hr.mono (by decide)) (pa_cons (pv 1) (pa_cons (pv 32) pa_nil))))
      (pss_cons (ps_if (pt_cmpR op_gt (pe_callB call_len (by rfl) (f_len T) bb_len (pa_cons (pv 34) pa_nil)) pe_int (nomark _)) (pss_one (ps_ret pe_bl)) pss_nil)
      (pss_cons (ps_if (pt_cut (PW.pt (pw_or (pt_cmpR op_ne (pcall (d_printed T) G_printed (hr.mono (by decide)) (pa_cons (pv 32) pa_nil)) (pv 32) (nomark _)) (pw_or (pt_cmpR op_ne (pcall (d_printed T) G_printed (hr.mono (by decide)) (pa_cons (pv 34) pa_nil)) (pv 32) (nomark _)) (pw_or1 (pt_cmpR op_notN (pcall (d_check T) G_check (hr.mono (by decide)) (pa_cons (pv 34) pa_nil)) pe_non (nomark _))))))) (pss_one (ps_ret pe_bl)) pss_nil)
      (pss_one (ps_ret (pcall (d_law_alike T) G_law_alike (hr.mono (by decide)) (pa_cons (pcall (d_run T) G_run (hr.mono (by decide)) (pa_cons (pv 34) pa_nil)) (pa_cons (pe_callTy call_tuple_of (by rfl) (f_tuple T) bb_tuple (pa_cons (pv 12) pa_nil)) pa_nil))))))))))))))))), ?_⟩
  refine ⟨_, rfl, by show 4 ≤ sizeLine; decide, fun ra hra => ?_⟩
  have k0 : Kp [] H (upd H ra (.lst [.ref sc, .int 0, .int 7610, .int 0])) := .new hra
  have hR0 : RowAt K (upd H ra (.lst [.ref sc, .int 0, .int 7610, .int 0])) ra := ⟨⟨sc, ns, 0, 7610, 0, upd_same, hS.kp k0, by decide, by decide, by decide, by decide⟩⟩
  generalize upd H ra (.lst [.ref sc, .int 0, .int 7610, .int 0]) = H0 at hR0 ⊢
  refine ⟨_, rfl, ra, rfl, hR0, fun H1 v p k1 hR1 ok hP => ?_⟩
  obtain ⟨a, b, c, vs, rfl, ha, hb, hc, hvs⟩ := hP
  have hbe : p.pl.stays.map V.int = p.stays.map fun x => V.int (x : Nat) := by show (p.stays.map _).map _ = _; rw [List.map_map]; rfl
  rw [hbe] at hb
  have hsl : (p.stays.map fun x => V.int (x : Nat)).length = p.stays.length := List.length_map ..
  have n1 := ok.n1
  have n0 := ok.n0
  have ha : SqT K H1 a [.int (p.cells : Nat), .ref b, .ref c] := ha
  refine ⟨_, rfl, a, _, rfl, ha, rfl, _, _, rfl, _, _, rfl, _, _, rfl, rfl, ?_⟩
  have hc9 : p.cells < 10 := by have := ok.c1; omega
  have c1 := ok.c1
  have c0 := ok.c0
  -- the names
  refine ⟨by show 3 ≤ sizeLine; decide, fun D0 hD0 => ?_⟩
  have kD0 : Kp [] H1 (upd H1 D0 (.lst [.str "RED", .str "B", .str "LONGEST"])) := .new hD0
  refine ⟨_, rfl, _, _, rfl, .inr ⟨_, kpT hb kD0, rfl⟩, _, rfl, D0, _, rfl, SqL.of upd_same, fun nl hnl => ?_⟩
  have enl : cutV [.str "RED", .str "B", .str "LONGEST"] none (some (((p.stays.map fun x => V.int (x : Nat)).length : Nat) : Int)) = strsV (inkN.take p.stays.length) := by
    rw [cut_take, hsl, strs_take]
    have : ([.str "RED", .str "B", .str "LONGEST"] : List V) = strsV inkN := by decide +kernel
    rw [this]
  rw [enl]
  have knl := kD0.newT (p := nl) (o := .lst (strsV (inkN.take p.stays.length))) hnl
  have hnl2 : upd (upd H1 D0 (.lst [.str "RED", .str "B", .str "LONGEST"])) nl (.lst (strsV (inkN.take p.stays.length))) nl = some (.lst (strsV (inkN.take p.stays.length))) := upd_same
  generalize upd (upd H1 D0 (.lst [.str "RED", .str "B", .str "LONGEST"])) nl (.lst (strsV (inkN.take p.stays.length))) = H2 at knl hnl2 ⊢
  have ha2 := kpT ha knl
  have hb2 := kpT hb knl
  have hc2 := kpT hc knl
  have hvs2 : Paired (IsWr K H2) vs p.pl.ws := pkp hvs fun _ _ z => z.kp knl
  have hR2 := hR1.kp knl (by simp)
  -- the first rows
  refine ⟨_, rfl, _, rfl, num_log hc9, ?_⟩
  rw [num_str hc9]
  refine ⟨_, _, rfl, rfl, sz2 (m := 10) (n := 1) (by decide +kernel) (Nat.le_refl 1) (by decide), by show 1 ≤ sizeLine; decide, fun L1 hL1 => ?_⟩
  have kL1 : Kp [] H2 (upd H2 L1 (.lst [.str ("cells " ++ strL (numW p.cells))])) := .new hL1
  have hnl3 := kL1.keep _ _ hnl2 (by simp)
  have hil : (strsV (inkN.take p.stays.length)).length = p.stays.length := by
    unfold strsV
    rw [List.length_map, List.length_take, inkN_e]; show min _ 3 = _; omega
  have hstv : ∀ {i : Nat} {z : V}, (p.stays.map fun x => V.int (x : Nat))[i]? = some z → ∃ n, p.stays[i]? = some n ∧ z = .int (n : Nat) := fun {i z} h => by
    rw [List.getElem?_map] at h
    obtain ⟨n, hn, e⟩ := Option.map_eq_some_iff.mp h
    exact ⟨n, hn, e.symm⟩
  have hnmv : ∀ {i : Nat} {z : V}, (strsV (inkN.take p.stays.length))[i]? = some z → ∃ n, (inkN.take p.stays.length)[i]? = some n ∧ z = .str (strL n) := fun {i z} h => by
    unfold strsV at h
    rw [List.getElem?_map] at h
    obtain ⟨n, hn, e⟩ := Option.map_eq_some_iff.mp h
    exact ⟨n, hn, e.symm⟩
  refine ⟨_, rfl, _, rfl, nl, b, _, _, rfl, SqL.of hnl3, kpT hb2 kL1, fun D hD => lc_it (walk_zipG (n := p.stays.length) (xs := strsV (inkN.take p.stays.length)) (ys := p.stays.map fun x => V.int (x : Nat)) (by rw [hil, hsl, Nat.min_self]))
    (fun i H' => Kp [] (upd H2 L1 (.lst [.str ("cells " ++ strL (numW p.cells))])) H' ∧ H' D = some (.lst (strsV (((((inkN.take p.stays.length).zip p.stays).map fun x => Stm.ink x.1 x.2).take i).map lineT)))) ⟨.new hD, upd_same⟩
    (fun i H' _ h => ⟨SqL.of (h.1.keep _ _ hnl3 (by simp)), kpT (kpT hb2 kL1) h.1⟩) ?_ ?_⟩
  · rintro i x H3 H4 hi ⟨k3, hD3⟩ ⟨t, y, z, rfl, ht, rfl, h1, h2⟩
    obtain ⟨nm, hnm, rfl⟩ := hnmv h1
    obtain ⟨st, hst, rfl⟩ := hstv h2
    have hst6 := ok.st st (List.mem_of_getElem? hst)
    have hnw := (name_w (.inl (List.mem_of_mem_take (List.mem_of_getElem? hnm)))).2.2
    refine ⟨t, _, rfl, SqT.of upd_same, rfl, _, _, rfl, _, _, rfl, rfl, rfl, tyes ?_⟩
    refine iteT ?_
    refine ⟨_, rfl, _, _, rfl, rfl, sz2 (m := 10) (n := 8) (by decide +kernel) hnw (by decide), ?_⟩
    refine ⟨_, _, rfl, rfl, sz2 (m := 18) (n := 1) (apl (m := 10) (n := 8) (by decide +kernel) hnw) (by decide +kernel) (by decide), ?_⟩
    refine ⟨_, rfl, _, rfl, num_log (show st < 10 by omega), ?_⟩
    rw [num_str (show st < 10 by omega)]
    refine ⟨_, _, rfl, rfl, sz2 (m := 19) (n := 1) (apl (m := 18) (n := 1) (apl (m := 10) (n := 8) (by decide +kernel) hnw) (by decide +kernel)) (Nat.le_refl 1) (by decide), ?_⟩
    have kt : Kp [] H3 (upd H3 t (.tup [.str (strL nm), .int (st : Nat)])) := .new ht
    have hD4 := kt.keep _ _ hD3 (by simp)
    have hzi : ((inkN.take p.stays.length).zip p.stays)[i]? = some (nm, st) := by
      rw [List.getElem?_zip_eq_some]; exact ⟨hnm, hst⟩
    refine ⟨_, hD4, small1000 ?_, (k3.trans kt).putN hD, ?_⟩
    · unfold strsV
      rw [List.length_map, List.length_map, List.length_take]
      omega
    · rw [upd_same, List.take_succ, List.getElem?_map, hzi]
      unfold strsV
      rw [List.map_append, List.map_append]
      show some (HO.lst (_ ++ [V.str (("ink " : Str) ++ strL nm ++ " " ++ strL (numW st))])) = some (HO.lst (_ ++ [V.str (strL (kw "ink " ++ nm ++ kw " " ++ numW st))]))
      rw [← strL_app, ← strL_app, ← strL_app]
      rfl
  rintro H3 ⟨k3, hD3⟩
  have hinl : (((inkN.take p.stays.length).zip p.stays).map fun x => Stm.ink x.1 x.2).length = p.stays.length := by
    rw [List.length_map, List.length_zip, List.length_take, inkN_e]; show min (min _ 3) _ = _; omega
  rw [List.take_of_length_le (by rw [hinl]; exact Nat.le_refl _)] at hD3
  have g0 := LG.start ok
  have has0 := asks_inks (cells := p.cells) ((inkN.take p.stays.length).zip p.stays) S0
  generalize ((inkN.take p.stays.length).zip p.stays).map (fun x => Stm.ink x.1 x.2) = ss0 at hD3 g0 hinl has0
  have hL13 := k3.keep _ _ upd_same (by simp)
  have hln : (strsV (ss0.map lineT)).length = ss0.length := by unfold strsV; rw [List.length_map, List.length_map]
  have hsz1 : 1 + (strsV (ss0.map lineT)).length ≤ sizeLine := by
    have : (1000 : Nat) ≤ sizeLine := by decide
    omega
  refine ⟨L1, D, _, _, rfl, rfl, hL13, hD3, hsz1, fun rl hrl => ?_⟩
  have krl := (kL1.trans k3).newT (p := rl) (o := .lst ([.str ("cells " ++ strL (numW p.cells))] ++ strsV (ss0.map lineT))) hrl
  have hrl4 : upd H3 rl (.lst ([.str ("cells " ++ strL (numW p.cells))] ++ strsV (ss0.map lineT))) rl = some (.lst (strsV ((kw "cells " ++ numW p.cells) :: ss0.map lineT))) := by
    rw [upd_same]
    show some (HO.lst (V.str (("cells " : Str) ++ strL (numW p.cells)) :: strsV (ss0.map lineT))) = some (HO.lst (V.str (strL (kw "cells " ++ numW p.cells)) :: strsV (ss0.map lineT)))
    rw [← strL_app]
    rfl
  generalize upd H3 rl (.lst ([.str ("cells " ++ strL (numW p.cells))] ++ strsV (ss0.map lineT))) = H4 at krl hrl4 ⊢
  -- told, readers, due
  refine ⟨by show 0 ≤ sizeLine; decide, fun ta hta => ?_⟩
  have kta : Kp [] H4 (upd H4 ta (.tup [])) := .new hta
  refine fun rd hrd => ⟨by show 0 ≤ sizeLine; decide, fun dl hdl => ?_⟩
  have krd := kta.newT (p := rd) (o := .dK []) hrd
  have kdl := krd.newT (p := dl) (o := .lst []) hdl
  refine ⟨_, _, _, rfl, ?_⟩
  have k24 := krl.trans kdl
  refine ⟨_, rfl, c, vs, rfl, .inr (kpT hc2 k24), fun ll hll => ?_⟩
  have kll := kdl.newT (p := ll) (o := .lst vs) hll
  have k25 := krl.trans kll
  -- all stand apart
  obtain ⟨_, x1⟩ := (hR1.kp kD0 (by simp)).some
  obtain ⟨_, x2⟩ := (hR2.kp (kL1.trans k3) (by simp)).some
  obtain ⟨_, x3⟩ := (hR2.kp (krl.trans kta) (by simp)).some
  obtain ⟨_, x4⟩ := (hR2.kp (krl.trans krd) (by simp)).some
  obtain ⟨_, x5⟩ := (hR2.kp (krl.trans kdl) (by simp)).some
  have y2 := (kL1.trans k3).keep _ _ hnl2 (by simp)
  have y3 := (krl.trans kta).keep _ _ hnl2 (by simp)
  have y4 := (krl.trans krd).keep _ _ hnl2 (by simp)
  have y5 := (krl.trans kdl).keep _ _ hnl2 (by simp)
  have z3 := kta.keep _ _ hrl4 (by simp)
  have z4 := krd.keep _ _ hrl4 (by simp)
  have z5 := kdl.keep _ _ hrl4 (by simp)
  have w4 : upd (upd H4 ta (.tup [])) rd (.dK []) rd = some (.dK []) := upd_same
  have w5 := (Kp.new (S := []) (o := .lst []) hdl).keep _ _ w4 (by simp)
  have w6 := (Kp.new (S := []) (o := .lst vs) hll).keep _ _ w5 (by simp)
  have v5 : upd (upd (upd H4 ta (.tup [])) rd (.dK [])) dl (.lst []) dl = some (.lst []) := upd_same
  have v6 := (Kp.new (S := []) (o := .lst vs) hll).keep _ _ v5 (by simp)
  have hta6 : SqT K (upd (upd (upd (upd H4 ta (.tup [])) rd (.dK [])) dl (.lst [])) ll (.lst vs)) ta [] := kpT (SqT.of (upd_same (H := H4) (a := ta))) (((Kp.new (S := []) hrd).newT hdl).newT hll)
  have lh : LH K (upd (upd (upd (upd H4 ta (.tup [])) rd (.dK [])) dl (.lst [])) ll (.lst vs)) ⟨ra, nl, rl, rd, dl, ll, b⟩ p p.ws [] ((kw "cells " ++ numW p.cells) :: ss0.map lineT) (asksOf p.cells S0 ss0) :=
    ⟨hR2.kp k25 (by simp), k25.keep _ _ hnl2 (by simp), kpT hb2 k25, kll.keep _ _ hrl4 (by simp), ⟨[], w6, .nil⟩, ⟨[], v6, by rw [has0]; exact .nil⟩, ⟨vs, upd_same, pkp hvs2 fun _ _ z => z.kp k25⟩,
      ne_of_none x1 hnl, ne_of_none x2 hrl, ne_of_none x3 hrd, ne_of_none x4 hdl, ne_of_none x5 hll, ne_of_none y2 hrl, ne_of_none y3 hrd, ne_of_none y4 hdl, ne_of_none y5 hll, ne_of_none z3 hrd, ne_of_none z4 hdl, ne_of_none z5 hll, ne_of_none w4 hdl, ne_of_none w5 hll, ne_of_none v5 hll⟩
  generalize upd (upd (upd (upd H4 ta (.tup [])) rd (.dK [])) dl (.lst [])) ll (.lst vs) = H5 at hta6 lh k25 ⊢
  have ha5 := kpT ha2 k25
  refine ⟨_, rfl, ra, 9, rfl, lh.row, by decide, by decide, fun H6 turns k6 hR6 htn => ⟨_, rfl, (by omega), (by omega), ?_⟩⟩
  have lh6 := lh.kp k6 hR6
  have hta7 := kpT hta6 k6
  refine for_range (lo := 0) (n := ((turns : Nat) : Int).toNat) (fun i σ H' => ∃ (told rest : List LWr) (rds : RdL) (ss : List Stm) (ta : Addr) (tv : List V) (o8 o9 o14 o15 o16 o17 o18 o19 o20 o21 o22 o23 o24 o25 o26 o27 o28 o29 o30 o31 : Option V),
      σ = sgL sc a b c nl rl rd dl ll ra ta p.cells o8 o9 o14 o15 o16 o17 o18 o19 o20 o21 o22 o23 o24 o25 o26 o27 o28 o29 o30 o31 ∧ LG p told rds ss ∧
      LH K H' ⟨ra, nl, rl, rd, dl, ll, b⟩ p rest rds ((kw "cells " ++ numW p.cells) :: ss.map lineT) (asksOf p.cells S0 ss) ∧ told.length + rest.length ≤ 4 ∧ (∀ x ∈ rest, x.Ok p.cells p.stays.length) ∧ SqT K H' ta tv ∧ Paired (IsWr K H') tv (told.map LWr.wr) ∧ ss.length ≤ 3 + i)
    ⟨[], p.ws, [], ss0, ta, [], _, _, _, _, _, _, _, _, _, _, _, _, _, _, _, _, _, _, _, _, rfl, g0, lh6, by have := ok.wn; simpa using this, ok.ws, hta7, .nil, by omega⟩ ?_ ?_
  · rintro i σ H7 hi ⟨told, rest, rds, ss, ta', tv, o8, o9, o14, o15, o16, o17, o18, o19, o20, o21, o22, o23, o24, o25, o26, o27, o28, o29, o30, o31, rfl, g, lh7, hsum, hrest, htq, htv, hssn⟩
    refine ⟨_, rfl, ra, 6, rfl, lh7.row, by decide, by decide, fun H8 way k8 hR8 hway => ?_⟩
    have lh8 := lh7.kp k8 hR8
    refine ⟨_, rfl, _, rfl, _, rfl, by show 3 ≤ sizeLine; decide, fun tn htn => ?_⟩
    have ktn : Kp [] H8 (upd H8 tn (.tup [.int (p.cells : Nat), .ref b, .ref ta'])) := .new htn
    have hNow : SqT K (upd H8 tn (.tup [.int (p.cells : Nat), .ref b, .ref ta'])) tn [.int (p.cells : Nat), .ref b, .ref ta'] := SqT.of upd_same
    have lh9 := lh8.kp0 ktn
    have k79 : Kp [ra] H7 (upd H8 tn (.tup [.int (p.cells : Nat), .ref b, .ref ta'])) := k8.trans ktn.mono0
    have hta9 := kpT htq k79
    have htv9 := pkp htv fun _ _ z => IsWr.kp z k79
    generalize upd H8 tn (.tup [.int (p.cells : Nat), .ref b, .ref ta']) = H9 at hNow lh9 hta9 htv9 k79 ⊢
    have hPl : IsPl K H9 (.ref tn) (tp p told).pl := ⟨tn, b, ta', tv, rfl, hNow, by rw [show (tp p told).pl.stays.map V.int = p.stays.map fun x => V.int (x : Nat) from hbe]; exact lh9.st, hta9, htv9⟩
    have hpok := tp_ok ok g.tn g.tw
    have hrl9 : ∀ r ∈ (kw "cells " ++ numW p.cells) :: ss.map lineT, r.length ≤ 170 := fun r hr => by
      rcases List.mem_cons.mp hr with e | e
      · rw [e, List.length_append]
        have : (kw "cells ").length = 6 := by decide +kernel
        have : (numW p.cells).length = 1 := rfl
        omega
      · obtain ⟨s, hs, rfl⟩ := List.mem_map.mp e
        exact g.len s hs
    have hrsz : (strsV ((kw "cells " ++ numW p.cells) :: ss.map lineT)).length < sizeLine := by
      unfold strsV
      rw [List.length_map, List.length_cons, List.length_map]
      have : (1000 : Nat) ≤ sizeLine := by decide
      omega
    obtain ⟨lv9, l1, l2⟩ := lh9.ll
    refine ⟨fun bt H' => Kp [] H9 H' ∧ (bt = true → rest ≠ []), ?_, ?_⟩
    · refine ⟨_, rfl, _, _, rfl, rfl, _, rfl, ite2 (fun _ => ?_) (fun _ => ⟨.refl _ _, fun z => by cases z⟩)⟩
      refine ⟨_, rfl, by show 0 ≤ sizeLine; decide, fun e0 he0 => ?_⟩
      have ke : Kp [] H9 (upd H9 e0 (.lst [])) := .new he0
      have l1e := ke.keep _ _ l1 (by simp)
      have dp : DpAll K (upd H9 e0 (.lst [])) lv9 (rest.map wrD) := dp_wrs (pkp l2 fun _ _ z => z.kp ke)
      refine ⟨_, _, .lst (SqL.of l1e) dp, .lst (SqL.of upd_same) .nil, shaped_wrs (fun x hx => hrest x hx), rfl, _, rfl, ?_⟩
      refine ⟨ke, fun z e => ?_⟩
      subst e
      exact absurd z (by decide)
    rintro bt Ha ⟨ka, hbt⟩
    have lha := lh9.kp0 ka
    have htaa := kpT hta9 ka
    have htva := pkp htv9 fun _ _ z => IsWr.kp z ka
    have hPla := IsPl.kp hPl ka
    cases bt with
    | true =>
      refine iteT ?_
      obtain ⟨x, rest', rfl⟩ : ∃ x r, rest = x :: r := by
        cases rest with
        | nil => exact absurd rfl (hbt rfl)
        | cons x r => exact ⟨x, r, rfl⟩
      obtain ⟨la, m1, m2⟩ := lha.ll
      obtain ⟨v0, vs', rfl⟩ : ∃ v r, la = v :: r := by
        cases m2 with
        | cons _ _ => exact ⟨_, _, rfl⟩
      obtain ⟨hpop, kpop, t, rfl, ht⟩ := lha.pop m1
      have xo := hrest x (by simp)
      have hlt4 : told.length + 1 ≤ 4 := by rw [List.length_cons] at hsum; omega
      have ht : SqT K Ha t [.int (x.cell : Nat), .str (sg x.c), .int (x.ink : Nat), .int (x.lo : Nat), .int (x.hi : Nat)] := ht
      refine ⟨_, rfl, .inl ⟨rfl, _, SqL.of m1⟩, ll, _, 0, 0, _, rfl, rfl, m1, by decide, by decide, seqIndex_of (k := 0) (by decide) (by show (0 : Int) < ((vs'.length + 1 : Nat) : Int); omega), rfl, ?_⟩
      refine ⟨t, _, rfl, kpT ht kpop, rfl, _, _, rfl, _, _, rfl, _, _, rfl, _, _, rfl, _, _, rfl, rfl, ?_⟩
      refine ⟨fun v H' => ∃ ta2 tv2, v = .ref ta2 ∧ Kp [] (upd Ha ll (.lst vs')) H' ∧ SqT K H' ta2 tv2 ∧ Paired (IsWr K H') tv2 ((told ++ [x]).map LWr.wr), ?_, ?_⟩
      · refine ⟨_, rfl, _, rfl, _, rfl, _, rfl, _, rfl, _, rfl, by show 5 ≤ sizeLine; decide, fun t1 ht1 => ⟨by show 1 ≤ sizeLine; decide, fun t2 ht2 => ?_⟩⟩
        have k1 : Kp [] (upd Ha ll (.lst vs')) (upd (upd Ha ll (.lst vs')) t1 (.tup [.int (x.cell : Nat), .str (sg x.c), .int (x.ink : Nat), .int (x.lo : Nat), .int (x.hi : Nat)])) := .new ht1
        have s1 : SqT K (upd (upd Ha ll (.lst vs')) t1 (.tup [.int (x.cell : Nat), .str (sg x.c), .int (x.ink : Nat), .int (x.lo : Nat), .int (x.hi : Nat)])) t1 [.int (x.cell : Nat), .str (sg x.c), .int (x.ink : Nat), .int (x.lo : Nat), .int (x.hi : Nat)] := SqT.of upd_same
        have k2 := Kp.new (S := []) (o := .tup [.ref t1]) ht2
        have hnew : IsWr K (upd (upd (upd Ha ll (.lst vs')) t1 (.tup [.int (x.cell : Nat), .str (sg x.c), .int (x.ink : Nat), .int (x.lo : Nat), .int (x.hi : Nat)])) t2 (.tup [.ref t1])) (.ref t1) x.wr := ⟨t1, rfl, kpT s1 k2⟩
        have kk := k1.trans k2
        have hb' := kpT (kpT htaa kpop) kk
        have hv' := pkp htva fun _ _ z => (IsWr.kp z kpop).kp kk
        have hvl := paired_len htv
        rw [List.length_map] at hvl
        refine ⟨ta', t2, tv, [.ref t1], rfl, rfl, hb', SqT.of upd_same, (by show tv.length + 1 ≤ sizeLine; exact small1000 (by omega)), fun e => ?_, (fun _ e => by cases e), fun _ _ p1 hp1 => ?_⟩
        · subst e
          have e2 : told = [] := List.eq_nil_of_length_eq_zero hvl.symm
          subst e2
          exact ⟨t2, [.ref t1], rfl, kk, SqT.of upd_same, .cons hnew .nil⟩
        · have k3 := Kp.new (S := []) (o := .tup (tv ++ [.ref t1])) hp1
          refine ⟨p1, tv ++ [.ref t1], rfl, kk.trans k3, SqT.of upd_same, ?_⟩
          rw [List.map_append]
          exact paired_snoc (pkp hv' fun _ _ z => IsWr.kp z k3) (hnew.kp k3)
      rintro v Hc ⟨ta2, tv2, rfl, kc, hta2, htv2⟩
      have lhc := hpop.kp0 kc
      have hz8 : (strL (inkN.getD x.ink [])).length ≤ 8 := (name_w (.inl (ink_idx n1 xo.ink).2.2)).2.2
      have hce : x.cell < 10 := by have := xo.cell; omega
      have hlo : x.lo < 10 := by have := xo.lo; omega
      have hhi : x.hi < 10 := by have := xo.lo; have := xo.h1; omega
      refine ⟨_, rfl, .inl ⟨rfl, _, SqL.of lhc.rl⟩, ?_⟩
      refine ⟨_, rfl, _, rfl, num_log hce, ?_⟩
      rw [num_str hce]
      have p1 : (("write " : Str) ++ strL (numW x.cell)).length ≤ 7 := apl (m := 6) (n := 1) (by decide +kernel) (Nat.le_refl 1)
      have p2 := apl (m := 7) (n := 1) (b := (" " : Str)) p1 (by decide +kernel)
      have p3 := apl (m := 8) (n := 1) (b := sg x.c) p2 (Nat.le_refl 1)
      have p4 := apl (m := 9) (n := 1) (b := (" " : Str)) p3 (by decide +kernel)
      have p5 := apl (m := 10) (n := 8) p4 hz8
      have p6 := apl (m := 18) (n := 1) (b := (" " : Str)) p5 (by decide +kernel)
      have p7 := apl (m := 19) (n := 1) (b := strL (numW x.lo)) p6 (Nat.le_refl 1)
      have p8 := apl (m := 20) (n := 2) (b := (".." : Str)) p7 (by decide +kernel)
      refine ⟨_, _, rfl, rfl, sz2 (m := 6) (n := 1) (by decide +kernel) (Nat.le_refl 1) (by decide), ?_⟩
      refine ⟨_, _, rfl, rfl, sz2 (m := 7) (n := 1) p1 (by decide +kernel) (by decide), ?_⟩
      refine ⟨_, rfl, _, _, rfl, rfl, sz2 (m := 8) (n := 1) p2 (Nat.le_refl 1) (by decide), ?_⟩
      refine ⟨_, _, rfl, rfl, sz2 (m := 9) (n := 1) p3 (by decide +kernel) (by decide), ?_⟩
      refine ⟨_, rfl, _, rfl, nl, _, _, _, rfl, rfl, SqL.of lhc.nl, atI_nat (ink_at n1 xo.ink), _, _, rfl, rfl, sz2 (m := 10) (n := 8) p4 hz8 (by decide), ?_⟩
      refine ⟨_, _, rfl, rfl, sz2 (m := 18) (n := 1) p5 (by decide +kernel) (by decide), ?_⟩
      refine ⟨_, rfl, _, rfl, num_log hlo, ?_⟩
      rw [num_str hlo]
      refine ⟨_, _, rfl, rfl, sz2 (m := 19) (n := 1) p6 (Nat.le_refl 1) (by decide), ?_⟩
      refine ⟨_, _, rfl, rfl, sz2 (m := 20) (n := 2) p7 (by decide +kernel) (by decide), ?_⟩
      refine ⟨_, rfl, _, rfl, num_log hhi, ?_⟩
      rw [num_str hhi]
      refine ⟨_, _, rfl, rfl, sz2 (m := 22) (n := 1) p8 (Nat.le_refl 1) (by decide), ?_⟩
      refine ⟨rl, _, .str (strL (lineT (.write x.cell x.c (inkN.getD x.ink []) x.lo x.hi))), rfl, congrArg (fun z => [V.str z]) (line_write x _), lhc.rl, hrsz, ?_⟩
      obtain ⟨lhd, kd⟩ := lhc.addRow (x := lineT (.write x.cell x.c (inkN.getD x.ink []) x.lo x.hi))
      refine ⟨told ++ [x], rest', rds, ss ++ [.write x.cell x.c (inkN.getD x.ink []) x.lo x.hi], ta2, tv2, _, _, _, _, _, _, _, _, _, _, _, _, _, _, _, _, _, _, _, _, rfl, g.write ok xo (by omega), ?_, ?_, fun y hy => hrest y (List.mem_cons_of_mem _ hy), kpT hta2 kd, pkp htv2 fun _ _ z => IsWr.kp z kd, by rw [List.length_append, List.length_singleton]; omega⟩
      · rw [List.map_append, asks_write rfl]
        exact lhd
      · rw [List.length_append, List.length_singleton]
        rw [List.length_cons] at hsum
        omega
    | false =>
      refine iteF ?_
      obtain ⟨kvs, r1, r2⟩ := lha.rd
      have hkl : kvs.length = rds.length := paired_len r2
      refine ⟨fun bt H' => H' = Ha ∧ (bt = true → rds.length < 3), ?_, ?_⟩
      · refine ⟨_, rfl, rfl, _, rfl, ite2 (fun _ => ?_) (fun _ => ⟨rfl, fun z => by cases z⟩)⟩
        refine ⟨_, rfl, rd, kvs, rfl, r1, _, _, rfl, rfl, _, rfl, rfl, fun z => ?_⟩
        have z1 : ((kvs.length : Nat) : Int) < 3 := of_decide_eq_true z
        omega
      rintro bt H' ⟨rfl, hb3⟩
      cases bt with
      | true =>
        have h3 := hb3 rfl
        refine iteT ?_
        refine ⟨by show 3 ≤ sizeLine; decide, fun D hD => ?_⟩
        have kD : Kp [] H' (upd H' D (.lst [.str "R", .str "QQ", .str "ABCDEFGH"])) := .new hD
        refine ⟨_, rfl, rd, kvs, rfl, kD.keep _ _ r1 (by simp), D, _, _, _, rfl, rfl, SqL.of upd_same, (by rw [hkl]; exact atI_nat (rdn_at h3)), ?_⟩
        have lhb := lha.kp0 kD
        have hPlb := IsPl.kp hPla kD
        have htab := kpT htaa kD
        have htvb := pkp htva fun _ _ z => IsWr.kp z kD
        generalize upd H' D (.lst [.str "R", .str "QQ", .str "ABCDEFGH"]) = Hb at lhb hPlb htab htvb ⊢
        refine ⟨_, rfl, _, rfl, ra, .ref tn, tp p told, rfl, lhb.row, hPlb, hpok, fun Hc aR bR us st ks kR hRR hLR hSq hSb hlk => ?_⟩
        have lhc := lhb.kp kR hRR
        have htac := kpT htab kR
        have htvc := pkp htvb fun _ _ z => IsWr.kp z kR
        obtain ⟨k0, ks', rfl⟩ : ∃ k0 r, ks = k0 :: r := by
          have := hLR.n0
          cases ks with
          | nil => exact absurd this (by decide)
          | cons x r => exact ⟨x, r, rfl⟩
        have hLR : LRd.Ok p.cells told.length st (k0 :: ks') := hLR
        obtain ⟨f1, f2, f3, f4⟩ := rd_fresh g.rn h3
        refine ⟨aR, _, rfl, hSq, rfl, _, _, rfl, _, _, rfl, rfl, ?_⟩
        refine ⟨_, rfl, _, rfl, by show 2 ≤ sizeLine; decide, fun t2 ht2 => ?_⟩
        have kt2 : Kp [] Hc (upd Hc t2 (.tup [startV st, .ref bR])) := .new ht2
        have st2 : SqT K (upd Hc t2 (.tup [startV st, .ref bR])) t2 [startV st, .ref bR] := SqT.of upd_same
        have lhd := lhc.kp0 kt2
        have hSbd := kpT hSb kt2
        have hlkd := pkp hlk fun _ _ z => IsLk.kp z kt2
        have htad := kpT htac kt2
        have htvd := pkp htvc fun _ _ z => IsWr.kp z kt2
        generalize upd Hc t2 (.tup [startV st, .ref bR]) = Hd at st2 lhd hSbd hlkd htad htvd ⊢
        obtain ⟨kvs2, q1, q2⟩ := lhd.rd
        have hkl2 : kvs2.length = rds.length := paired_len q2
        have hnone : valV kvs2 (.inr (strL (rdN.getD rds.length []))) = none := rd_none q2 (by rw [f1]; rfl)
        have hIs : IsRdr K Hd (.ref t2) (rdOf (st, k0 :: ks')) := ⟨t2, bR, us, rfl, st2, hSbd, hlkd⟩
        refine ⟨_, rfl, _, rfl, rd, _, rfl, DPut.k (k := .inr (strL (rdN.getD rds.length []))) q1 (by have : (1000 : Nat) ≤ sizeLine := by decide
                                                                                                      omega), ?_⟩
        obtain ⟨lhe, ke⟩ := lhd.addRd q1 hIs hnone
        have hSbe := kpT hSbd ke
        have hlke := pkp hlkd fun _ _ z => IsLk.kp z ke
        have htae := kpT htad ke
        have htve := pkp htvd fun _ _ z => IsWr.kp z ke
        generalize upd Hd rd (.dK (putK kvs2 (.inr (strL (rdN.getD rds.length []))) (.ref t2))) = He at lhe hSbe hlke htae htve ⊢
        have hz8 : (strL (rdN.getD rds.length [])).length ≤ 8 := (name_w (.inr f2)).2.2
        have tn4 := g.tn
        refine ⟨fun σ H' => ∃ (o14 o15 o16 : Option V) (hd : V), hd = .str (strL (startT st)) ∧ σ = sgL sc a b c nl rl rd dl ll ra ta' p.cells (some (.str (strL (rdN.getD rds.length [])))) o9 o14 o15 o16 o17 o18 o19 o20 o21 (some (startV st)) (some (.ref bR)) (some hd) o25 o26 o27 o28 o29 o30 o31 ∧ H' = He, ?_, ?_⟩
        · refine ⟨_, rfl, rfl, _, rfl, ?_⟩
          cases st with
          | none => exact iteDT rfl ⟨_, _, _, .str (strL (startT none)), rfl, rfl, rfl⟩
          | some n =>
            have hn : n < 10 := by have := hLR.st n rfl; omega
            refine iteDF (by intro z; cases z) ⟨_, rfl, _, rfl, num_log hn, ?_⟩
            rw [num_str hn]
            have e : ("write " : Str) ++ strL (numW n) = strL (startT (some n)) := by
              show strL (kw "write ") ++ strL (numW n) = _
              rw [strL_app]
              rfl
            exact ⟨_, _, rfl, rfl, sz2 (m := 9) (n := 1) (by decide +kernel) (Nat.le_refl 1) (by decide), _, _, _, _, congrArg V.str e, rfl, rfl⟩
        rintro σ Hx ⟨o14, o15, o16, hd, rfl, rfl, rfl⟩
        have hul : us.length = (k0 :: ks').length := by rw [paired_len hlke, List.length_map]
        have hkn := hLR.n1
        refine ⟨_, rfl, bR, rfl, ⟨_, hSbe⟩, fun D2 hD2 => lc_tup (xs := us) (fun i H1 => Kp [] Hx H1 ∧ H1 D2 = some (.lst (((((k0 :: ks').take i).map lkT).map strL).map V.str))) ⟨.new hD2, upd_same⟩ (fun i H _ h => kpT hSbe h.1) ?_ ?_⟩
        · rintro j y H1 hy ⟨k1, hD1⟩
          obtain ⟨lk, hlk1, gg, rfl, hg⟩ := paired_at hlke hy
          rw [List.getElem?_map] at hlk1
          obtain ⟨pk', hpk, rfl⟩ := Option.map_eq_some_iff.mp hlk1
          have hj : j < us.length := (List.getElem?_eq_some_iff.mp hy).1
          obtain ⟨u1, u2, u3, u4⟩ := hLR.ls pk' (List.mem_of_getElem? hpk)
          have m1 : pk'.cell < 10 := by omega
          have m2 : pk'.low < 10 := by omega
          have m3 : pk'.high < 10 := by omega
          have hg : SqT K Hx gg [.int (pk'.cell : Nat), .int (pk'.low : Nat), .int (pk'.high : Nat)] := hg
          refine ⟨gg, _, rfl, kpT hg k1, rfl, _, _, rfl, _, _, rfl, _, _, rfl, rfl, rfl, tyes ?_⟩
          refine iteT ?_
          refine ⟨_, rfl, _, rfl, num_log m1, ?_⟩
          rw [num_str m1]
          have p1 := apl (m := 1) (n := 4) (a := strL (numW pk'.cell)) (b := (" at " : Str)) (Nat.le_refl 1) (by decide +kernel)
          have p2 := apl (m := 5) (n := 1) (b := strL (numW pk'.low)) p1 (Nat.le_refl 1)
          have p3 := apl (m := 6) (n := 2) (b := (".." : Str)) p2 (by decide +kernel)
          refine ⟨_, _, rfl, rfl, sz2 (m := 1) (n := 4) (Nat.le_refl 1) (by decide +kernel) (by decide), ?_⟩
          refine ⟨_, rfl, _, rfl, num_log m2, ?_⟩
          rw [num_str m2]
          refine ⟨_, _, rfl, rfl, sz2 (m := 5) (n := 1) p1 (Nat.le_refl 1) (by decide), ?_⟩
          refine ⟨_, _, rfl, rfl, sz2 (m := 6) (n := 2) p2 (by decide +kernel) (by decide), ?_⟩
          refine ⟨_, rfl, _, rfl, num_log m3, ?_⟩
          rw [num_str m3]
          refine ⟨_, _, rfl, rfl, sz2 (m := 8) (n := 1) p3 (Nat.le_refl 1) (by decide), ?_⟩
          refine ⟨_, hD1, small1000 (by rw [List.length_map, List.length_map, List.length_map, List.length_take]; omega), k1.putN hD2, ?_⟩
          rw [upd_same, List.take_succ, hpk, List.map_append, List.map_append, List.map_append]
          show some (HO.lst (_ ++ [V.str (strL (numW pk'.cell) ++ strL (kw " at ") ++ strL (numW pk'.low) ++ strL (kw "..") ++ strL (numW pk'.high))])) = some (HO.lst (_ ++ [V.str (strL (lkT pk'))]))
          have el : strL (numW pk'.cell) ++ strL (kw " at ") ++ strL (numW pk'.low) ++ strL (kw "..") ++ strL (numW pk'.high) = strL (lkT pk') := by
            simp only [strL_app, lkT, restsT, List.append_assoc]
          rw [el]
        rintro Hf ⟨kf, hD2f⟩
        rw [List.take_of_length_le (by rw [hul]; exact Nat.le_refl _)] at hD2f
        have lhf := lhe.kp0 kf
        have htaf := kpT htae kf
        have htvf := pkp htve fun _ _ z => IsWr.kp z kf
        refine ⟨_, rfl, .inl ⟨rfl, _, SqL.of lhf.rl⟩, ?_⟩
        have w0 : (kw ", ").length = 2 := by decide +kernel
        have jl := joinL_len (kw ", ") ((k0 :: ks').map lkT)
        have jl2 : (joinL (kw ", ") ((k0 :: ks').map lkT)).length ≤ 100 := by
          rw [lks_len, List.length_map, w0] at jl
          omega
        have p1 : (("reader " : Str) ++ strL (rdN.getD rds.length [])).length ≤ 18 := apl (m := 10) (n := 8) (by decide +kernel) hz8
        have p2 := apl (m := 18) (n := 2) (b := (" " : Str)) p1 (by decide +kernel)
        have p3 := apl (m := 20) (n := 7) (b := strL (startT st)) p2 (startT_len st)
        have p4 := apl (m := 27) (n := 2) (b := (": " : Str)) p3 (by decide +kernel)
        refine ⟨_, rfl, _, _, rfl, rfl, sz2 (m := 10) (n := 8) (by decide +kernel) hz8 (by decide), ?_⟩
        refine ⟨_, _, rfl, rfl, sz2 (m := 18) (n := 2) p1 (by decide +kernel) (by decide), ?_⟩
        refine ⟨_, rfl, _, _, rfl, rfl, sz2 (m := 20) (n := 7) p2 (startT_len st) (by decide), ?_⟩
        refine ⟨_, _, rfl, rfl, sz2 (m := 27) (n := 2) p3 (by decide +kernel) (by decide), ?_⟩
        refine ⟨⟨_, rfl⟩, _, rfl, strL (kw ", "), D2, ((k0 :: ks').map lkT).map strL, rfl, rfl, .inl (SqL.of hD2f), join_sum (by rw [lks_len, List.length_map, w0]; omega), ?_⟩
        rw [tjoin_L]
        refine ⟨_, _, rfl, rfl, sz2 (m := 29) (n := 100) p4 jl2 (by decide), ?_⟩
        refine ⟨rl, _, .str (strL (lineT (.reader (rdN.getD rds.length []) st k0 ks'))), rfl, congrArg (fun z => [V.str z]) (line_reader _ st k0 ks'), lhf.rl, hrsz, ?_⟩
        obtain ⟨lhg, kg⟩ := lhf.addRow (x := lineT (.reader (rdN.getD rds.length []) st k0 ks'))
        refine ⟨told, rest, rds ++ [(rdN.getD rds.length [], (st, k0 :: ks'))], ss ++ [.reader (rdN.getD rds.length []) st k0 ks'], ta', tv, _, _, _, _, _, _, _, _, _, _, _, _, _, _, _, _, _, _, _, _, rfl, g.reader ok h3 hLR, ?_, hsum, hrest, kpT htaf kg, pkp htvf fun _ _ z => IsWr.kp z kg, by rw [List.length_append, List.length_singleton]; omega⟩
        rw [List.map_append, asks_write rfl]
        exact lhg
      | false =>
        refine iteF ?_
        refine ⟨fun bt H1 => Kp [] H' H1 ∧ (bt = true → rds ≠ []), ?_, ?_⟩
        · refine ⟨_, rfl, _, _, rfl, rfl, _, rfl, ite2 (fun _ => ?_) (fun _ => ⟨.refl _ _, fun z => by cases z⟩)⟩
          refine ⟨_, rfl, fun e0 he0 => ?_⟩
          have k0 : Kp [] H' (upd H' e0 (.dK [])) := .new he0
          refine ⟨rd, e0, kvs, rfl, rfl, k0.keep _ _ r1 (by simp), upd_same, _, rfl, k0, fun z e => ?_⟩
          have hk0 : kvs = [] := List.eq_nil_of_length_eq_zero (by rw [hkl, e]; rfl)
          rw [hk0] at z
          exact absurd z (by decide)
        rintro bt Hb ⟨kb, hbn⟩
        have lhb := lha.kp0 kb
        have hPlb := IsPl.kp hPla kb
        have htab := kpT htaa kb
        have htvb := pkp htva fun _ _ z => IsWr.kp z kb
        cases bt with
        | false =>
          refine iteF ?_
          exact ⟨told, rest, rds, ss, ta', tv, _, _, _, _, _, _, _, _, _, _, _, _, _, _, _, _, _, _, _, _, rfl, g, lhb, hsum, hrest, htab, htvb, by omega⟩
        | true =>
          refine iteT ?_
          have hne := hbn rfl
          obtain ⟨kvs, r1, r2⟩ := lhb.rd
          have hkl : kvs.length = rds.length := paired_len r2
          have hr3 := g.r3
          have hr0 : 1 ≤ rds.length := by
            cases rds with
            | nil => exact absurd rfl hne
            | cons _ _ => exact Nat.succ_le_succ (Nat.zero_le _)
          -- the name
          refine ⟨_, rfl, _, rfl, rd, kvs, rfl, .inl r1, fun D hD => ?_⟩
          have kD : Kp [] Hb (upd Hb D (.lst (kvs.map fun kv => kV kv.1))) := .new hD
          obtain ⟨rxs, hrx⟩ := lhb.row.some
          have nDr : D ≠ ra := fun e => by rw [e] at hD; rw [hrx] at hD; cases hD
          refine ⟨ra, D, _, rfl, (lhb.kp0 kD).row, upd_same, nDr, by rw [List.length_map]; omega, by rw [List.length_map]; omega, fun Hc x kc hRc hx => ?_⟩
          have lhc := (lhb.kp0 kD).kp kc hRc
          have kbc : Kp [ra] Hb Hc := kD.mono0.trans kc
          have hPlc := IsPl.kp hPlb kbc
          obtain ⟨⟨ky, vy⟩, hkv, rfl⟩ := List.mem_map.mp hx
          obtain ⟨m, hm⟩ := List.mem_iff_getElem?.mp hkv
          obtain ⟨en, hen, hky, _⟩ := paired_at r2 hm
          have hky : ky = .inr (strL en.1) := hky
          subst hky
          have hmem : en ∈ rds := List.mem_of_getElem? hen
          have hfind : (rds.find? fun y => decide (y.1 = en.1)).map (·.2) = some en.2 := by
            have := g.rd_of hmem
            rw [g.st] at this
            exact this
          obtain ⟨kvc, c1', c2'⟩ := lhc.rd
          obtain ⟨u, hu, hIs⟩ := rd_at c2' hfind
          have hg : DGet Hc rd (.str (strL en.1)) (some u) := by
            have := DGet.k (k := .inr (strL en.1)) c1'
            rw [hu] at this
            exact this
          have hLR := g.rd en hmem
          have rok : (rdOf en.2).Ok (tp p told).pl := LRd.Ok.rdr (p := tp p told) hLR
          have nar := nar_of hpok hLR
          -- its readings
          refine ⟨_, rfl, _, rfl, _, rfl, rd, _, rfl, hg, .ref tn, u, (tp p told).pl, rdOf en.2, rfl, hPlc, hpok.pl, hIs, rok, nar, fun Hd Dk kd hDn hL => ?_⟩
          have lhd := lhc.kp0 kd
          have hgd : DGet Hd rd (.str (strL en.1)) (some u) := by
            have := DGet.k (k := .inr (strL en.1)) (kd.keep _ _ c1' (by simp))
            rw [hu] at this
            exact this
          have nDk : Dk ≠ ra := fun e => by
            obtain ⟨_, h⟩ := lhc.row.some
            rw [e] at hDn
            rw [h] at hDn; cases hDn
          obtain ⟨kvsK, zsK, hDk, hkz, hnd, hrds⟩ := hL
          obtain ⟨ar, br, lv, rfl, hsqa, hsqb, hlks⟩ := IsRdr.kp hIs kd
          have hlv : lv.length = en.2.2.length := by rw [paired_len hlks]; exact List.length_map ..
          have hL0 := hLR.n0
          have hL1 := hLR.n1
          refine ⟨_, rfl, _, rfl, _, rfl, rd, _, rfl, hgd, ar, _, _, _, rfl, rfl, hsqa, rfl, _, _, rfl, .inr ⟨_, hsqb, rfl⟩, ra, lv.length, rfl, lhd.row, by omega, by omega, fun He vc cl ke hRe hcl cok csm cht cpt => ?_⟩
          rw [hlv] at cok
          have cpt8 : cl.parts + 1 ≤ 8 := cpt
          have lhe := lhd.kp ke hRe
          have hDke := ke.keep _ _ hDk (by simp [nDk])
          refine ⟨_, rfl, vc, cl, 1, rfl, hcl, csm, by omega, by omega, ?_⟩
          have h64 : zsK.length < 64 := few hpok.pl rok hnd fun z hz => (hrds z).mp hz
          have hkn : kvsK.length = zsK.length := by have := congrArg List.length hkz; rwa [List.length_map, List.length_map] at this
          refine ⟨fun σ H1 => ∃ (o14 o15 o16 o30 : Option V) (bs : Bool), σ = sgL sc a b c nl rl rd dl ll ra ta' p.cells (some (.str (strL en.1))) o9 o14 o15 o16 o17 o18 o19 o20 o21 o22 o23 o24 o25 (some (.ref Dk)) (some vc) (some (.str (strL (clT cl 1)))) (some (.bl bs)) o30 o31 ∧ Kp [] He H1 ∧ (bs = true ↔ ∀ y, Rds (tp p told).pl (rdOf en.2) y → clSo y cl = true), ?_, ?_⟩
          · refine ⟨Dk, _, hDke, trivial, fun od => ?_⟩
            have hi1 : upd He Dk (.frz od (.dK kvsK)) Dk = some (.frz od (.dK kvsK)) := upd_same
            have kf : Kp [Dk] He (upd He Dk (.frz od (.dK kvsK))) := .put (by simp) hDke rfl
            have hcl1 := IsCl.kp kf hcl
            refine ⟨_, rfl, Dk, od, rfl, .inl ⟨kvsK, hi1, fun B hB => lc_it walk_keys (fun i H1 => Kp [] (upd He Dk (.frz od (.dK kvsK))) H1 ∧ ∃ bs : List (List Nat), H1 B = some (.lst (bs.map fun z => V.str (strL z))) ∧ bs = (zsK.take i).filter (fun z => !clSo z cl) ∧ bs.length ≤ i)
              ⟨.new hB, [], upd_same, rfl, Nat.le_refl _⟩ (fun i H1 _ h => h.1.keep _ _ hi1 (by simp)) ?_ ?_⟩⟩
            · rintro j y H1 H2 hj ⟨k1, bs, hB1, hbs, hbl⟩ ⟨rfl, k, v, hkv, rfl⟩
              obtain ⟨z, hz, rfl⟩ : ∃ z, zsK[j]? = some z ∧ k = .inr (strL z) := by
                have h1 : (kvsK.map (·.1))[j]? = some k := by rw [List.getElem?_map, hkv]; rfl
                rw [hkz, List.getElem?_map] at h1
                obtain ⟨z, hz, e⟩ := Option.map_eq_some_iff.mp h1
                exact ⟨z, hz, e.symm⟩
              have hzr := (hrds z).mp (List.mem_of_getElem? hz)
              have hzl : z.length = en.2.2.length := by rw [rds_len hzr]; exact List.length_map ..
              refine ⟨rfl, ?_⟩
              refine ⟨_, rfl, _, rfl, z, vc, cl, rfl, IsCl.kp k1 hcl1, by rw [hzl]; exact cok, by omega, by omega, ?_⟩
              have enx : (zsK.take (j + 1)).filter (fun z => !clSo z cl) = bs ++ (if !clSo z cl then [z] else []) := by
                rw [List.take_succ, hz, List.filter_append, ← hbs]
                congr 1
                show List.filter (fun z => !clSo z cl) [z] = _
                rw [List.filter_cons, List.filter_nil]
              refine ⟨_, rfl, ?_⟩
              cases hso : clSo z cl with
              | true =>
                refine iteF ⟨k1, bs, hB1, ?_, by omega⟩
                rw [enx, hso]; simp
              | false =>
                refine iteT ⟨_, rfl, _, hB1, small1000 (by rw [List.length_map]; omega), k1.putN hB, bs ++ [z], by rw [upd_same, List.map_append]; rfl, ?_, by rw [List.length_append, List.length_singleton]; omega⟩
                rw [enx, hso]; rfl
            rintro H1 ⟨k1, bs, hB1, hbs, hbl⟩
            rw [hkn, List.take_length] at hbs
            have hix := k1.keep _ _ hi1 (by simp)
            refine ⟨hix, ?_⟩
            have k2 : Kp [] He (upd H1 Dk (.dK kvsK)) := Kp.unlock hDke rfl k1
            have nBD : B ≠ Dk := fun e => by rw [e, hi1] at hB; cases hB
            have hB2 : upd H1 Dk (.dK kvsK) B = some (.lst (bs.map fun z => V.str (strL z))) := by rw [upd_ne nBD]; exact hB1
            refine ⟨by show 0 ≤ sizeLine; decide, fun e0 he0 => ?_⟩
            have hB4 := (Kp.new (S := []) (o := .lst []) he0).keep _ _ hB2 (by simp)
            have hbz : ∀ z ∈ bs, z ∈ zsK ∧ clSo z cl = false := fun z hz => by
              rw [hbs] at hz
              obtain ⟨h1, h2⟩ := List.mem_filter.mp hz
              exact ⟨h1, by simpa using h2⟩
            have key : PyData.eqv (.list (bs.map fun z => PyData.str (strL z))) (.list []) = true ↔ ∀ y, Rds (tp p told).pl (rdOf en.2) y → clSo y cl = true := by
              have k1 : PyData.eqv (.list (bs.map fun z => PyData.str (strL z))) (.list []) = true ↔ bs = [] := by
                cases bs with
                | nil => exact ⟨fun _ => rfl, fun _ => rfl⟩
                | cons z r => exact ⟨(fun h => by cases (show false = true from h)), (fun h => by cases h)⟩
              rw [k1]
              constructor
              · intro e y hy
                cases hso : clSo y cl with
                | true => rfl
                | false =>
                  have hm : y ∈ bs := by
                    rw [hbs]
                    exact List.mem_filter.mpr ⟨(hrds y).mpr hy, by rw [hso]; rfl⟩
                  rw [e] at hm; cases hm
              · intro h
                cases hbb : bs with
                | nil => rfl
                | cons z r =>
                  obtain ⟨h1, h2⟩ := hbz z (by rw [hbb]; exact List.mem_cons_self)
                  rw [h z ((hrds z).mp h1)] at h2
                  cases h2
            refine ⟨_, _, .lst (SqL.of hB4) (dp_strs bs), .lst (SqL.of upd_same) .nil, shaped_strs (fun z hz => rds_codes hpok.pl ((hrds z).mp (hbz z hz).1)), rfl, ?_⟩
            exact ⟨_, _, _, _, _, rfl, k2.newT he0, key⟩
          rintro σ Hf ⟨o14, o15, o16, o30, bs, rfl, kf, hbs⟩
          have lhf := lhe.kp0 kf
          have kbf : Kp [ra] Hb Hf := ((kbc.trans kd.mono0).trans ke).trans kf.mono0
          have hDkf := kf.keep _ _ hDke (by simp)
          have hw := name_w (.inr (show en.1 ∈ rdN by
            have : en.1 ∈ rds.map (·.1) := List.mem_map.mpr ⟨en, hmem, rfl⟩
            rw [g.rn] at this
            exact List.mem_of_mem_take this))
          have hz8 : (strL en.1).length ≤ 8 := hw.2.2
          have hcT : (strL (clT cl 1)).length ≤ 144 := clT_2 cht 1
          -- the ask's row
          refine ⟨_, rfl, .inl ⟨rfl, _, SqL.of lhf.rl⟩, ?_⟩
          have pa1 : (("sure " : Str) ++ strL en.1).length ≤ 13 := apl (m := 5) (n := 8) (by decide +kernel) hz8
          have pa2 := apl (m := 13) (n := 1) (b := (" " : Str)) pa1 (by decide +kernel)
          have pb1 : (("slack " : Str) ++ strL en.1).length ≤ 14 := apl (m := 6) (n := 8) (by decide +kernel) hz8
          have pb2 := apl (m := 14) (n := 3) (b := (" 0 " : Str)) pb1 (by decide +kernel)
          refine ⟨_, rfl, _, rfl, _, _, rfl, rfl, sz2 (m := 6) (n := 8) (by decide +kernel) hz8 (by decide), ?_⟩
          refine ⟨_, rfl, _, _, rfl, rfl, sz2 (m := 5) (n := 8) (by decide +kernel) hz8 (by decide), _, _, rfl, rfl, sz2 (m := 13) (n := 1) pa1 (by decide +kernel) (by decide), _, rfl, _, _, rfl, rfl, sz2 (m := 14) (n := 144) pa2 hcT (by decide), ?_⟩
          refine ⟨_, rfl, _, _, rfl, rfl, sz2 (m := 6) (n := 8) (by decide +kernel) hz8 (by decide), _, _, rfl, rfl, sz2 (m := 14) (n := 3) pb1 (by decide +kernel) (by decide), _, rfl, _, _, rfl, rfl, sz2 (m := 17) (n := 144) pb2 hcT (by decide), ?_⟩
          refine ⟨by show 3 ≤ sizeLine; decide, fun D3 hD3 => ?_⟩
          have kD3 : Kp [] Hf (upd Hf D3 (.lst [.str (("reads " : Str) ++ strL en.1), .str (("sure " : Str) ++ strL en.1 ++ " " ++ strL (clT cl 1)), .str (("slack " : Str) ++ strL en.1 ++ " 0 " ++ strL (clT cl 1))])) := .new hD3
          have nD3 : D3 ≠ ra := fun e => by
            obtain ⟨_, h⟩ := lhf.row.some
            rw [e] at hD3
            rw [h] at hD3; cases hD3
          refine ⟨ra, D3, _, rfl, (lhf.kp0 kD3).row, upd_same, nD3, by show 1 ≤ 3; decide, by show 3 ≤ 1000; decide, fun Hg x kg hRg hx => ?_⟩
          have lhg := (lhf.kp0 kD3).kp kg hRg
          obtain ⟨st, hst, rfl⟩ : ∃ st, AskIs en.1 cl st ∧ x = .str (strL (askT st)) := by
            have hx : x = .str (("reads " : Str) ++ strL en.1) ∨ x = .str (("sure " : Str) ++ strL en.1 ++ " " ++ strL (clT cl 1)) ∨ x = .str (("slack " : Str) ++ strL en.1 ++ " 0 " ++ strL (clT cl 1)) := by simpa using hx
            rcases hx with e | e | e
            · refine ⟨.reads en.1, .inl rfl, ?_⟩
              rw [e]
              show V.str (strL (kw "reads ") ++ strL en.1) = V.str (strL (kw "reads " ++ en.1))
              rw [strL_app]
            · refine ⟨.sure en.1 cl, .inr (.inl rfl), ?_⟩
              rw [e]
              show V.str (strL (kw "sure ") ++ strL en.1 ++ strL (kw " ") ++ strL (clT cl 1)) = V.str (strL (kw "sure " ++ en.1 ++ kw " " ++ clT cl 1))
              rw [strL_app, strL_app, strL_app]
            · refine ⟨.slack en.1 0 cl, .inr (.inr rfl), ?_⟩
              rw [e]
              show V.str (strL (kw "slack ") ++ strL en.1 ++ strL (kw " 0 ") ++ strL (clT cl 1)) = V.str (strL (kw "slack " ++ en.1 ++ kw " 0 " ++ clT cl 1))
              rw [strL_app, strL_app, strL_app]
          refine ⟨_, _, rfl, rfl, sz2 (m := 4) (n := 170) (by decide +kernel) (askT_len hst hw.2.2 cht) (by decide), ?_⟩
          refine ⟨rl, _, .str (strL (lineT st)), rfl, congrArg (fun z => [V.str z]) (ask_line hst), lhg.rl, hrsz, ?_⟩
          obtain ⟨lhh, kh⟩ := lhg.addRow (x := lineT st)
          have kbh : Kp [ra, rl] Hb (upd Hg rl (.lst (strsV ((kw "cells " ++ numW p.cells) :: ss.map lineT) ++ [.str (strL (lineT st))]))) := ((kbf.trans (kD3.mono0.trans kg)).mono (by simp)).trans (kh.mono (by simp))
          have hDkh := kh.keep _ _ ((kD3.mono0.trans kg).keep _ _ hDkf (by simp [nDk])) (by
            have := ne_of hDkf lhf.rl (by intro z; cases z)
            simp [this])
          generalize upd Hg rl (.lst (strsV ((kw "cells " ++ numW p.cells) :: ss.map lineT) ++ [.str (strL (lineT st))])) = Hh at lhh kbh hDkh ⊢
          refine ⟨fun σ H1 => ∃ (o14 o15 o16 o30 : Option V), σ = sgL sc a b c nl rl rd dl ll ra ta' p.cells (some (.str (strL en.1))) o9 o14 o15 o16 o17 o18 o19 o20 o21 o22 o23 o24 o25 (some (.ref Dk)) (some vc) (some (.str (strL (clT cl 1)))) (some (.bl bs)) o30 (some (.str (askWd st))) ∧ Kp [] Hh H1, ?_, ?_⟩
          · have hlast : atI (strsV (((kw "cells " ++ numW p.cells) :: ss.map lineT) ++ [lineT st])) (-1) = some (.str (strL (lineT st))) := by
              unfold strsV
              rw [List.map_append]
              exact last_at _ _
            have hw1 : atI ((Txt.split (strL (lineT st)) " ").map V.str) ((1 : Nat) : Int) = some (.str (askWd st)) := atI_nat (by rw [List.getElem?_map, ask_split hst]; rfl)
            have hl2 : (strL (lineT st)).length + 2 ≤ sizeLine := by
              have h1 : (lineT st).length ≤ 170 := ((g.ask ok hmem (hst.lask cok csm cht cpt8)).1.len st (by simp))
              have : (1000 : Nat) ≤ sizeLine := by decide
              show (lineT st).length + 2 ≤ _
              omega
            refine ⟨_, rfl, _, rfl, rl, _, _, _, rfl, rfl, SqL.of lhh.rl, hlast, ⟨_, rfl⟩, _, _, rfl, rfl, by decide, hl2, fun p1 hp1 => ⟨p1, _, _, _, rfl, rfl, SqL.of upd_same, hw1, ?_⟩⟩
            exact ⟨_, _, _, _, rfl, .new hp1⟩
          rintro σ Hi ⟨o14, o15, o16, o30, rfl, ki⟩
          have lhi := lhh.kp0 ki
          obtain ⟨us, d1, d2⟩ := lhi.dl
          have hDki := ki.keep _ _ hDkh (by simp)
          refine ⟨_, rfl, .inl ⟨rfl, _, SqL.of d1⟩, ?_⟩
          refine ⟨fun v H1 => Kp [] Hi H1 ∧ IsAns K H1 v ((tp p told).pl, rdOf en.2, st), ?_, ?_⟩
          · rcases hst with rfl | rfl | rfl
            · refine ⟨_, rfl, rfl, _, rfl, iteDT rfl ?_⟩
              have ek : (kvsK.map fun kv => kV kv.1) = (zsK.map strL).map V.str := by
                have := congrArg (List.map kV) hkz
                rw [List.map_map, List.map_map] at this
                rw [List.map_map]
                exact this
              refine ⟨_, rfl, Dk, kvsK, rfl, .inl hDki, fun p1 hp1 => ⟨p1, zsK.map strL, rfl, by rw [← ek]; exact SqL.of upd_same, by rw [List.length_map]; exact h64, fun ys p2 hperm hsort hp2 => ⟨p2, _, rfl, .inl ⟨SqL.of upd_same, fun p3 hp3 => ?_⟩⟩⟩⟩
              exact ⟨((Kp.new hp1).newT hp2).newT hp3, p3, ys, zsK, rfl, SqT.of upd_same, hperm, hsort, hnd, hrds⟩
            · refine ⟨_, rfl, rfl, _, rfl, iteDF (show ¬ V.str ("sure" : Str) = V.str "reads" by decide +kernel) ?_⟩
              exact ⟨_, rfl, rfl, _, rfl, iteDT rfl ⟨_, rfl, .refl _ _, (due_ans (z := en.1) (c := cl) hbs).1⟩⟩
            · refine ⟨_, rfl, rfl, _, rfl, iteDF (show ¬ V.str ("slack" : Str) = V.str "reads" by decide +kernel) ?_⟩
              refine ⟨_, rfl, rfl, _, rfl, iteDF (show ¬ V.str ("slack" : Str) = V.str "sure" by decide +kernel) ?_⟩
              refine ⟨_, rfl, _, rfl, ?_⟩
              cases bs with
              | true => exact iteT ⟨.refl _ _, (due_ans (z := en.1) (c := cl) hbs).2.1 rfl⟩
              | false => exact iteF ⟨.refl _ _, (due_ans (z := en.1) (c := cl) hbs).2.2 rfl⟩
          rintro v Hj ⟨kj, hans⟩
          have lhj := lhi.kp0 kj
          have d1j := kj.keep _ _ d1 (by simp)
          have hus : us.length ≤ 1000 := by
            have h1 := paired_len d2
            have h2 := asks_len (cells := p.cells) (ss := ss) (S := S0)
            omega
          have hus2 : us.length < sizeLine := by
            have : (1001 : Nat) ≤ sizeLine := by decide
            omega
          refine ⟨dl, us, v, rfl, rfl, d1j, hus2, ?_⟩
          obtain ⟨lhk, kk⟩ := lhj.addDue d1j hans
          obtain ⟨g2, has⟩ := g.ask ok hmem (hst.lask cok csm cht cpt8)
          refine ⟨told, rest, rds, ss ++ [st], ta', tv, _, _, _, _, _, _, _, _, _, _, _, _, _, _, _, _, _, _, _, _, rfl, g2, ?_, hsum, hrest, ?_, ?_, by rw [List.length_append, List.length_singleton]; omega⟩
          · rw [List.map_append, has]
            exact lhk
          · exact kpT (kpT (kpT (kpT htab kbh) ki) kj) kk
          · exact pkp htvb fun _ _ z => (((IsWr.kp z kbh).kp ki).kp kj).kp kk
  · rintro σ H7 ⟨told, rest, rds, ss, ta', tv, o8, o9, o14, o15, o16, o17, o18, o19, o20, o21, o22, o23, o24, o25, o26, o27, o28, o29, o30, o31, rfl, g, lh7, hsum, hrest, htv, htvp, hssn⟩
    have hssn : ss.length ≤ 11 := by omega
    have hrl := lh7.rl
    have wl := whole_len (cells := p.cells) g.len hssn
    have rsm := rows_sum g.len
    have pok : ProgOk p.cells ss := ⟨c0, by omega, g.v, by omega⟩
    have lexW := lex_whole (ss := ss) hc9 g.nm
    have e1 : (kw "cells " ++ numW p.cells ++ kw ";").length = 8 := by
      rw [List.length_append, List.length_append]
      have : (kw "cells ").length = 6 := by decide +kernel
      have : (kw ";").length = 1 := by decide +kernel
      have : (numW p.cells).length = 1 := rfl
      omega
    have e2 : (kw "\n").length = 1 := by decide +kernel
    have ersum : ((((kw "cells " ++ numW p.cells ++ kw ";") :: ss.map stT).map (·.length)).sum + ((kw "cells " ++ numW p.cells ++ kw ";") :: ss.map stT).length * (kw "\n").length) ≤ 16777216 := by
      rw [List.map_cons, List.sum_cons, e1, List.length_cons, List.length_map, e2]
      omega
    have erw : ((kw "cells " ++ numW p.cells) :: ss.map lineT).map (fun r => strL (r ++ kw ";")) = ((kw "cells " ++ numW p.cells ++ kw ";") :: ss.map stT).map strL := by
      rw [List.map_cons, List.map_cons, List.map_map, List.map_map]; rfl
    have hrl17 : ∀ r ∈ (kw "cells " ++ numW p.cells) :: ss.map lineT, r.length ≤ 170 := fun r hr => by
      rcases List.mem_cons.mp hr with e | e
      · rw [e, List.length_append]
        have : (kw "cells ").length = 6 := by decide +kernel
        have : (numW p.cells).length = 1 := rfl
        omega
      · obtain ⟨s, hs, rfl⟩ := List.mem_map.mp e
        exact g.len s hs
    have hrn : ((kw "cells " ++ numW p.cells) :: ss.map lineT).length ≤ 12 := by rw [List.length_cons, List.length_map]; omega
    generalize (kw "cells " ++ numW p.cells) :: ss.map lineT = rows at hrl erw hrl17 hrn
    refine ⟨⟨_, rfl⟩, _, rfl, rl, rfl, ⟨_, SqL.of hrl⟩, fun D hD => ?_⟩
    refine lc_list (xs := strsV rows) (fun i H' => Kp [] H7 H' ∧ H' D = some (.lst (((rows.take i).map fun r => strL (r ++ kw ";")).map V.str))) ⟨.new hD, upd_same⟩ (fun i H' _ h => SqL.of (h.1.keep _ _ hrl (by simp))) ?_ ?_
    · rintro i x H8 hx ⟨k8, hD8⟩
      unfold strsV at hx
      rw [List.getElem?_map] at hx
      obtain ⟨r, hr, rfl⟩ := Option.map_eq_some_iff.mp hx
      have hir : i < rows.length := (List.getElem?_eq_some_iff.mp hr).1
      refine ⟨rfl, tyes ?_⟩
      refine iteT ?_
      refine ⟨_, rfl, _, _, rfl, rfl, sz2 (m := 170) (n := 1) (hrl17 r (List.mem_of_getElem? hr)) (by decide +kernel) (by decide), ?_⟩
      refine ⟨_, hD8, small1000 (by rw [List.length_map, List.length_map, List.length_take]; omega), k8.putN hD, ?_⟩
      rw [upd_same, List.take_succ, hr, List.map_append, List.map_append]
      show some (HO.lst (_ ++ [V.str (strL r ++ ";")])) = some (HO.lst (_ ++ [V.str (strL (r ++ kw ";"))]))
      rw [← strL_app]
      rfl
    rintro H8 ⟨k8, hD8⟩
    have hsvl : (strsV rows).length = rows.length := by unfold strsV; exact List.length_map ..
    rw [hsvl, List.take_length, erw] at hD8
    refine ⟨strL (kw "\n"), D, _, rfl, rfl, .inl (SqL.of hD8), join_sum ersum, ?_⟩
    rw [tjoin_L]
    have lh8 := lh7.kp0 k8
    refine ⟨_, rfl, _, rfl, ra, wholeT p.cells ss, rfl, lh8.row, by omega, fun H9 ds k9 hR9 hdl hlex => ?_⟩
    have lh9 := lh8.kp k9 hR9
    have hdz : (strL ds).length ≤ sizeLine := Nat.le_trans hdl (by decide)
    refine ⟨_, rfl, _, _, rfl, ⟨hdz, rfl⟩, _, _, rfl, rfl, _, rfl, ite2 (fun _ => q _) (fun hc => ?_)⟩
    have hd19 : ds.length ≤ 1900 := by
      have h1 : ¬ ((strL ds).length : Int) > 1900 := fun z => hc (decide_eq_true z)
      have h2 : ((strL ds).length : Int) = (ds.length : Nat) := rfl
      omega
    have lexD := hlex _ lexW
    refine ⟨fun b H' => b = false ∧ Kp [] H9 H', ?_, ?_⟩
    · refine ⟨_, rfl, wholeT p.cells ss, p.cells, ss, rfl, lexW, wl, pok, fun Ha ka => ⟨_, rfl, rfl, _, rfl, iteNF rfl ?_⟩⟩
      refine ⟨_, rfl, ds, p.cells, ss, rfl, lexD, by omega, pok, fun Hb kb => ⟨_, rfl, rfl, _, rfl, iteNF rfl ?_⟩⟩
      exact ⟨_, rfl, ds, p.cells, ss, rfl, lexD, by omega, pok, fun Hc kc => ⟨rfl, _, rfl, rfl, (ka.trans kb).trans kc⟩⟩
    rintro b Ha ⟨rfl, ka⟩
    refine iteF ?_
    have lha := lh9.kp0 ka
    refine ⟨_, rfl, ds, p.cells, ss, rfl, lexD, by omega, pok, g.r, fun Hb ar av kb har hav => ?_⟩
    have lhb := lha.kp0 kb
    obtain ⟨us, d1, d2⟩ := lhb.dl
    refine ⟨_, rfl, dl, us, rfl, .inl ⟨SqL.of d1, fun tq htq => ?_⟩⟩
    have kt : Kp [] Hb (upd Hb tq (.tup us)) := .new htq
    refine ⟨_, _, rfl, .inr ⟨ar, tq, av, us, rfl, rfl, kpT har kt, SqT.of upd_same, ?_, paired_alk (asks_ok g.r) (pkp hav fun _ _ z => z.kp kt) (pkp d2 fun _ _ z => z.kp kt)⟩, fun H' _ => q _⟩
    have h1 := paired_len hav
    have h2 := asks_len (cells := p.cells) (ss := ss) (S := S0)
    omega
end
end Ink
set_option Elab.async false
set_option linter.all false
set_option maxRecDepth 100000
set_option maxHeartbeats 0
namespace Ink
open PySem PySem.Spec PyProof.Rows L2 StX
theorem sc_of {K : PySem.W.Frag} {H : Hp} {a : Addr} {xs : List V} (hO : Only H) (hS : SqL K H a xs) : ScOk K H a xs := by
  rcases hS with (h | ⟨o, h⟩) | h
  · rcases hO a with z | ⟨o, ys, z⟩
    · rw [z] at h; cases h
    · rw [z] at h; cases h
  · exact .inl ⟨o, h⟩
  · exact .inr h
theorem facts {P : Program} {w : World} {K : PySem.W.Frag} {h : Heap} {mg : Str → Option Value} {f : Addr} (X : K.In h) (G : h.Ns mainGlobals mg) (hfa : mg ("law" : Str) = some (.ref f)) (S : SaysS w K) :
    ∃ fd : FuncData, (∀ (s : Shared) (v : Value), BindsTo s fd ⟨[v], []⟩ [("_law_script", v)]) ∧ ∀ base : Heap, K.In base → base.Ns mainGlobals mg → FnOk P w K mg base CX0 30 f fd ["_law_script"] (sp_law K) := by
  have T : Txt w K mg := ⟨h, X, G, S⟩
  have e := hfa.symm.trans (d_law T).m
  cases e
  have b := FunD.bindsA (ps := ["_law_script"]) (d_law T).F fun _ _ _ _ _ _ us hl => match us, hl with | [_], _ => rfl
  exact ⟨fdA K (He.ga K "law"), fun s v => b s [v] rfl, fun base _ _ => ok_law (P := P) (base := base) T⟩
end Ink
open PySem PySem.W PySem.Calls PyProof.Rows
theorem PySem.Challenge.cw_fadinginks_k10_whole_programs_holds : PySem.Challenge.rw_fadinginks_k10_whole_programs.Holds := by
  w_on; o_law
  refine HandSHeadRun.head_any (r := OpenLaw.row PySem.Challenge.rw_fadinginks_k10_whole_programs) (q := view (OpenLaw.row PySem.Challenge.rw_fadinginks_k10_whole_programs).prog [97]) (H := Ink.hk) (ob := Ink.ob) (M := 20000) (loose := Ink.names) (d := HandSHeadRun.topDef (OpenLaw.row PySem.Challenge.rw_fadinginks_k10_whole_programs).prog 97) (kwd := []) Ink.ob_eq
    (by kernel_rfl) (fun s => by kernel_rfl) Ink.run (by kernel_rfl) (by kernel_rfl) (by kernel_rfl) (by rfl) (by first | assumption | decide +kernel) (by decide +kernel) ⟨rfl, rfl, rfl, rfl, rfl, by decide +kernel⟩ ?hw ?hc
  case hw => w_witness2
  case hc =>
    refine L2.walk_ofE (l := PySem.Challenge.rw_fadinginks_k10_whole_programs) (n := 63) (k := 30) (x := "_law_script") (CX := L2.CX0) rfl (by decide) (by kernel_rfl) ⟨rfl, by decide, by decide⟩ ?F (fun _ _ _ _ z => z)
    intro w mg fa h Y G hmg0
    obtain ⟨K, KX, c⟩ := Y
    have hmg : mg ("law" : PySem.Str) = some (.ref fa) := by
      have e : (HandSHeadRun.topDef (OpenLaw.row PySem.Challenge.rw_fadinginks_k10_whole_programs).prog 97).name = ("law" : PySem.Str) := by kernel_rfl
      rw [← e]
      exact hmg0
    obtain ⟨fd, hb, hF⟩ := Ink.facts (P := (PySem.Challenge.rw_fadinginks_k10_whole_programs).prog) (w := w) KX G hmg c
    exact ⟨K, fd, Ink.sp_law K, KX, hb, fun H a ns hl hO hS => ⟨a, ns, rfl, Ink.sc_of hO hS, fun _ => rfl⟩, hF⟩
